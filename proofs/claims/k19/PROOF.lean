import PyProof.Rows.All
import Wide.All
import OpenK.AllK
import Wide.FinOn
import HandS.ForMost
import HandS.ForExc
import HandS.Lambda
import HandS.SlotsVar
import HandS.TupAny
import HandS.Wide
import HandS.WideBits
import HandS.TupMul
import HandS.SortInts
import HandS.EndTab
import KE.KNest
import HandS.Conv
import HandS.IsInst
import HandS.Zip
import KE.KRevSl
import HandS.Style
import HandS.SetFor
import HandS.Strs
import HandS.SetKeys
import HandS.Iter
import HandS.Ends
import HandS.WideMore
import KE.GoesEnum
import HandS.More
import HandS.Star
import HandS.SortRule
import HandS.NamedTupSort
import PyProof.P3In
import KE.KExcLine
import KE.KExcInit
import HandS.TryMany
import HandS.ExcField
import HandS.SlotsOwn
import PyProof.AssignAttr
import HandS.Property
import HandS.CallLocal
import HandS.DictComp
import PySem.Challenge.RW_ringtables_k19_errors_of_parts
set_option Elab.async false
set_option linter.all false
set_option maxRecDepth 100000
set_option maxHeartbeats 4000000
namespace PV
open PySem PySem.Spec PyProof.Rows L2
/-! ### data -/
inductive D where
  | non | bl (b : Bool) | int (i : Int) | str (s : Str)
  | tup (xs : List D) | lst (xs : List D)
  | dik (kvs : List (Key × D)) | dit (kvs : List (List Key × D))
  | ins (c : Str) (fs : List D)
  | slf (c : Str) (os : List (Option D))
  | fn (x : Str)
  | ro (xs : List D)
/-- an exception: its class by name, its fields -/
structure Xn where
  cls : Str
  fs : Option (List (Str × D))
inductive Sl where
  | no | fz (d : D) | ow (d : D) | rf (d : D)
abbrev En := List Sl
inductive R (α : Type) where
  | ok (a : α) (e : En) | er (x : Xn) (e : En) | no
def R.bind {α β : Type} (r : R α) (f : α → En → R β) : R β := match r with
  | .ok a e => f a e
  | .er x e => .er x e
  | .no => .no
/-! ### what stands for data -/
/-- a lambda's text, and the name of what it makes -/
structure LamD where
  q : Str
  params : Arguments
  body : Expr
  scope : Scope
/-- what a lambda without captured names made, at a; its code object stands at c -/
def LamU (L : LamD) (pm : Value) (c : Addr) (ctv : Value) : Obj := PySem.W.kla_obj "<lambda>" L.q L.params L.body L.scope [] pm c ctv
def LamAt (H : Hp) (u : Obj) : Prop := ∃ (c : Addr) (L : LamD) (pm ctv : Value), u = LamU L pm c ctv ∧ H c = some (LamX.CodeO c L.q)
/-- the tables, and what lambdas made -/
def TabX (T : List (Addr × Str)) (H : Hp) : Prop := LamX.Tabs T H ∧ ∀ a u x, H a = some (.frz u (.own x)) → LamAt H u
/-- the fixed things: the written part, the module's names, the tables, the lambdas that are held as values -/
structure Gc where
  K : PySem.W.Frag
  mg : Str → Option Value
  T : List (Addr × Str)
  lm : Str → Option LamD
  /-- the instance that an __init__ makes -/
  me : Addr
mutual
inductive Rep (g : Gc) (H : Hp) : D → V → Prop
  | non : Rep g H .non .non
  | bl {b} : Rep g H (.bl b) (.bl b)
  | int {i} : Rep g H (.int i) (.int i)
  | str {s} : Rep g H (.str s) (.str s)
  | tup {a xs vs} : SqT g.K H a vs → Reps g H xs vs → Rep g H (.tup xs) (.ref a)
  | lst {a xs vs} : H a = some (.lst vs) → Reps g H xs vs → Rep g H (.lst xs) (.ref a)
  | ro {a xs vs} : SqL g.K H a vs → Reps g H xs vs → Rep g H (.ro xs) (.ref a)
  | dik {a o xs vs} : H a = some (.frz o (.dK vs)) → RepK g H xs vs → Rep g H (.dik xs) (.ref a)
  | dit {a o xs vs} : H a = some (.frz o (.dT vs)) → RepT g H xs vs → Rep g H (.dit xs) (.ref a)
  | ins {a c C dx xs vs} : g.mg c = some (.ref C) → H dx = some (.own a) → dx ≠ a → H a = some (SlO C dx a (vs.map some)) → Reps g H xs vs → Rep g H (.ins c xs) (.ref a)
  | slfz {b c os} : Rep g H (.slf c os) (.ref b)
  | fn {x a} : g.mg x = some (.ref a) → Rep g H (.fn x) (.ref a)
  | lam {x a L pm b ctv} : g.mg x = none → g.lm x = some L → H a = some (.frz (LamU L pm b ctv) (.own a)) → Rep g H (.fn x) (.ref a)
inductive Reps (g : Gc) (H : Hp) : List D → List V → Prop
  | nil : Reps g H [] []
  | cons {x xs v vs} : Rep g H x v → Reps g H xs vs → Reps g H (x :: xs) (v :: vs)
inductive RepK (g : Gc) (H : Hp) : List (Key × D) → List (Key × V) → Prop
  | nil : RepK g H [] []
  | cons {k x xs v vs} : Rep g H x v → RepK g H xs vs → RepK g H ((k, x) :: xs) ((k, v) :: vs)
inductive RepT (g : Gc) (H : Hp) : List (List Key × D) → List (List Key × V) → Prop
  | nil : RepT g H [] []
  | cons {k x xs v vs} : Rep g H x v → RepT g H xs vs → RepT g H ((k, x) :: xs) ((k, v) :: vs)
inductive RepF (g : Gc) (H : Hp) : List (Str × D) → List (Str × V) → Prop
  | nil : RepF g H [] []
  | cons {k x xs v vs} : Rep g H x v → RepF g H xs vs → RepF g H ((k, x) :: xs) ((k, v) :: vs)
inductive RepQ (g : Gc) (H : Hp) : List (Option D) → List (Option V) → Prop
  | nil : RepQ g H [] []
  | non {xs vs} : RepQ g H xs vs → RepQ g H (Option.none :: xs) (Option.none :: vs)
  | cons {x xs v vs} : Rep g H x v → RepQ g H xs vs → RepQ g H (some x :: xs) (some v :: vs)
end
section
variable {g : Gc} {H H' : Hp}
theorem sqT_mono {K : PySem.W.Frag} {a : Addr} {xs : List V} (e : Same H H') (h : SqT K H a xs) : SqT K H' a xs := by
  rcases h with (h | ⟨o, h⟩) | h
  · exact .inl (.inl (e _ _ h))
  · exact .inl (.inr ⟨o, e _ _ h⟩)
  · exact .inr h
mutual
theorem Rep.mono (e : Same H H') {d : D} {v : V} : Rep g H d v → Rep g H' d v
  | .non => .non
  | .bl => .bl
  | .int => .int
  | .str => .str
  | .tup h r => .tup (sqT_mono e h) (Reps.mono e r)
  | .lst h r => .lst (e _ _ h) (Reps.mono e r)
  | .ro h r => .ro (e.seq h) (Reps.mono e r)
  | .dik h r => .dik (e _ _ h) (RepK.mono e r)
  | .dit h r => .dit (e _ _ h) (RepT.mono e r)
  | .ins m h n q r => .ins m (e _ _ h) n (e _ _ q) (Reps.mono e r)
  | .slfz => .slfz
  | .fn m => .fn m
  | .lam m l h => .lam m l (e _ _ h)
theorem Reps.mono (e : Same H H') {ds : List D} {vs : List V} : Reps g H ds vs → Reps g H' ds vs
  | .nil => .nil
  | .cons r t => .cons (Rep.mono e r) (Reps.mono e t)
theorem RepK.mono (e : Same H H') {ds : List (Key × D)} {vs : List (Key × V)} : RepK g H ds vs → RepK g H' ds vs
  | .nil => .nil
  | .cons r t => .cons (Rep.mono e r) (RepK.mono e t)
theorem RepT.mono (e : Same H H') {ds : List (List Key × D)} {vs : List (List Key × V)} : RepT g H ds vs → RepT g H' ds vs
  | .nil => .nil
  | .cons r t => .cons (Rep.mono e r) (RepT.mono e t)
theorem RepF.mono (e : Same H H') {ds : List (Str × D)} {vs : List (Str × V)} : RepF g H ds vs → RepF g H' ds vs
  | .nil => .nil
  | .cons r t => .cons (Rep.mono e r) (RepF.mono e t)
theorem RepQ.mono (e : Same H H') {ds : List (Option D)} {vs : List (Option V)} : RepQ g H ds vs → RepQ g H' ds vs
  | .nil => .nil
  | .non t => .non (RepQ.mono e t)
  | .cons r t => .cons (Rep.mono e r) (RepQ.mono e t)
end
theorem Reps.length {ds : List D} {vs : List V} (r : Reps g H ds vs) : ds.length = vs.length := by
  match r with
  | .nil => rfl
  | .cons _ t => simp [Reps.length t]
theorem Reps.get {ds : List D} {vs : List V} (r : Reps g H ds vs) : ∀ {i : Nat} {d : D}, ds[i]? = some d → ∃ v, vs[i]? = some v ∧ Rep g H d v := by
  match r with
  | .nil => intro i d e; simp at e
  | .cons h t =>
    intro i d e
    match i with
    | 0 =>
      have e' := Option.some.inj e
      subst e'
      exact ⟨_, rfl, h⟩
    | i + 1 => exact Reps.get t (i := i) e
theorem Reps.append {ds es : List D} {vs ws : List V} (r : Reps g H ds vs) (q : Reps g H es ws) : Reps g H (ds ++ es) (vs ++ ws) := by
  match r with
  | .nil => exact q
  | .cons h t => exact .cons h (Reps.append t q)
end
/-- what never changes -/
def tupy : HO → Bool
  | .tup _ => true
  | .frz _ _ => true
  | _ => false
/-- what stands at an own container's address -/
inductive RepO (g : Gc) (H : Hp) : D → HO → Prop
  | lst {xs vs} : Reps g H xs vs → RepO g H (.lst xs) (.lst vs)
  | dik {xs vs} : RepK g H xs vs → RepO g H (.dik xs) (.dK vs)
  | dit {xs vs} : RepT g H xs vs → RepO g H (.dit xs) (.dT vs)
  | slf0 {c C dx} : g.mg c = some (.ref C) → H dx = some (.own g.me) → dx ≠ g.me → RepO g H (.slf c []) (.ins C dx [])
  | slf {c C dx xs vs} : g.mg c = some (.ref C) → H dx = some (.own g.me) → dx ≠ g.me → RepQ g H xs vs → RepO g H (.slf c xs) (SlO C dx g.me vs)
def nslf : D → Bool
  | .slf _ _ => false
  | _ => true
section
variable {g : Gc} {H H' : Hp}
theorem RepO.mono (e : Same H H') {d : D} {o : HO} (r : RepO g H d o) : RepO g H' d o := by
  cases r with
  | lst r => exact .lst (r.mono e)
  | dik r => exact .dik (r.mono e)
  | dit r => exact .dit (r.mono e)
  | slf0 m h n => exact .slf0 m (e _ _ h) n
  | slf m h n r => exact .slf m (e _ _ h) n (r.mono e)
theorem RepO.ntbl {d : D} {o : HO} (r : RepO g H d o) : ∀ ps, o ≠ .tbl ps := by
  intro ps z
  subst z
  cases r
theorem RepO.ntup {d : D} {o : HO} (r : RepO g H d o) : tupy o = false := by
  cases r <;> rfl
def lockO : D → Bool
  | .dik _ => true
  | .dit _ => true
  | _ => false
theorem nslf_of {d : D} (h : lockO d = true) : nslf d = true := by
  cases d <;> first | rfl | cases h
theorem RepO.rep {d : D} {o : HO} {a : Addr} (r : RepO g H d o) (hl : lockO d = false) (h : H a = some o) : Rep g H d (.ref a) := by
  cases r with
  | lst r => exact .lst h r
  | dik r => cases hl
  | dit r => cases hl
  | slf0 m _ n => exact .slfz
  | slf m _ n r => exact .slfz
theorem RepO.repL {d : D} {o : HO} {a : Addr} {od : Obj} (r : RepO g H d o) (hl : lockO d = true) (h : H a = some (.frz od o)) : Rep g H d (.ref a) := by
  cases r with
  | lst r => cases hl
  | dik r => exact .dik h r
  | dit r => exact .dit h r
  | slf0 m _ n => cases hl
  | slf m _ n r => cases hl
theorem RepO.next {d : D} {o : HO} (r : RepO g H d o) (n : nslf d = true) : ∀ φ, o ≠ .ext φ := by
  intro φ z
  subst z
  cases r
  cases n
theorem RepO.mut {d : D} {o : HO} (r : RepO g H d o) : Mut (some o) := by
  cases r <;> trivial
end
/-! ### heaps -/
/-- the frozen part F of the heap H -/
structure WF (g : Gc) (F H : Hp) : Prop where
  sub : Same F H
  tup : ∀ a o, H a = some o → tupy o = true → F a = some o
  nt : ∀ a ps, F a ≠ some (.tbl ps)
  tab : TabX g.T H
/-- from (F, H) to (F', H'): all stays (but at ra), what is new and frozen stands at new places -/
structure Gr (g : Gc) (ra : Option Addr) (F H F' H' : Hp) : Prop where
  wf : WF g F' H'
  f : Same F F'
  h : ∀ b o, H b = some o → (∀ ps, o ≠ .tbl ps) → some b ≠ ra → H' b = some o
  new : ∀ b, H b ≠ none → F' b = F b
section
variable {g : Gc} {ra : Option Addr} {F H F1 H1 F2 H2 : Hp}
theorem Gr.refl (w : WF g F H) : Gr g ra F H F H := ⟨w, Same.refl _, fun _ _ h _ _ => h, fun _ _ => rfl⟩
theorem no_of {o : HO} (h : tupy o = false) : ∀ u x, o ≠ .frz u (.own x) := fun u x z => by
  subst z
  cases h
theorem LamAt.ext {u : Obj} (h : LamAt H u) (k : ∀ c q, H c = some (LamX.CodeO c q) → H' c = some (LamX.CodeO c q)) : LamAt H' u := by
  obtain ⟨c, L, pm, ctv, e, h⟩ := h
  exact ⟨c, L, pm, ctv, e, k _ _ h⟩
theorem Tabs_upd {T : List (Addr × Str)} {a : Addr} {o : HO} (t : TabX T H) (n : H a = none) (no : ∀ u x, o ≠ .frz u (.own x)) : TabX T (upd H a o) :=
  ⟨t.1.ext fun b u e => by rw [upd_ne (ne_of_none e n)]; exact e, fun b u x e => by
    have hb : b ≠ a := fun z => by
      subst z
      rw [upd_same] at e
      exact no _ _ (Option.some.inj e)
    rw [upd_ne hb] at e
    exact (t.2 b u x e).ext fun c q h => by rw [upd_ne (ne_of_none h n)]; exact h⟩
theorem Same_upd {a : Addr} {o : HO} (n : H a = none) : Same H (upd H a o) := fun b u e => by
  rw [upd_ne (ne_of_none e n)]
  exact e
/-- a new object, frozen -/
theorem WF.frz {a : Addr} {o : HO} (w : WF g F H) (n : H a = none) (nt : ∀ ps, o ≠ .tbl ps) (no : ∀ u x, o ≠ .frz u (.own x) := by intro _ _ z; cases z) : WF g (upd F a o) (upd H a o) := by
  have nF : F a = none := w.sub.free n
  refine ⟨fun b u e => ?_, fun b u e t => ?_, fun b ps e => ?_, Tabs_upd w.tab n no⟩
  · by_cases hb : b = a
    · subst hb
      rw [upd_same] at e ⊢
      exact e
    · rw [upd_ne hb] at e ⊢
      exact w.sub _ _ e
  · by_cases hb : b = a
    · subst hb
      rw [upd_same] at e ⊢
      exact e
    · rw [upd_ne hb] at e ⊢
      exact w.tup _ _ e t
  · by_cases hb : b = a
    · subst hb
      rw [upd_same] at e
      exact nt ps (Option.some.inj e)
    · rw [upd_ne hb] at e
      exact w.nt _ _ e
theorem Gr.frz {a : Addr} {o : HO} (w : WF g F H) (n : H a = none) (nt : ∀ ps, o ≠ .tbl ps) (no : ∀ u x, o ≠ .frz u (.own x) := by intro _ _ z; cases z) : Gr g ra F H (upd F a o) (upd H a o) := by
  refine ⟨w.frz n nt no, Same_upd (w.sub.free n), fun b u e _ _ => Same_upd n b u e, fun b hb => ?_⟩
  have : b ≠ a := fun z => by subst z; exact hb n
  rw [upd_ne this]
/-- a new object, not frozen -/
theorem WF.fresh {a : Addr} {o : HO} (w : WF g F H) (n : H a = none) (nt : tupy o = false) : WF g F (upd H a o) := by
  refine ⟨fun b u e => ?_, fun b u e t => ?_, w.nt, Tabs_upd w.tab n (no_of nt)⟩
  · exact Same_upd n b u (w.sub _ _ e)
  · by_cases hb : b = a
    · subst hb
      rw [upd_same] at e
      rw [← Option.some.inj e, nt] at t
      cases t
    · rw [upd_ne hb] at e
      exact w.tup _ _ e t
theorem Gr.fresh {a : Addr} {o : HO} (w : WF g F H) (n : H a = none) (nt : tupy o = false) : Gr g ra F H F (upd H a o) :=
  ⟨w.fresh n nt, Same.refl _, fun b u e _ _ => Same_upd n b u e, fun _ _ => rfl⟩
theorem Gr.trans (x : Gr g ra F H F1 H1) (y : Gr g ra F1 H1 F2 H2) (k : ∀ b, H b ≠ none → H1 b ≠ none) : Gr g ra F H F2 H2 :=
  ⟨y.wf, x.f.trans y.f, fun b o e n r => y.h b o (x.h b o e n r) n r, fun b hb => (y.new b (k b hb)).trans (x.new b hb)⟩
end
/-! ### the state -/
/-- a def's entry -/
structure Cn extends Gc where
  ra : Option Addr
  H0 : Hp
  F0 : Hp
  fr : Bool
/-- slot i holds what is owned, at a -/
def Own (env : En) (σ : L2.St) (i : Nat) (a : Addr) : Prop := σ[i]? = some (some (.ref a)) ∧ ∃ d, env[i]? = some (.ow d) ∨ env[i]? = some (.rf d)
structure SR (c : Cn) (env : En) (σ : L2.St) (H F : Hp) : Prop where
  gr : Gr c.toGc c.ra c.F0 c.H0 F H
  there : ∀ b, c.H0 b ≠ none → H b ≠ none
  rt : ∀ a, c.ra = some a → c.H0 a ≠ none
  len : env.length = σ.length
  fz : ∀ (i : Nat) (d : D), env[i]? = some (.fz d) → ∃ v, σ[i]? = some (some v) ∧ Rep c.toGc F d v
  ow : ∀ (i : Nat) (d : D), env[i]? = some (.ow d) → ∃ a o, σ[i]? = some (some (.ref a)) ∧ H a = some o ∧ F a = none ∧ c.H0 a = none ∧ RepO c.toGc F d o
  rf : ∀ (i : Nat) (d : D), env[i]? = some (.rf d) → ∃ a o, c.ra = some a ∧ σ[i]? = some (some (.ref a)) ∧ H a = some o ∧ F a = none ∧ RepO c.toGc F d o
  apart : ∀ (i j : Nat) (a : Addr), Own env σ i a → Own env σ j a → i = j
section
variable {c : Cn} {env : En} {σ : L2.St} {H F H' F' : Hp}
theorem SR.wf (S : SR c env σ H F) : WF c.toGc F H := S.gr.wf
theorem SR.rtH (S : SR c env σ H F) (a : Addr) (e : c.ra = some a) : H a ≠ none := S.there a (S.rt a e)
/-- all grows -/
theorem SR.grow (S : SR c env σ H F) (x : Gr c.toGc none F H F' H') (t : ∀ b, H b ≠ none → H' b ≠ none) : SR c env σ H' F' where
  gr := ⟨x.wf, S.gr.f.trans x.f, fun b o e n r => x.h b o (S.gr.h b o e n r) n (by simp), fun b hb => (x.new b (S.there b hb)).trans (S.gr.new b hb)⟩
  there := fun b hb => t b (S.there b hb)
  rt := S.rt
  len := S.len
  fz := fun i d e => let ⟨v, h1, h2⟩ := S.fz i d e; ⟨v, h1, h2.mono x.f⟩
  ow := fun i d e => by
    obtain ⟨a, o, h1, h2, h3, h4, h5⟩ := S.ow i d e
    exact ⟨a, o, h1, x.h a o h2 h5.ntbl (by simp), (x.new a (by rw [h2]; simp)).trans h3, h4, h5.mono x.f⟩
  rf := fun i d e => by
    obtain ⟨a, o, h0, h1, h2, h3, h5⟩ := S.rf i d e
    exact ⟨a, o, h0, h1, x.h a o h2 h5.ntbl (by simp), (x.new a (by rw [h2]; simp)).trans h3, h5.mono x.f⟩
  apart := S.apart
end
end PV

namespace PV
open PySem PySem.Spec PyProof.Rows L2
/-! ### readings -/
def RepX (g : Gc) (F : Hp) (x : Xn) (cls : Value) (d : Option Addr) : Prop := ∃ C, g.mg x.cls = some (.ref C) ∧ cls = .ref C ∧ (match x.fs with
  | none => d = none
  | some fs => ∃ dx vs, d = some dx ∧ F dx = some (.xd vs) ∧ RepF g F fs vs)
abbrev Rl (α β : Type) := En → L2.St → Hp → Hp → α → β → Prop
def Okp (c : Cn) (W : WX) (σ : L2.St) (F : Hp) {α β : Type} (rl : Rl α β) (Q : β → Hp → Prop) : R α → Prop
  | .ok a e => ∀ b H' F', SR c e σ H' F' → Same F F' → rl e σ F' H' a b → Q b H'
  | .er x e => ∀ cls dx H' F', SR c e σ H' F' → Same F F' → RepX c.toGc F' x cls dx → W cls dx σ H'
  | .no => False
def tM (c : Cn) (W : WX) {α β : Type} (rl : Rl α β) (m : En → R α) : L2.St → Hp → (β → Hp → Prop) → Prop := fun σ H Q => ∃ env F, SR c env σ H F ∧ Okp c W σ F rl Q (m env)
abbrev rlE (c : Cn) : Rl D V := fun _ _ F _ d v => Rep c.toGc F d v
abbrev rlT : Rl Bool Bool := fun _ _ _ _ a b => a = b
abbrev tE (c : Cn) (W : WX) (m : En → R D) : TE := tM c W (rlE c) m
abbrev tT (c : Cn) (W : WX) (m : En → R Bool) : TT := tM c W rlT m
section
variable {c : Cn} {W : WX} {σ : L2.St} {H F F' : Hp} {env : En}
theorem Okp.mono {α β : Type} {rl : Rl α β} {Q : β → Hp → Prop} {r : R α} (h : Okp c W σ F rl Q r) (s : Same F F') : Okp c W σ F' rl Q r := by
  cases r with
  | ok a e => exact fun b H1 F1 S s1 q => h b H1 F1 S (s.trans s1) q
  | er x e => exact fun a b H1 F1 S s1 q => h a b H1 F1 S (s.trans s1) q
  | no => exact h
theorem Okp.imp {α β : Type} {rl : Rl α β} {Q Q' : β → Hp → Prop} {r : R α} (h : Okp c W σ F rl Q r) (k : ∀ a b, Q a b → Q' a b) : Okp c W σ F rl Q' r := by
  cases r with
  | ok a e => exact fun b H1 F1 S s1 q => k _ _ (h b H1 F1 S s1 q)
  | er x e => exact h
  | no => exact h
/-- one part, then the rest -/
theorem tM_bind {α β γ δ : Type} {rl : Rl α β} {rl' : Rl γ δ} {Q : δ → Hp → Prop} {K : β → Hp → Prop} {m : En → R α} {f : α → En → R γ} (S : SR c env σ H F) (h : Okp c W σ F rl' Q ((m env).bind f))
    (k : ∀ a e b H1 F1, SR c e σ H1 F1 → Same F F1 → rl e σ F1 H1 a b → Okp c W σ F1 rl' Q (f a e) → K b H1) : tM c W rl m σ H K := by
  refine ⟨env, F, S, ?_⟩
  cases e : m env with
  | ok a e1 =>
    rw [e] at h
    exact fun b H1 F1 S1 s1 q => k a e1 b H1 F1 S1 s1 q (Okp.mono h s1)
  | er x e1 =>
    rw [e] at h
    exact h
  | no =>
    rw [e] at h
    exact h
end
theorem _root_.L2.PE.imp {X : Cx} {e : Expr} {t t' : TE} (h : PE X e t) (k : ∀ σ H Q, t' σ H Q → t σ H Q) : PE X e t' := ⟨fun pins s σ H Q I q => h.run pins s σ H Q I (k _ _ _ q)⟩
theorem _root_.L2.PT.imp {X : Cx} {e : Expr} {t t' : TT} (h : PT X e t) (k : ∀ σ H Q, t' σ H Q → t σ H Q) : PT X e t' := ⟨fun pins s σ H Q I q => h.run pins s σ H Q I (k _ _ _ q)⟩
theorem _root_.L2.PW.imp {X : Cx} {e : Expr} {t t' : TT} (h : PW X e t) (k : ∀ σ H Q, t' σ H Q → t σ H Q) : PW X e t' := ⟨fun wh pins s σ H Q I q => h.run wh pins s σ H Q I (k _ _ _ q)⟩
theorem _root_.L2.PS.imp {X : Cx} {e : Stmt} {t t' : TS} (h : PS X e t) (k : ∀ D σ H, t' D σ H → t D σ H) : PS X e t' := ⟨fun pins s σ H D I q => h.run pins s σ H D I (k _ _ _ q)⟩
theorem _root_.L2.PSs.imp {X : Cx} {e : List Stmt} {t t' : TS} (h : PSs X e t) (k : ∀ D σ H, t' D σ H → t D σ H) : PSs X e t' := ⟨fun pins s σ H D I q => h.run pins s σ H D I (k _ _ _ q)⟩
/-! ### operands: computed, or a slot that is read when the operation is done -/
inductive Od where
  | m (f : En → R D) | s (i : Nat)
def val (env : En) (i : Nat) : Option D := match env[i]? with
  | some (.fz d) => some d
  | some (.ow d) => some d
  | some (.rf d) => some d
  | _ => none
abbrev Pd := Sum D Nat
def evP : List Od → En → R (List Pd)
  | [], env => .ok [] env
  | .m f :: r, env => (f env).bind fun d e => (evP r e).bind fun ps e' => .ok (.inl d :: ps) e'
  | .s i :: r, env => match val env i with
    | some _ => (evP r env).bind fun ps e' => .ok (.inr i :: ps) e'
    | none => .no
def fill : List Pd → En → Option (List D)
  | [], _ => some []
  | .inl d :: r, e => (fill r e).map (d :: ·)
  | .inr i :: r, e => (val e i).bind fun d => (fill r e).map (d :: ·)
def evA (os : List Od) (env : En) : R (List D) := (evP os env).bind fun ps e => match fill ps e with
  | some ds => .ok ds e
  | none => .no
def Od.t (c : Cn) (W : WX) : Od → TE
  | .m f => tE c W f
  | .s i => tVar i
def tOds (c : Cn) (W : WX) : List Od → TA
  | [] => tNil
  | o :: r => tCons (o.t c W) (tOds c W r)
/-- read now: stable, or a container as it stands -/
inductive Rep1 (g : Gc) (F H : Hp) (d : D) (v : V) : Prop
  | st : Rep g F d v → Rep1 g F H d v
  | own {a o} : v = .ref a → H a = some o → RepO g F d o → Rep1 g F H d v
inductive Rep1s (g : Gc) (F H : Hp) : List D → List V → Prop
  | nil : Rep1s g F H [] []
  | cons {x xs v vs} : Rep1 g F H x v → Rep1s g F H xs vs → Rep1s g F H (x :: xs) (v :: vs)
def RepP (g : Gc) (F : Hp) (σ : L2.St) : Pd → V → Prop
  | .inl d, v => Rep g F d v
  | .inr i, v => σ[i]? = some (some v)
inductive RepPs (g : Gc) (F : Hp) (σ : L2.St) : List Pd → List V → Prop
  | nil : RepPs g F σ [] []
  | cons {x xs v vs} : RepP g F σ x v → RepPs g F σ xs vs → RepPs g F σ (x :: xs) (v :: vs)
section
variable {c : Cn} {W : WX} {σ : L2.St} {H F F' : Hp} {env : En}
theorem RepP.mono {g : Gc} (s : Same F F') {p : Pd} {v : V} (h : RepP g F σ p v) : RepP g F' σ p v := by
  cases p with
  | inl d => exact Rep.mono s h
  | inr i => exact h
theorem SR.val (S : SR c env σ H F) {i : Nat} {d : D} (e : val env i = some d) : ∃ v, σ[i]? = some (some v) ∧ Rep1 c.toGc F H d v := by
  unfold PV.val at e
  split at e
  · rename_i d' h
    cases e
    obtain ⟨v, h1, h2⟩ := S.fz i d h
    exact ⟨v, h1, .st h2⟩
  · rename_i d' h
    cases e
    obtain ⟨a, o, h1, h2, h3, h4, h5⟩ := S.ow i d h
    exact ⟨_, h1, .own rfl h2 h5⟩
  · rename_i d' h
    cases e
    obtain ⟨a, o, h0, h1, h2, h3, h5⟩ := S.rf i d h
    exact ⟨_, h1, .own rfl h2 h5⟩
  · cases e
theorem fill_ok (S : SR c env σ H F) : ∀ {ps : List Pd} {vs : List V} {ds : List D}, RepPs c.toGc F σ ps vs → fill ps env = some ds → Rep1s c.toGc F H ds vs
  | _, _, _, .nil, e => by
    cases e
    exact .nil
  | .inl d :: r, _, _, .cons h t, e => by
    unfold fill at e
    cases q : fill r env with
    | none =>
      rw [q] at e
      cases e
    | some ds' =>
      rw [q] at e
      cases e
      exact .cons (.st h) (fill_ok S t q)
  | .inr i :: r, _, _, .cons h t, e => by
    unfold fill at e
    cases z : val env i with
    | none =>
      rw [z] at e
      cases e
    | some d =>
      rw [z] at e
      cases q : fill r env with
      | none =>
        rw [q] at e
        cases e
      | some ds' =>
        rw [q] at e
        cases e
        obtain ⟨v, h1, h2⟩ := S.val z
        have h' : σ[i]? = some (some _) := h
        rw [h1] at h'
        cases h'
        exact .cons h2 (fill_ok S t q)
theorem R.bind_assoc {α β γ : Type} (r : R α) (f : α → En → R β) (k : β → En → R γ) : (r.bind f).bind k = r.bind fun a e => (f a e).bind k := by
  cases r <;> rfl
theorem tOdsP {α β : Type} {rl : Rl α β} {Q : β → Hp → Prop} : ∀ (os : List Od) {env : En} {H F : Hp} {f : List Pd → En → R α} {K : List V → Hp → Prop} (S : SR c env σ H F) (h : Okp c W σ F rl Q ((evP os env).bind f))
    (k : ∀ ps e vs H1 F1, SR c e σ H1 F1 → Same F F1 → RepPs c.toGc F1 σ ps vs → Okp c W σ F1 rl Q (f ps e) → K vs H1), tOds c W os σ H K
  | [], env, H, F, f, K, S, h, k => k [] env [] H F S (Same.refl _) .nil h
  | .m g :: r, env, H, F, f, K, S, h, k => by
    have h' : Okp c W σ F rl Q ((g env).bind fun d e => (evP r e).bind fun ps e' => f (.inl d :: ps) e') := by
      have e : (evP (.m g :: r) env).bind f = (g env).bind fun d e => (evP r e).bind fun ps e' => f (.inl d :: ps) e' := by
        show ((g env).bind fun d e => (evP r e).bind fun ps e' => R.ok (.inl d :: ps) e').bind f = _
        rw [R.bind_assoc]
        congr 1
        funext d e
        rw [R.bind_assoc]
        rfl
      rw [← e]
      exact h
    refine tM_bind (rl := rlE c) S h' fun d e v H1 F1 S1 s1 r1 h1 => ?_
    exact tOdsP r S1 h1 fun ps e' vs H2 F2 S2 s2 r2 h2 => k (.inl d :: ps) e' (v :: vs) H2 F2 S2 (s1.trans s2) (.cons (show RepP c.toGc F2 σ (.inl d) v from Rep.mono s2 r1) r2) h2
  | .s i :: r, env, H, F, f, K, S, h, k => by
    cases z : val env i with
    | none =>
      have e : (evP (.s i :: r) env).bind f = .no := by
        show (match val env i with | some _ => _ | none => R.no : R (List Pd)).bind f = .no
        rw [z]
        rfl
      rw [e] at h
      exact h.elim
    | some d =>
      obtain ⟨v, h1, h2⟩ := S.val z
      have e : (evP (.s i :: r) env).bind f = (evP r env).bind fun ps e' => f (.inr i :: ps) e' := by
        show (match val env i with | some _ => (evP r env).bind fun ps e' => R.ok (.inr i :: ps) e' | none => R.no : R (List Pd)).bind f = _
        rw [z]
        show ((evP r env).bind fun ps e' => R.ok (.inr i :: ps) e').bind f = _
        rw [R.bind_assoc]
        rfl
      rw [e] at h
      refine ⟨v, h1, ?_⟩
      exact tOdsP r S h fun ps e' vs H2 F2 S2 s2 r2 h2 => k (.inr i :: ps) e' (v :: vs) H2 F2 S2 s2 (.cons (show RepP c.toGc F2 σ (.inr i) v from h1) r2) h2
/-- THE RULE for operands -/
theorem tOdsA {α β : Type} {rl : Rl α β} {Q : β → Hp → Prop} (os : List Od) {f : List D → En → R α} {K : List V → Hp → Prop} (S : SR c env σ H F) (h : Okp c W σ F rl Q ((evA os env).bind f))
    (k : ∀ ds e vs H1 F1, SR c e σ H1 F1 → Same F F1 → Rep1s c.toGc F1 H1 ds vs → Okp c W σ F1 rl Q (f ds e) → K vs H1) : tOds c W os σ H K := by
  unfold evA at h
  rw [R.bind_assoc] at h
  refine tOdsP os S h fun ps e vs H1 F1 S1 s1 r1 h1 => ?_
  cases q : fill ps e with
  | none =>
    rw [q] at h1
    exact h1.elim
  | some ds =>
    rw [q] at h1
    exact k ds e vs H1 F1 S1 s1 (fill_ok S1 r1 q) h1
end
/-! ### operations by data -/
/-- a place for a result: frozen -/
structure Go (g : Gc) (F H F' H' : Hp) : Prop where
  gr : Gr g none F H F' H'
  th : ∀ b, H b ≠ none → H' b ≠ none
theorem Go.refl {g : Gc} {F H : Hp} (w : WF g F H) : Go g F H F H := ⟨Gr.refl w, fun _ h => h⟩
theorem upd_there {H : Hp} {a : Addr} {o : HO} : ∀ b, H b ≠ none → upd H a o b ≠ none := fun b h => by
  unfold upd
  split
  · simp
  · exact h
theorem Go.frz {g : Gc} {F H : Hp} {a : Addr} {o : HO} (w : WF g F H) (n : H a = none) (nt : ∀ ps, o ≠ .tbl ps) (no : ∀ u x, o ≠ .frz u (.own x) := by intro _ _ z; cases z) : Go g F H (upd F a o) (upd H a o) := ⟨Gr.frz w n nt no, upd_there⟩
theorem Go.trans {g : Gc} {F H F1 H1 F2 H2 : Hp} (x : Go g F H F1 H1) (y : Go g F1 H1 F2 H2) : Go g F H F2 H2 := ⟨x.gr.trans y.gr x.th, fun b h => y.th b (x.th b h)⟩
theorem SR.go {c : Cn} {env : En} {σ : L2.St} {H F H' F' : Hp} (S : SR c env σ H F) (x : Go c.toGc F H F' H') : SR c env σ H' F' := S.grow x.gr x.th
/-- an operation of values does what f does of data -/
def OpA (g : Gc) (r : List V → Hp → VK → Prop) (f : List D → Option D) : Prop := ∀ (ds : List D) (vs : List V) (d : D) (F H : Hp) (Q : VK), WF g F H → Rep1s g F H ds vs → f ds = some d →
  (∀ v H' F', Go g F H F' H' → Rep g F' d v → Q v H') → r vs H Q
def mOp (f : List D → Option D) (os : List Od) : En → R D := fun env => (evA os env).bind fun ds e => match f ds with
  | some d => .ok d e
  | none => .no
section
variable {c : Cn} {W : WX} {X : Cx}
theorem tOp_ok {r : List V → Hp → VK → Prop} {f : List D → Option D} {os : List Od} (ho : OpA c.toGc r f) {σ : L2.St} {H : Hp} {Q : VK} (h : tE c W (mOp f os) σ H Q) : tOds c W os σ H fun vs H1 => r vs H1 Q := by
  obtain ⟨env, F, S, h⟩ := h
  refine tOdsA os S h fun ds e vs H1 F1 S1 s1 r1 h1 => ?_
  cases q : f ds with
  | none =>
    rw [q] at h1
    exact h1.elim
  | some d =>
    rw [q] at h1
    exact ho ds vs d F1 H1 Q S1.wf r1 q fun v H2 F2 g2 rv => h1 v H2 F2 (S1.go g2) g2.gr.f rv
/-! ### names, constants -/
def mV (i : Nat) : En → R D := fun env => match env[i]? with
  | some (.fz d) => .ok d env
  | _ => .no
def mK (d : D) : En → R D := fun env => .ok d env
theorem re_var {i : Nat} {e : Expr} (h : PE X e (tVar i)) : PE X e (tE c W (mV i)) := h.imp fun σ H Q q => by
  obtain ⟨env, F, S, q⟩ := q
  unfold mV at q
  split at q
  · rename_i d z
    obtain ⟨v, h1, h2⟩ := S.fz i d z
    exact ⟨v, h1, q v H F S (Same.refl _) h2⟩
  · exact q.elim
theorem re_c {d : D} {v : V} {e : Expr} (h : PE X e (tC v)) (r : ∀ F, Rep c.toGc F d v) : PE X e (tE c W (mK d)) := h.imp fun σ H Q q => by
  obtain ⟨env, F, S, q⟩ := q
  exact q v H F S (Same.refl _) (r F)
theorem re_int {i j pos} : PE X (.Constant (.int i) j pos) (tE c W (mK (.int i))) := re_c pe_int fun _ => .int
theorem re_bl {b j pos} : PE X (.Constant (.bool b) j pos) (tE c W (mK (.bl b))) := re_c pe_bl fun _ => .bl
theorem re_non {j pos} : PE X (.Constant .none j pos) (tE c W (mK .non)) := re_c pe_non fun _ => .non
theorem re_str {x j pos} : PE X (.Constant (.str x) j pos) (tE c W (mK (.str x))) := re_c pe_str fun _ => .str
theorem re_fn {x : Str} {a : Addr} {pos : Pos} (hg : Gl X x) (hm : X.mg x = some (.ref a)) (hc : c.mg = X.mg) (hd : (x == ("__debug__" : Str)) = false := by decide) : PE X (.Name x pos) (tE c W (mK (.fn x))) :=
  re_c (pe_glob (v := .ref a) hg hm rfl hd) fun _ => .fn (by rw [hc]; exact hm)
/-- a constant of the module -/
theorem re_gint {x : Str} {i : Int} {pos : Pos} (hg : Gl X x) (hm : ∃ t, X.mg x = some (.int i t)) (hd : (x == ("__debug__" : Str)) = false := by decide) : PE X (.Name x pos) (tE c W (mK (.int i))) := by
  obtain ⟨t, hm⟩ := hm
  exact re_c (pe_glob (v := .int i) hg hm ⟨t, rfl⟩ hd) fun _ => .int
theorem re_gstr {x z : Str} {pos : Pos} (hg : Gl X x) (hm : ∃ t, X.mg x = some (.str z t)) (hd : (x == ("__debug__" : Str)) = false := by decide) : PE X (.Name x pos) (tE c W (mK (.str z))) := by
  obtain ⟨t, hm⟩ := hm
  exact re_c (pe_glob (v := .str z) hg hm ⟨t, rfl⟩ hd) fun _ => .str
/-! ### operators -/
variable {a b : Expr} {o1 o2 o3 : Od} {pos : Pos}
def r2 (r : R2) : List V → Hp → VK → Prop := fun vs H Q => match vs with
  | [x, y] => r x y H Q
  | _ => False
def r1 (r : V → Hp → VK → Prop) : List V → Hp → VK → Prop := fun vs H Q => match vs with
  | [x] => r x H Q
  | _ => False
theorem re_op {op : Operator} {r : R2} {f : List D → Option D} (ho : OpR X (binaryOp op) r) (hf : OpA c.toGc (r2 r) f) (ha : PE X a (o1.t c W)) (hb : PE X b (o2.t c W)) : PE X (.BinOp a op b pos) (tE c W (mOp f [o1, o2])) :=
  (pe_op ho ha hb).imp fun _ _ _ q => tOp_ok hf q
theorem re_un {op : UnaryOp} {r : V → Hp → VK → Prop} {f : List D → Option D} (ho : UnR X (unaryOp op) r) (hf : OpA c.toGc (r1 r) f) (ha : PE X a (o1.t c W)) : PE X (.UnaryOp op a pos) (tE c W (mOp f [o1])) :=
  (pe_un ho ha).imp fun _ _ _ q => tOp_ok hf q
theorem re_cmp {op : CmpOp} {r : R2} {f : List D → Option D} (ho : OpR X (compareOp op) r) (hf : OpA c.toGc (r2 r) f) (ha : PE X a (o1.t c W)) (hb : PE X b (o2.t c W)) (hm : behindInMarks op b = false) : PE X (.Compare a [op] [b] pos) (tE c W (mOp f [o1, o2])) :=
  (pe_cmpR ho ha hb hm).imp fun _ _ _ q => tOp_ok hf q
/-! ### tests -/
def mT (m : En → R D) : En → R Bool := fun env => (m env).bind fun d e => match d with
  | .bl b => .ok b e
  | _ => .no
theorem tT_ok {m : En → R D} {σ : L2.St} {H : Hp} {Q : Bool → Hp → Prop} (h : tT c W (mT m) σ H Q) : tE c W m σ H fun x H1 => ∃ k, x = .bl k ∧ Q k H1 := by
  obtain ⟨env, F, S, h⟩ := h
  refine tM_bind S h fun d e v H1 F1 S1 s1 r1 h1 => ?_
  cases r1 with
  | bl => exact ⟨_, rfl, h1 _ H1 F1 S1 (Same.refl _) rfl⟩
  | _ => exact h1.elim
theorem rt_cmp {op : CmpOp} {r : R2} {f : List D → Option D} (ho : OpR X (compareOp op) r) (hf : OpA c.toGc (r2 r) f) (ha : PE X a (o1.t c W)) (hb : PE X b (o2.t c W)) (hm : behindInMarks op b = false) : PT X (.Compare a [op] [b] pos) (tT c W (mT (mOp f [o1, o2]))) :=
  (pt_cmpR ho ha hb hm).imp fun _ _ _ q => tOp_ok hf (tT_ok q)
theorem rt_val {e : Expr} {m : En → R D} (h : PE X e (tE c W m)) (he : ∀ whole, isTrue e X.env whole = (do let v ← whole; standAt e.pos; holding [v] (truthy v)) := by intro _; rfl) : PT X e (tT c W (mT m)) :=
  (pt_val h he).imp fun _ _ _ q => tT_ok q
def mNot (m : En → R Bool) : En → R Bool := fun env => (m env).bind fun b e => .ok (!b) e
def mAnd (m n : En → R Bool) : En → R Bool := fun env => (m env).bind fun b e => if b = true then n e else .ok false e
def mOr (m n : En → R Bool) : En → R Bool := fun env => (m env).bind fun b e => if b = true then .ok true e else n e
variable {m n : En → R Bool} {rest : List Expr}
theorem rt_not (h : PT X a (tT c W m)) : PT X (.UnaryOp .Not a pos) (tT c W (mNot m)) := (pt_not h).imp fun σ H Q q => by
  obtain ⟨env, F, S, q⟩ := q
  exact tM_bind S q fun b e b' H1 F1 S1 s1 r1 h1 => by
    cases r1
    exact h1 _ H1 F1 S1 (Same.refl _) rfl
theorem rw_and1 (h : PT X a (tT c W m)) : PW X (.BoolOp .And [a] pos) (tT c W m) := pw_and1 h
theorem rw_or1 (h : PT X a (tT c W m)) : PW X (.BoolOp .Or [a] pos) (tT c W m) := pw_or1 h
theorem rw_and (ha : PT X a (tT c W m)) (hb : PW X (.BoolOp .And (b :: rest) pos) (tT c W n)) : PW X (.BoolOp .And (a :: b :: rest) pos) (tT c W (mAnd m n)) := (pw_and ha hb).imp fun σ H Q q => by
  obtain ⟨env, F, S, q⟩ := q
  refine tM_bind S q fun b e b' H1 F1 S1 s1 r1 h1 => ?_
  cases r1
  cases b with
  | true => exact iteT ⟨e, F1, S1, h1⟩
  | false => exact iteF (h1 _ H1 F1 S1 (Same.refl _) rfl)
theorem rw_or (ha : PT X a (tT c W m)) (hb : PW X (.BoolOp .Or (b :: rest) pos) (tT c W n)) : PW X (.BoolOp .Or (a :: b :: rest) pos) (tT c W (mOr m n)) := (pw_or ha hb).imp fun σ H Q q => by
  obtain ⟨env, F, S, q⟩ := q
  refine tM_bind S q fun b e b' H1 F1 S1 s1 r1 h1 => ?_
  cases r1
  cases b with
  | true => exact iteT (h1 _ H1 F1 S1 (Same.refl _) rfl)
  | false => exact iteF ⟨e, F1, S1, h1⟩
/-- as values -/
def mB (m : En → R Bool) : En → R D := fun env => (m env).bind fun b e => .ok (.bl b) e
def mAndV (m n : En → R D) : En → R D := fun env => (mT m env).bind fun b e => if b = true then n e else .ok (.bl false) e
def mOrV (m n : En → R D) : En → R D := fun env => (mT m env).bind fun b e => if b = true then .ok (.bl true) e else n e
def mNotV (m : En → R D) : En → R D := fun env => (mT m env).bind fun b e => .ok (.bl (!b)) e
variable {x y : En → R D}
theorem re_one {op} (h : PE X a (tE c W x)) : PE X (.BoolOp op [a] pos) (tE c W x) := pe_one h
theorem tEb {x : En → R D} {α β : Type} {rl : Rl α β} {Q : β → Hp → Prop} {σ : L2.St} {env : En} {H F : Hp} {f : Bool → En → R α} {K : Bool → Hp → Prop} (S : SR c env σ H F) (h : Okp c W σ F rl Q ((mT x env).bind f))
    (k : ∀ b e H1 F1, SR c e σ H1 F1 → Okp c W σ F1 rl Q (f b e) → K b H1) : tE c W x σ H fun v H1 => ∃ b, v = .bl b ∧ K b H1 := by
  unfold mT at h
  rw [R.bind_assoc] at h
  refine tM_bind S h fun d e v H1 F1 S1 s1 r1 h1 => ?_
  cases r1 with
  | bl => exact ⟨_, rfl, k _ e H1 F1 S1 h1⟩
  | _ => exact h1.elim
theorem re_and (ha : PE X a (tE c W x)) (hb : PE X (.BoolOp .And (b :: rest) pos) (tE c W y)) : PE X (.BoolOp .And (a :: b :: rest) pos) (tE c W (mAndV x y)) := (pe_and ha hb).imp fun σ H Q q => by
  obtain ⟨env, F, S, q⟩ := q
  refine tEb S q fun b e H1 F1 S1 h1 => ?_
  cases b with
  | true => exact iteT ⟨e, F1, S1, h1⟩
  | false => exact iteF (h1 _ H1 F1 S1 (Same.refl _) .bl)
theorem re_or (ha : PE X a (tE c W x)) (hb : PE X (.BoolOp .Or (b :: rest) pos) (tE c W y)) : PE X (.BoolOp .Or (a :: b :: rest) pos) (tE c W (mOrV x y)) := (pe_or ha hb).imp fun σ H Q q => by
  obtain ⟨env, F, S, q⟩ := q
  refine tEb S q fun b e H1 F1 S1 h1 => ?_
  cases b with
  | true => exact iteT (h1 _ H1 F1 S1 (Same.refl _) .bl)
  | false => exact iteF ⟨e, F1, S1, h1⟩
theorem re_not (ha : PE X a (tE c W x)) : PE X (.UnaryOp .Not a pos) (tE c W (mNotV x)) := (pe_not ha).imp fun σ H Q q => by
  obtain ⟨env, F, S, q⟩ := q
  exact tEb S q fun b e H1 F1 S1 h1 => h1 _ H1 F1 S1 (Same.refl _) .bl
def mIf (m : En → R Bool) (x y : En → R D) : En → R D := fun env => (m env).bind fun b e => if b = true then x e else y e
theorem re_if {cnd : Expr} (hc : PT X cnd (tT c W m)) (ha : PE X a (tE c W x)) (hb : PE X b (tE c W y)) : PE X (.IfExp cnd a b pos) (tE c W (mIf m x y)) := (pe_ifExp hc ha hb).imp fun σ H Q q => by
  obtain ⟨env, F, S, q⟩ := q
  refine tM_bind S q fun b e b' H1 F1 S1 s1 r1 h1 => ?_
  cases r1
  cases b with
  | true => exact iteT ⟨e, F1, S1, h1⟩
  | false => exact iteF ⟨e, F1, S1, h1⟩
/-- a < b < c -/
def mChain (f f' : List D → Option D) (x y z : En → R D) : En → R D := fun env => (x env).bind fun d1 e1 => (y e1).bind fun d2 e2 => match f [d1, d2] with
  | some (.bl true) => (z e2).bind fun d3 e3 => (match f' [d2, d3] with
    | some d => .ok d e3
    | none => .no)
  | some (.bl false) => .ok (.bl false) e2
  | _ => .no
variable {cc : Expr} {z : En → R D}
theorem chain_ok {r r' : R2} {f f' : List D → Option D} (hf : OpA c.toGc (r2 r) f) (hf' : OpA c.toGc (r2 r') f') {σ : L2.St} {H : Hp} {Q : VK} (q : tE c W (mChain f f' x y z) σ H Q) : tChain r r' (tE c W x) (tE c W y) (tE c W z) σ H Q := by
  obtain ⟨env, F, S, q⟩ := q
  refine tM_bind S q fun d1 e1 v1 H1 F1 S1 s1 r1 h1 => ?_
  refine tM_bind S1 h1 fun d2 e2 v2 H2 F2 S2 s2 r2' h2 => ?_
  have R : Rep1s c.toGc F2 H2 [d1, d2] [v1, v2] := .cons (.st (r1.mono s2)) (.cons (.st r2') .nil)
  split at h2
  · rename_i q
    refine hf [d1, d2] [v1, v2] _ F2 H2 _ S2.wf R q fun v H3 F3 g3 rv => ?_
    cases rv
    refine ⟨true, rfl, iteT ?_⟩
    refine tM_bind (S2.go g3) (Okp.mono h2 g3.gr.f) fun d3 e3 v3 H4 F4 S4 s4 r4 h4 => ?_
    split at h4
    · rename_i d q'
      exact hf' [d2, d3] [v2, v3] d F4 H4 _ S4.wf (.cons (.st ((r2'.mono g3.gr.f).mono s4)) (.cons (.st r4) .nil)) q' fun v H5 F5 g5 rv => h4 v H5 F5 (S4.go g5) g5.gr.f rv
    · exact h4.elim
  · rename_i q
    refine hf [d1, d2] [v1, v2] _ F2 H2 _ S2.wf R q fun v H3 F3 g3 rv => ?_
    cases rv
    refine ⟨false, rfl, iteF ?_⟩
    exact h2 _ H3 F3 (S2.go g3) g3.gr.f .bl
  · exact h2.elim
theorem re_chain {op op' : CmpOp} {r r' : R2} {f f' : List D → Option D} (ho : OpR X (compareOp op) r) (ho' : OpR X (compareOp op') r') (hf : OpA c.toGc (r2 r) f) (hf' : OpA c.toGc (r2 r') f') (ha : PE X a (tE c W x)) (hb : PE X b (tE c W y)) (hc : PE X cc (tE c W z))
    (hm : lastMarks [op, op'] [b, cc] = false := by with_unfolding_all rfl) :
    PE X (.Compare a [op, op'] [b, cc] pos) (tE c W (mChain f f' x y z)) := (pe_chain ho ho' ha hb hc hm).imp fun _ _ _ q => chain_ok hf hf' q
theorem rt_chain {op op' : CmpOp} {r r' : R2} {f f' : List D → Option D} (ho : OpR X (compareOp op) r) (ho' : OpR X (compareOp op') r') (hf : OpA c.toGc (r2 r) f) (hf' : OpA c.toGc (r2 r') f') (ha : PE X a (tE c W x)) (hb : PE X b (tE c W y)) (hc : PE X cc (tE c W z))
    (hm : lastMarks [op, op'] [b, cc] = false := by with_unfolding_all rfl) :
    PT X (.Compare a [op, op'] [b, cc] pos) (tT c W (mT (mChain f f' x y z))) := (pt_chain ho ho' ha hb hc hm).imp fun _ _ _ q => chain_ok hf hf' (tT_ok q)
end
end PV

namespace PV
open PySem PySem.Spec PyProof.Rows L2
/-! ### new containers -/
abbrev rlF (c : Cn) : Rl D V := fun e σ F H d v => ∃ a o, v = .ref a ∧ H a = some o ∧ F a = none ∧ c.H0 a = none ∧ c.ra ≠ some a ∧ (∀ i, ¬ Own e σ i a) ∧ RepO c.toGc F d o
abbrev tF (c : Cn) (W : WX) (m : En → R D) : TE := tM c W (rlF c) m
section
variable {c : Cn} {env : En} {σ : L2.St} {H F : Hp}
theorem SR.own_there (S : SR c env σ H F) {i : Nat} {a : Addr} (h : Own env σ i a) : H a ≠ none ∧ F a = none := by
  obtain ⟨h1, d, h2 | h2⟩ := h
  · obtain ⟨b, o, e1, e2, e3, _⟩ := S.ow i d h2
    rw [h1] at e1
    cases e1
    exact ⟨by rw [e2]; simp, e3⟩
  · obtain ⟨b, o, _, e1, e2, e3, _⟩ := S.rf i d h2
    rw [h1] at e1
    cases e1
    exact ⟨by rw [e2]; simp, e3⟩
theorem SR.fresh (S : SR c env σ H F) {a : Addr} {o : HO} (n : H a = none) (nt : tupy o = false) : SR c env σ (upd H a o) F := S.grow (Gr.fresh S.wf n nt) upd_there
theorem SR.h0 (S : SR c env σ H F) {a : Addr} (n : H a = none) : c.H0 a = none := by
  cases q : c.H0 a with
  | none => rfl
  | some o => exact absurd n (S.there a (by rw [q]; simp))
theorem SR.newF (S : SR c env σ H F) {a : Addr} {o : HO} {d : D} (n : H a = none) (r : RepO c.toGc F d o) : rlF c env σ F (upd H a o) d (.ref a) :=
  ⟨a, o, rfl, upd_same, S.wf.sub.free n, S.h0 n, fun z => S.rtH a z n, fun i h => (S.own_there h).1 n, r⟩
theorem SR.freeze (S : SR c env σ H F) {a : Addr} {o : HO} {d : D} (h : H a = some o) (hF : F a = none) (h0 : c.H0 a = none) (no : ∀ i, ¬ Own env σ i a) (r : RepO c.toGc F d o) : SR c env σ H (upd F a o) ∧ Same F (upd F a o) := by
  have sm : Same F (upd F a o) := Same_upd hF
  refine ⟨⟨⟨⟨fun b u e => ?_, fun b u e t => sm _ _ (S.wf.tup b u e t), fun b ps e => ?_, S.wf.tab⟩, S.gr.f.trans sm, S.gr.h, fun b hb => ?_⟩, S.there, S.rt, S.len, fun i d' e => ?_, fun i d' e => ?_, fun i d' e => ?_, S.apart⟩, sm⟩
  · by_cases hb : b = a
    · subst hb
      rw [upd_same] at e
      rw [h, e]
    · rw [upd_ne hb] at e
      exact S.wf.sub _ _ e
  · by_cases hb : b = a
    · subst hb
      rw [upd_same] at e
      exact r.ntbl ps (Option.some.inj e)
    · rw [upd_ne hb] at e
      exact S.wf.nt _ _ e
  · have : b ≠ a := fun z => by subst z; exact hb h0
    rw [upd_ne this]
    exact S.gr.new b hb
  · obtain ⟨v, h1, h2⟩ := S.fz i d' e
    exact ⟨v, h1, h2.mono sm⟩
  · obtain ⟨b, u, h1, h2, h3, h4, h5⟩ := S.ow i d' e
    have hb : b ≠ a := fun z => by subst z; exact no i ⟨h1, d', .inl e⟩
    exact ⟨b, u, h1, h2, by rw [upd_ne hb]; exact h3, h4, h5.mono sm⟩
  · obtain ⟨b, u, h0', h1, h2, h3, h5⟩ := S.rf i d' e
    have hb : b ≠ a := fun z => by subst z; exact no i ⟨h1, d', .inr e⟩
    exact ⟨b, u, h0', h1, h2, by rw [upd_ne hb]; exact h3, h5.mono sm⟩
end
theorem Tabs_put {T : List (Addr × Str)} {H : Hp} {a : Addr} {u o : HO} (t : TabX T H) (h : H a = some u) (n1 : ∀ ps, u ≠ .tbl ps) (n2 : ∀ φ, u ≠ .ext φ) (no : ∀ u x, o ≠ .frz u (.own x)) : TabX T (upd H a o) := by
  have hB : ∀ b w x, upd H a o b = some (.frz w (.own x)) → LamAt (upd H a o) w := fun b w x e => by
    have hb : b ≠ a := fun z => by
      subst z
      rw [upd_same] at e
      exact no _ _ (Option.some.inj e)
    rw [upd_ne hb] at e
    refine (t.2 b w x e).ext fun c q k => ?_
    rw [upd_ne fun z => by rw [z, h] at k; exact n2 _ (Option.some.inj k)]
    exact k
  refine ⟨fun p hp => ?_, hB⟩
  obtain ⟨ps, h1, h2, h3⟩ := t.1 p hp
  have nP : p.1 ≠ a := fun z => by
    rw [z, h] at h1
    exact n1 ps (Option.some.inj h1)
  refine ⟨ps, by rw [upd_ne nP]; exact h1, h2, fun pos cv hc => ?_⟩
  obtain ⟨cc, e1, e2⟩ := h3 pos cv hc
  have nc : cc ≠ a := fun z => by
    rw [z, h] at e2
    exact n2 _ (Option.some.inj e2)
  exact ⟨cc, e1, by rw [upd_ne nc]; exact e2⟩
theorem SR.lock {c : Cn} {env : En} {σ : L2.St} {H F : Hp} (S : SR c env σ H F) {a : Addr} {o : HO} {d : D} {od : Obj} (h : H a = some o) (hF : F a = none) (h0 : c.H0 a = none) (no : ∀ i, ¬ Own env σ i a) (r : RepO c.toGc F d o) (ns : nslf d = true) : SR c env σ (upd H a (.frz od o)) (upd F a (.frz od o)) ∧ Same F (upd F a (.frz od o)) := by
  have sm : Same F (upd F a (.frz od o)) := Same_upd hF
  refine ⟨⟨⟨⟨fun b u e => ?_, fun b u e t => ?_, fun b ps e => ?_, Tabs_put S.wf.tab h r.ntbl (r.next ns) (fun u x z => by cases z; cases r)⟩, S.gr.f.trans sm, fun b u e n z => ?_, fun b hb => ?_⟩, fun b hb => upd_there b (S.there b hb), S.rt, S.len, fun i d' e => ?_, fun i d' e => ?_, fun i d' e => ?_, S.apart⟩, sm⟩
  · by_cases hb : b = a
    · subst hb
      rw [upd_same] at e ⊢
      exact e
    · rw [upd_ne hb] at e ⊢
      exact S.wf.sub _ _ e
  · by_cases hb : b = a
    · subst hb
      rw [upd_same] at e ⊢
      exact e
    · rw [upd_ne hb] at e ⊢
      exact S.wf.tup _ _ e t
  · by_cases hb : b = a
    · subst hb
      rw [upd_same] at e
      cases e
    · rw [upd_ne hb] at e
      exact S.wf.nt _ _ e
  · have hb : b ≠ a := fun z => by
      subst z
      rw [h0] at e
      cases e
    rw [upd_ne hb]
    exact S.gr.h b u e n z
  · have : b ≠ a := fun z => by subst z; exact hb h0
    rw [upd_ne this]
    exact S.gr.new b hb
  · obtain ⟨v, h1, h2⟩ := S.fz i d' e
    exact ⟨v, h1, h2.mono sm⟩
  · obtain ⟨b, u, h1, h2, h3, h4, h5⟩ := S.ow i d' e
    have hb : b ≠ a := fun z => by subst z; exact no i ⟨h1, d', .inl e⟩
    exact ⟨b, u, h1, by rw [upd_ne hb]; exact h2, by rw [upd_ne hb]; exact h3, h4, h5.mono sm⟩
  · obtain ⟨b, u, h0', h1, h2, h3, h5⟩ := S.rf i d' e
    have hb : b ≠ a := fun z => by subst z; exact no i ⟨h1, d', .inr e⟩
    exact ⟨b, u, h0', h1, by rw [upd_ne hb]; exact h2, by rw [upd_ne hb]; exact h3, h5.mono sm⟩
section
variable {c : Cn} {W : WX} {X : Cx}
/-- what is new, frozen -/
theorem re_fz {e : Expr} {m : En → R D} (h : PE X e (tF c W m)) : PE X e (tE c W m) := ⟨fun pins s σ H Q I q => by
  obtain ⟨env, F, S, q⟩ := q
  have q' : tF c W m σ H fun v H1 => ∃ a o e1 F1 d, v = .ref a ∧ SR c e1 σ H1 F1 ∧ H1 a = some o ∧ F1 a = none ∧ c.H0 a = none ∧ c.ra ≠ some a ∧ (∀ i, ¬ Own e1 σ i a) ∧ RepO c.toGc F1 d o ∧ (∀ v H' F', SR c e1 σ H' F' → Same F1 F' → Rep c.toGc F' d v → Q v H') := by
    refine ⟨env, F, S, ?_⟩
    cases z : m env with
    | ok d e1 =>
      rw [z] at q
      intro v H1 F1 S1 s1 ⟨a, o, ev, h1, h2, h3, h6, h4, h5⟩
      exact ⟨a, o, e1, F1, d, ev, S1, h1, h2, h3, h6, h4, h5, fun v H' F' S' s' r => q v H' F' S' (s1.trans s') r⟩
    | er x e1 =>
      rw [z] at q
      exact q
    | no =>
      rw [z] at q
      exact q
  refine thn (h.run pins s σ H _ I q') fun v s1 ⟨x, H1, I1, rx, a, o, e1, F1, d, ev, S1, h1, h2, h3, h6, h4, h5, k⟩ => ?_
  subst ev
  cases hl : lockO d with
  | false =>
    obtain ⟨S2, s2⟩ := S1.freeze h1 h2 h3 h4 h5
    exact ⟨_, H1, I1, rx, k _ H1 _ S2 s2 ((h5.mono s2).rep hl upd_same)⟩
  | true =>
    obtain ⟨od, I2⟩ := I1.lock h1 h5.mut
    obtain ⟨S2, s2⟩ := S1.lock (od := od) h1 h2 h3 h4 h5 (nslf_of hl)
    exact ⟨_, _, I2, rx, k _ _ _ S2 s2 ((h5.mono s2).repL hl upd_same)⟩⟩
/-- an operation that makes a new container -/
def OpF (g : Gc) (r : List V → Hp → VK → Prop) (f : List D → Option D) : Prop := ∀ (ds : List D) (vs : List V) (d : D) (F H : Hp) (Q : VK), WF g F H → Rep1s g F H ds vs → f ds = some d →
  (∀ a o, H a = none → RepO g F d o → Q (.ref a) (upd H a o)) → r vs H Q
theorem tOpF_ok {r : List V → Hp → VK → Prop} {f : List D → Option D} {os : List Od} (ho : OpF c.toGc r f) {σ : L2.St} {H : Hp} {Q : VK} (h : tF c W (mOp f os) σ H Q) : tOds c W os σ H fun vs H1 => r vs H1 Q := by
  obtain ⟨env, F, S, h⟩ := h
  refine tOdsA os S h fun ds e vs H1 F1 S1 s1 r1 h1 => ?_
  cases q : f ds with
  | none =>
    rw [q] at h1
    exact h1.elim
  | some d =>
    rw [q] at h1
    exact ho ds vs d F1 H1 Q S1.wf r1 q fun a o n ro => h1 (.ref a) _ F1 (S1.fresh n ro.ntup) (Same.refl _) (S1.newF n ro)
theorem OpF.opA {g : Gc} {r : List V → Hp → VK → Prop} {f : List D → Option D} (h : OpF g r f) (hl : ∀ ds d, f ds = some d → lockO d = false) : OpA g r f := fun ds vs d F H Q w R e k =>
  h ds vs d F H Q w R e fun a o n ro => k (.ref a) _ (upd F a o) (Go.frz w n ro.ntbl (no_of ro.ntup)) ((ro.mono (Same_upd (w.sub.free n))).rep (hl ds d e) upd_same)
/-! ### several in a row, all of them kept -/
def evS : List (En → R D) → En → R (List D)
  | [], env => .ok [] env
  | m :: r, env => (m env).bind fun d e => (evS r e).bind fun ds e' => .ok (d :: ds) e'
def tMs (c : Cn) (W : WX) : List (En → R D) → TA
  | [] => tNil
  | m :: r => tCons (tE c W m) (tMs c W r)
theorem tMsA {α β : Type} {rl : Rl α β} {Q : β → Hp → Prop} {σ : L2.St} : ∀ (ms : List (En → R D)) {env : En} {H F : Hp} {f : List D → En → R α} {K : List V → Hp → Prop} (S : SR c env σ H F) (h : Okp c W σ F rl Q ((evS ms env).bind f))
    (k : ∀ ds e vs H1 F1, SR c e σ H1 F1 → Same F F1 → Reps c.toGc F1 ds vs → ds.length = ms.length → Okp c W σ F1 rl Q (f ds e) → K vs H1), tMs c W ms σ H K
  | [], env, H, F, f, K, S, h, k => k [] env [] H F S (Same.refl _) .nil rfl h
  | m :: r, env, H, F, f, K, S, h, k => by
    have e : (evS (m :: r) env).bind f = (m env).bind fun d e => (evS r e).bind fun ds e' => f (d :: ds) e' := by
      show ((m env).bind fun d e => (evS r e).bind fun ds e' => R.ok (d :: ds) e').bind f = _
      rw [R.bind_assoc]
      congr 1
      funext d e
      rw [R.bind_assoc]
      rfl
    rw [e] at h
    refine tM_bind (rl := rlE c) S h fun d e v H1 F1 S1 s1 r1 h1 => ?_
    exact tMsA r S1 h1 fun ds e' vs H2 F2 S2 s2 r2 hl h2 => k (d :: ds) e' (v :: vs) H2 F2 S2 (s1.trans s2) (.cons (r1.mono s2) r2) (by simp [hl]) h2
theorem ra_nil : PA X [] (tMs c W []) := pa_nil
theorem ra_cons {e : Expr} {es : List Expr} {m : En → R D} {ms : List (En → R D)} (ha : PE X e (tE c W m)) (hr : PA X es (tMs c W ms)) (hs : starEach (e :: es) X.env = (false, eval e X.env) :: starEach es X.env := by rfl) : PA X (e :: es) (tMs c W (m :: ms)) := pa_cons ha hr hs
theorem ro_nil : PA X [] (tOds c W []) := pa_nil
theorem ro_cons {e : Expr} {es : List Expr} {o : Od} {os : List Od} (ha : PE X e (o.t c W)) (hr : PA X es (tOds c W os)) (hs : starEach (e :: es) X.env = (false, eval e X.env) :: starEach es X.env := by rfl) : PA X (e :: es) (tOds c W (o :: os)) := pa_cons ha hr hs
def lim : Nat := 1000000
theorem lim_line {n : Nat} (h : n ≤ lim) : n ≤ sizeLine := Nat.le_trans h (by decide)
theorem lim_lt {n : Nat} (h : n < lim) : n < sizeLine := Nat.lt_of_lt_of_le h (by decide)
def mTup (ms : List (En → R D)) : En → R D := fun env => (evS ms env).bind fun ds e => .ok (.tup ds) e
def mLst (ms : List (En → R D)) : En → R D := fun env => (evS ms env).bind fun ds e => .ok (.lst ds) e
theorem Reps.length_eq {g : Gc} {F : Hp} {ds : List D} {vs : List V} (r : Reps g F ds vs) : vs.length = ds.length := r.length.symm
theorem re_tup {es : List Expr} {k : Nat} {ms : List (En → R D)} {pos : Pos} (h : PA X es (tMs c W ms)) (hl : ms.length ≤ lim := by decide) : PE X (.Tuple es k pos) (tE c W (mTup ms)) := (pe_tup h).imp fun σ H Q q => by
  obtain ⟨env, F, S, q⟩ := q
  refine tMsA ms S q fun ds e vs H1 F1 S1 s1 r1 hn h1 => ?_
  refine ⟨lim_line (by rw [r1.length_eq, hn]; exact hl), fun p n => ?_⟩
  have g2 := Go.frz S1.wf n (o := .tup vs) (fun ps z => by cases z)
  exact h1 _ _ _ (S1.go g2) g2.gr.f (.tup (SqT.of upd_same) (r1.mono g2.gr.f))
theorem re_lst {es : List Expr} {ms : List (En → R D)} {pos : Pos} (h : PA X es (tMs c W ms)) (hl : ms.length ≤ lim := by decide) : PE X (.List es pos) (tF c W (mLst ms)) := (pe_lst h).imp fun σ H Q q => by
  obtain ⟨env, F, S, q⟩ := q
  refine tMsA ms S q fun ds e vs H1 F1 S1 s1 r1 hn h1 => ?_
  refine ⟨lim_line (by rw [r1.length_eq, hn]; exact hl), fun p n => ?_⟩
  exact h1 _ _ F1 (S1.fresh n rfl) (Same.refl _) (S1.newF n (.lst r1))
end
/-! ### statements -/
inductive Rs where
  | nx (e : En) | rt (d : D) (e : En) | bk (e : En) | ct (e : En) | er (x : Xn) (e : En) | no
def R.bs {α : Type} (r : R α) (f : α → En → Rs) : Rs := match r with
  | .ok a e => f a e
  | .er x e => .er x e
  | .no => .no
def Rs.bind (r : Rs) (f : En → Rs) : Rs := match r with
  | .nx e => f e
  | r => r
mutual
/-- what no container is in -/
def imm : D → Bool
  | .non => true
  | .bl _ => true
  | .int _ => true
  | .str _ => true
  | .tup xs => imms xs
  | .fn _ => true
  | _ => false
def imms : List D → Bool
  | [] => true
  | d :: ds => imm d && imms ds
end
/-- what a return hands back: kept, or (in a def that hands back new containers) new or without a container -/
def rlR (c : Cn) (e : En) (σ : L2.St) (F H : Hp) (d : D) (v : V) : Prop := if c.fr = true then (rlF c e σ F H d v ∨ (imm d = true ∧ Rep c.toGc F d v)) else Rep c.toGc F d v
def OkS (c : Cn) (W : WX) (F : Hp) (D : Ends) : Rs → Prop
  | .nx e => ∀ σ H' F', SR c e σ H' F' → Same F F' → D.nx σ H'
  | .rt d e => ∀ v σ H' F', SR c e σ H' F' → Same F F' → rlR c e σ F' H' d v → D.rt v H'
  | .bk e => ∀ σ H' F', SR c e σ H' F' → Same F F' → D.bk σ H'
  | .ct e => ∀ σ H' F', SR c e σ H' F' → Same F F' → D.ct σ H'
  | .er x e => ∀ cls dx σ H' F', SR c e σ H' F' → Same F F' → RepX c.toGc F' x cls dx → W cls dx σ H'
  | .no => False
def tS (c : Cn) (W : WX) (m : En → Rs) : TS := fun D σ H => ∃ env F, SR c env σ H F ∧ OkS c W F D (m env)
section
variable {c : Cn} {W : WX} {X : Cx} {F F' H : Hp} {Z : Ends} {σ : L2.St} {env : En}
theorem OkS.mono {r : Rs} (h : OkS c W F Z r) (s : Same F F') : OkS c W F' Z r := by
  cases r with
  | nx e => exact fun a b d S s1 => h a b d S (s.trans s1)
  | rt v e => exact fun a b d f S s1 q => h a b d f S (s.trans s1) q
  | bk e => exact fun a b d S s1 => h a b d S (s.trans s1)
  | ct e => exact fun a b d S s1 => h a b d S (s.trans s1)
  | er x e => exact fun a b d f g S s1 q => h a b d f g S (s.trans s1) q
  | no => exact h
/-- an expression, then the rest of the statement -/
theorem tM_bs {α β : Type} {rl : Rl α β} {K : β → Hp → Prop} {m : En → R α} {f : α → En → Rs} (S : SR c env σ H F) (h : OkS c W F Z ((m env).bs f))
    (k : ∀ a e b H1 F1, SR c e σ H1 F1 → Same F F1 → rl e σ F1 H1 a b → OkS c W F1 Z (f a e) → K b H1) : tM c W rl m σ H K := by
  refine ⟨env, F, S, ?_⟩
  cases e : m env with
  | ok a e1 =>
    rw [e] at h
    exact fun b H1 F1 S1 s1 q => k a e1 b H1 F1 S1 s1 q (OkS.mono h s1)
  | er x e1 =>
    rw [e] at h
    exact fun cls dx H1 F1 S1 s1 q => h cls dx σ H1 F1 S1 s1 q
  | no =>
    rw [e] at h
    exact h
def sSeq (m n : En → Rs) : En → Rs := fun env => (m env).bind n
def sNil : En → Rs := .nx
theorem rss_nil : PSs X [] (tS c W sNil) := pss_nil.imp fun D σ H ⟨env, F, S, q⟩ => q σ H F S (Same.refl _)
theorem rss_one {st : Stmt} {m : En → Rs} (h : PS X st (tS c W m)) : PSs X [st] (tS c W m) := pss_one h
theorem rss_cons {st : Stmt} {rest : List Stmt} {m n : En → Rs} (h1 : PS X st (tS c W m)) (h2 : PSs X rest (tS c W n)) : PSs X (st :: rest) (tS c W (sSeq m n)) := (pss_cons h1 h2).imp fun D σ H ⟨env, F, S, q⟩ => by
  refine ⟨env, F, S, ?_⟩
  unfold sSeq at q
  cases z : m env with
  | nx e =>
    rw [z] at q
    exact fun σ' H' F' S' s' => ⟨e, F', S', OkS.mono q s'⟩
  | rt v e =>
    rw [z] at q
    exact q
  | bk e =>
    rw [z] at q
    exact q
  | ct e =>
    rw [z] at q
    exact q
  | er x e =>
    rw [z] at q
    exact q
  | no =>
    rw [z] at q
    exact q
def sPass : En → Rs := .nx
def sBk : En → Rs := .bk
def sCt : En → Rs := .ct
theorem rs_pass {pos : Pos} : PS X (.Pass pos) (tS c W sPass) := ps_pass.imp fun D σ H ⟨env, F, S, q⟩ => q σ H F S (Same.refl _)
theorem rs_bk {pos : Pos} : PS X (.Break pos) (tS c W sBk) := ps_break.imp fun D σ H ⟨env, F, S, q⟩ => q σ H F S (Same.refl _)
theorem rs_ct {pos : Pos} : PS X (.Continue pos) (tS c W sCt) := ps_continue.imp fun D σ H ⟨env, F, S, q⟩ => q σ H F S (Same.refl _)
def sEx (m : En → R D) : En → Rs := fun env => (m env).bs fun _ e => .nx e
theorem rs_ex {e : Expr} {pos : Pos} {m : En → R D} (h : PE X e (tE c W m)) (hs : swapsWith e none pos.line X.env = pure false := by rfl) : PS X (.Expr e pos) (tS c W (sEx m)) := (ps_expr h hs).imp fun D σ H ⟨env, F, S, q⟩ =>
  tM_bs S q fun d e v H1 F1 S1 s1 r1 h1 => h1 σ H1 F1 S1 (Same.refl _)
def sRt (m : En → R D) : En → Rs := fun env => (m env).bs fun d e => .rt d e
theorem rs_rt {e : Expr} {pos : Pos} {m : En → R D} (h : PE X e (tE c W m)) (hf : c.fr = false := by rfl) : PS X (.Return (some e) pos) (tS c W (sRt m)) := (ps_ret h).imp fun D σ H ⟨env, F, S, q⟩ =>
  tM_bs S q fun d e v H1 F1 S1 s1 r1 h1 => h1 v σ H1 F1 S1 (Same.refl _) (by unfold rlR; rw [if_neg (by rw [hf]; exact Bool.false_ne_true)]; exact r1)
theorem rs_rtF {e : Expr} {pos : Pos} {m : En → R D} (h : PE X e (tF c W m)) (hf : c.fr = true := by rfl) : PS X (.Return (some e) pos) (tS c W (sRt m)) := (ps_ret h).imp fun D σ H ⟨env, F, S, q⟩ =>
  tM_bs S q fun d e v H1 F1 S1 s1 r1 h1 => h1 v σ H1 F1 S1 (Same.refl _) (by unfold rlR; rw [if_pos hf]; exact .inl r1)
/-- a return of what no container is in, in a def that hands back new containers -/
def sRtI (m : En → R D) : En → Rs := fun env => (m env).bs fun d e => if imm d = true then .rt d e else .no
theorem rs_rtI {e : Expr} {pos : Pos} {m : En → R D} (h : PE X e (tE c W m)) (hf : c.fr = true := by rfl) : PS X (.Return (some e) pos) (tS c W (sRtI m)) := (ps_ret h).imp fun D σ H ⟨env, F, S, q⟩ =>
  tM_bs S q fun d e v H1 F1 S1 s1 r1 h1 => by
    by_cases hi : imm d = true
    · rw [if_pos hi] at h1
      exact h1 v σ H1 F1 S1 (Same.refl _) (by unfold rlR; rw [if_pos hf]; exact .inr ⟨hi, r1⟩)
    · rw [if_neg hi] at h1
      exact h1.elim
def sRtN : En → Rs := fun env => .rt .non env
theorem rs_rtN {pos : Pos} (hf : c.fr = false := by rfl) : PS X (.Return none pos) (tS c W sRtN) := ps_retN.imp fun D σ H ⟨env, F, S, q⟩ => q .non σ H F S (Same.refl _) (by unfold rlR; rw [if_neg (by rw [hf]; exact Bool.false_ne_true)]; exact .non)
def sIf (t : En → R Bool) (m n : En → Rs) : En → Rs := fun env => (t env).bs fun b e => if b = true then m e else n e
theorem rs_if {cnd : Expr} {a b : List Stmt} {pos : Pos} {t : En → R Bool} {m n : En → Rs} (hc : PT X cnd (tT c W t)) (ha : PSs X a (tS c W m)) (hb : PSs X b (tS c W n)) : PS X (.If cnd a b pos) (tS c W (sIf t m n)) :=
  (ps_if hc ha hb).imp fun D σ H ⟨env, F, S, q⟩ => by
    refine tM_bs S q fun d e v H1 F1 S1 s1 r1 h1 => ?_
    cases r1
    cases d with
    | true => exact iteT ⟨e, F1, S1, h1⟩
    | false => exact iteF ⟨e, F1, S1, h1⟩
/-! ### slots stored -/
def free (env : En) (i : Nat) : Bool := match env[i]? with
  | some (.rf _) => false
  | some _ => true
  | none => false
theorem SR.set (S : SR c env σ H F) {i : Nat} {d : PV.D} {v : V} (hf : free env i = true) (r : Rep c.toGc F d v) : SR c (env.set i (.fz d)) (σ.set i (some v)) H F := by
  have hi : i < env.length := by
    unfold free at hf
    by_cases h : i < env.length
    · exact h
    · rw [List.getElem?_eq_none (by omega)] at hf
      cases hf
  have hi2 : i < σ.length := S.len ▸ hi
  have own : ∀ j a, Own (env.set i (.fz d)) (σ.set i (some v)) j a → j ≠ i ∧ Own env σ j a := fun j a ⟨h1, d', h2⟩ => by
    have hj : j ≠ i := fun z => by
      subst z
      rw [List.getElem?_set_self hi] at h2
      rcases h2 with h2 | h2 <;> cases h2
    rw [List.getElem?_set_ne (Ne.symm hj)] at h1 h2
    exact ⟨hj, h1, d', h2⟩
  refine ⟨S.gr, S.there, S.rt, by simpa using S.len, fun j d' e => ?_, fun j d' e => ?_, fun j d' e => ?_, fun j k a h1 h2 => S.apart j k a (own j a h1).2 (own k a h2).2⟩
  · by_cases hj : j = i
    · subst hj
      rw [List.getElem?_set_self hi] at e
      cases e
      exact ⟨v, List.getElem?_set_self hi2, r⟩
    · rw [List.getElem?_set_ne (Ne.symm hj)] at e ⊢
      exact S.fz j d' e
  · by_cases hj : j = i
    · subst hj
      rw [List.getElem?_set_self hi] at e
      cases e
    · rw [List.getElem?_set_ne (Ne.symm hj)] at e ⊢
      exact S.ow j d' e
  · by_cases hj : j = i
    · subst hj
      rw [List.getElem?_set_self hi] at e
      cases e
    · rw [List.getElem?_set_ne (Ne.symm hj)] at e ⊢
      exact S.rf j d' e
theorem SR.setO (S : SR c env σ H F) {i : Nat} {d : PV.D} {v : V} (hf : free env i = true) (r : rlF c env σ F H d v) : SR c (env.set i (.ow d)) (σ.set i (some v)) H F := by
  obtain ⟨a, o, ev, h1, h2, h3, _, h4, h5⟩ := r
  subst ev
  have hi : i < env.length := by
    unfold free at hf
    by_cases h : i < env.length
    · exact h
    · rw [List.getElem?_eq_none (by omega)] at hf
      cases hf
  have hi2 : i < σ.length := S.len ▸ hi
  have own : ∀ j b, Own (env.set i (.ow d)) (σ.set i (some (.ref a))) j b → (j = i ∧ b = a) ∨ (j ≠ i ∧ Own env σ j b) := fun j b ⟨g1, d', g2⟩ => by
    by_cases hj : j = i
    · subst hj
      rw [List.getElem?_set_self hi2] at g1
      cases g1
      exact .inl ⟨rfl, rfl⟩
    · rw [List.getElem?_set_ne (Ne.symm hj)] at g1 g2
      exact .inr ⟨hj, g1, d', g2⟩
  refine ⟨S.gr, S.there, S.rt, by simpa using S.len, fun j d' e => ?_, fun j d' e => ?_, fun j d' e => ?_, fun j k b g1 g2 => ?_⟩
  · by_cases hj : j = i
    · subst hj
      rw [List.getElem?_set_self hi] at e
      cases e
    · rw [List.getElem?_set_ne (Ne.symm hj)] at e ⊢
      exact S.fz j d' e
  · by_cases hj : j = i
    · subst hj
      rw [List.getElem?_set_self hi] at e
      cases e
      exact ⟨a, o, List.getElem?_set_self hi2, h1, h2, h3, h5⟩
    · rw [List.getElem?_set_ne (Ne.symm hj)] at e ⊢
      exact S.ow j d' e
  · by_cases hj : j = i
    · subst hj
      rw [List.getElem?_set_self hi] at e
      cases e
    · rw [List.getElem?_set_ne (Ne.symm hj)] at e ⊢
      exact S.rf j d' e
  · rcases own j b g1 with ⟨e1, e2⟩ | ⟨e1, e2⟩ <;> rcases own k b g2 with ⟨e3, e4⟩ | ⟨e3, e4⟩
    · rw [e1, e3]
    · subst e2
      exact absurd e4 (h4 k)
    · subst e4
      exact absurd e2 (h4 j)
    · exact S.apart j k b e2 e4
def sSet (i : Nat) (m : En → R D) : En → Rs := fun env => (m env).bs fun d e => if free e i = true then .nx (e.set i (.fz d)) else .no
def sSetO (i : Nat) (m : En → R D) : En → Rs := fun env => (m env).bs fun d e => if free e i = true then .nx (e.set i (.ow d)) else .no
variable {i : Nat} {x : Str} {e : Expr} {pos pos' : Pos} {m : En → R PV.D}
theorem set_ok {D : Ends} (q : tS c W (sSet i m) D σ H) : tE c W m σ H fun v H1 => gName i v σ H1 D.nx := by
  obtain ⟨env, F, S, q⟩ := q
  refine tM_bs S q fun d e v H1 F1 S1 s1 r1 h1 => ?_
  split at h1
  · rename_i hf
    exact h1 _ H1 F1 (S1.set hf r1) (Same.refl _)
  · exact h1.elim
theorem setO_ok {D : Ends} (q : tS c W (sSetO i m) D σ H) : tF c W m σ H fun v H1 => gName i v σ H1 D.nx := by
  obtain ⟨env, F, S, q⟩ := q
  refine tM_bs S q fun d e v H1 F1 S1 s1 r1 h1 => ?_
  split at h1
  · rename_i hf
    exact h1 _ H1 F1 (S1.setO hf r1) (Same.refl _)
  · exact h1.elim
theorem rs_set (hN : X.N.Nodup) (hi : X.N[i]? = some x) (hx : Loc X.env.scope x) (he : PE X e (tE c W m)) (hs : swapsWith e (some (.Name x pos')) pos.line X.env = pure false := by rfl) (hf : X.fn x = true ∨ X.env.scope.names.lookup x = some .local := by first | exact .inl rfl | exact .inr rfl) :
    PS X (.Assign [.Name x pos'] e pos) (tS c W (sSet i m)) := (ps_set hN hi hx he hs hf).imp fun D σ H q => set_ok q
theorem rs_setO (hN : X.N.Nodup) (hi : X.N[i]? = some x) (hx : Loc X.env.scope x) (he : PE X e (tF c W m)) (hs : swapsWith e (some (.Name x pos')) pos.line X.env = pure false := by rfl) (hf : X.fn x = true ∨ X.env.scope.names.lookup x = some .local := by first | exact .inl rfl | exact .inr rfl) :
    PS X (.Assign [.Name x pos'] e pos) (tS c W (sSetO i m)) := (ps_set hN hi hx he hs hf).imp fun D σ H q => setO_ok q
end
end PV

namespace PV
open PySem PySem.Spec PyProof.Rows L2
section
variable {c : Cn} {W : WX} {X : Cx} {F F' H : Hp} {Z : Ends} {σ : L2.St} {env : En}
/-! ### while -/
def whileN : Nat → (En → R Bool) → (En → Rs) → En → Rs
  | 0, _, _, _ => .no
  | n + 1, t, m, env => (t env).bs fun b e => if b = true then (match m e with
    | .nx e' => whileN n t m e'
    | .ct e' => whileN n t m e'
    | .bk e' => .nx e'
    | r => r) else .nx e
def fuel : Nat := 1000000000
def sWhile (t : En → R Bool) (m : En → Rs) : En → Rs := whileN fuel t m
/-- a loop's turn: what the body is to reach -/
theorem turn_ok {N : L2.St → Hp → Prop} {r : Rs} {k : En → Rs} (h : OkS c W F Z (match r with
    | .nx e' => k e'
    | .ct e' => k e'
    | .bk e' => .nx e'
    | r => r)) (hN : ∀ e σ H' F', SR c e σ H' F' → Same F F' → OkS c W F' Z (k e) → N σ H') : OkS c W F { Z with nx := N, ct := N, bk := Z.nx } r := by
  cases r with
  | nx e => exact fun σ H' F' S s => hN e σ H' F' S s (OkS.mono h s)
  | ct e => exact fun σ H' F' S s => hN e σ H' F' S s (OkS.mono h s)
  | bk e => exact h
  | rt d e => exact h
  | er x e => exact h
  | no => exact h
theorem while_ok {t : En → R Bool} {m : En → Rs} (q : tS c W (sWhile t m) Z σ H) : tWhile (tT c W t) (tS c W m) Z σ H := by
  obtain ⟨env, F, S, q⟩ := q
  refine ⟨fun n σ H => ∃ e F', SR c e σ H F' ∧ OkS c W F' Z (whileN n t m e), ⟨fuel, env, F, S, q⟩, ?_⟩
  rintro n σ H ⟨e, F', S, q⟩
  cases n with
  | zero => exact q.elim
  | succ n =>
    unfold whileN at q
    refine tM_bs S q fun b e1 b' H1 F1 S1 s1 r1 h1 => ?_
    cases r1
    cases b with
    | true =>
      refine iteT ⟨fun σ' H' => ∃ e F', SR c e σ' H' F' ∧ OkS c W F' Z (whileN n t m e), fun σ' H' h => ⟨n, Nat.lt_succ_self n, h⟩, e1, F1, S1, ?_⟩
      exact turn_ok (k := whileN n t m) h1 fun e σ H' F' S s q => ⟨e, F', S, q⟩
    | false => exact iteF (h1 σ H1 F1 S1 (Same.refl _))
theorem rs_while {cnd : Expr} {body : List Stmt} {pos : Pos} {t : En → R Bool} {m : En → Rs} (hp : PassesOwn (model X.prog X.w) X.A X.env X.xe) (hc : PT X cnd (tT c W t)) (hb : PSs X body (tS c W m)) : PS X (.While cnd body [] pos) (tS c W (sWhile t m)) :=
  (ps_while hp hc hb).imp fun Z σ H q => while_ok q
/-! ### targets -/
inductive Tg where
  | n (i : Nat) | t (ts : List Tg)
mutual
def bindT : Tg → D → En → Option En
  | .n i, d, e => if free e i = true then some (e.set i (.fz d)) else none
  | .t ts, d, e => match d with
    | .tup xs => bindTs ts xs e
    | _ => none
def bindTs : List Tg → List D → En → Option En
  | [], [], e => some e
  | t :: ts, d :: ds, e => (bindT t d e).bind fun e1 => bindTs ts ds e1
  | _, _, _ => none
end
mutual
def hasT : Tg → Nat → Bool
  | .n i, j => i == j
  | .t ts, j => hasTs ts j
def hasTs : List Tg → Nat → Bool
  | [], _ => false
  | t :: ts, j => hasT t j || hasTs ts j
end
def Off (T : Nat → Bool) (σ σ' : L2.St) : Prop := σ'.length = σ.length ∧ ∀ j, T j = false → σ'[j]? = σ[j]?
def tG (c : Cn) (T : Tg) : TG := fun v σ H Q => ∃ env F d, SR c env σ H F ∧ Rep c.toGc F d v ∧ (match bindT T d env with
  | some e => ∀ σ' H' F', SR c e σ' H' F' → Same F F' → Off (hasT T) σ σ' → Q σ' H'
  | none => False)
def tGs (c : Cn) (T : List Tg) : TGs := fun vs σ H Q => ∃ env F ds, SR c env σ H F ∧ Reps c.toGc F ds vs ∧ (match bindTs T ds env with
  | some e => ∀ σ' H' F', SR c e σ' H' F' → Same F F' → Off (hasTs T) σ σ' → Q σ' H'
  | none => False)
theorem _root_.L2.PG.imp {X : Cx} {e : Expr} {t t' : TG} (h : PG X e t) (k : ∀ v σ H Q, t' v σ H Q → t v σ H Q) : PG X e t' := ⟨fun pins s σ H v u Q I r q => h.run pins s σ H v u Q I r (k _ _ _ _ q)⟩
theorem _root_.L2.PGs.imp {X : Cx} {e : List Expr} {t t' : TGs} (h : PGs X e t) (k : ∀ v σ H Q, t' v σ H Q → t v σ H Q) : PGs X e t' := ⟨fun pins s σ H v u Q I r q => h.run pins s σ H v u Q I r (k _ _ _ _ q)⟩
theorem _root_.L2.PI.imp {X : Cx} {tg e : Expr} {t t' : TI} (h : PI X tg e t) (k : ∀ σ H Q, t' σ H Q → t σ H Q) : PI X tg e t' := ⟨fun pins s σ H R I q => h.run pins s σ H R I (k _ _ _ q)⟩
theorem rg_name {i : Nat} {x : Str} {pos : Pos} (hN : X.N.Nodup) (hi : X.N[i]? = some x) (hx : Loc X.env.scope x) (hf : X.fn x = true ∨ X.env.scope.names.lookup x = some .local := by first | exact .inl rfl | exact .inr rfl) : PG X (.Name x pos) (tG c (.n i)) :=
  (pg_name hN hi hx hf).imp fun v σ H Q ⟨env, F, d, S, r, h⟩ => by
    unfold bindT at h
    split at h
    · rename_i e z
      split at z
      · rename_i hf
        cases z
        refine h _ H F (S.set hf r) (Same.refl _) ⟨by simp, fun j hj => ?_⟩
        have ne : ¬ i = j := by
          unfold hasT at hj
          simpa using hj
        rw [List.getElem?_set_ne ne]
      · cases z
    · exact h.elim
theorem rgs_nil : PGs X [] (tGs c []) := pgs_nil.imp fun v σ H Q ⟨env, F, ds, S, r, h⟩ => by
  cases r with
  | nil =>
    unfold bindTs at h
    exact ⟨rfl, h σ H F S (Same.refl _) ⟨rfl, fun _ _ => rfl⟩⟩
  | cons a b =>
    unfold bindTs at h
    exact h.elim
theorem rgs_cons {e : Expr} {es : List Expr} {T : Tg} {Ts : List Tg} (h1 : PG X e (tG c T)) (h2 : PGs X es (tGs c Ts))
    (hs : (assignEach (e :: es) X.env).map (·.2) = assign e X.env :: (assignEach es X.env).map (·.2) := by rfl) : PGs X (e :: es) (tGs c (T :: Ts)) := (pgs_cons h1 h2 hs).imp fun v σ H Q ⟨env, F, ds, S, r, h⟩ => by
  match v, ds, r, h with
  | _, _, .nil, h =>
    unfold bindTs at h
    exact h.elim
  | _, _, @Reps.cons _ _ x xs v vs a b, h =>
    unfold bindTs at h
    refine ⟨v, vs, rfl, env, F, x, S, a, ?_⟩
    cases z : bindT T x env with
    | none =>
      rw [z] at h
      exact h.elim
    | some e1 =>
      rw [z] at h
      intro σ1 H1 F1 S1 s1 o1
      refine ⟨e1, F1, xs, S1, Reps.mono s1 b, ?_⟩
      have h' : (match bindTs Ts xs e1 with
        | some e => ∀ σ' H' F', SR c e σ' H' F' → Same F F' → Off (hasTs (T :: Ts)) σ σ' → Q σ' H'
        | none => False) := h
      cases z2 : bindTs Ts xs e1 with
      | none =>
        rw [z2] at h'
        exact h'
      | some e2 =>
        rw [z2] at h'
        refine fun σ2 H2 F2 S2 s2 o2 => h' σ2 H2 F2 S2 (s1.trans s2) ⟨o2.1.trans o1.1, fun j hj => ?_⟩
        unfold hasTs at hj
        rw [Bool.or_eq_false_iff] at hj
        rw [o2.2 j hj.2, o1.2 j hj.1]
theorem rg_tup {es : List Expr} {k : Nat} {Ts : List Tg} {pos : Pos} (hK : c.K = X.K) (hc : X.calm = true) (h : PGs X es (tGs c Ts)) (hst : (assignEach es X.env).findIdx? (·.1) = none := by rfl) (hl : (assignEach es X.env).length = Ts.length := by rfl) : PG X (.Tuple es k pos) (tG c (.t Ts)) :=
  (pg_tup (n := Ts.length) hc h hl hst).imp fun v σ H Q ⟨env, F, d, S, r, h⟩ => by
    match v, d, r, h with
    | _, _, @Rep.tup _ _ a xs vs q1 q2, h =>
      unfold bindT at h
      have hl : vs.length = Ts.length := by
        have h' : (match bindTs Ts xs env with
          | some e => ∀ σ' H' F', SR c e σ' H' F' → Same F F' → Off (hasT (.t Ts)) σ σ' → Q σ' H'
          | none => False) := h
        have len : ∀ (Ts : List Tg) (xs : List PV.D) (env e : En), bindTs Ts xs env = some e → xs.length = Ts.length := by
          intro Ts
          induction Ts with
          | nil =>
            intro xs env e z
            cases xs with
            | nil => rfl
            | cons y ys =>
              unfold bindTs at z
              cases z
          | cons T Ts ih =>
            intro xs env e z
            cases xs with
            | nil =>
              unfold bindTs at z
              cases z
            | cons y ys =>
              unfold bindTs at z
              cases z1 : bindT T y env with
              | none =>
                rw [z1] at z
                cases z
              | some e1 =>
                rw [z1] at z
                simp [ih ys e1 e z]
        cases z2 : bindTs Ts xs env with
        | none =>
          rw [z2] at h'
          exact h'.elim
        | some e2 => rw [← len Ts xs env e2 z2, q2.length]
      rw [← hK]
      refine ⟨a, vs, rfl, sqT_mono S.wf.sub q1, hl, env, F, xs, S, q2, ?_⟩
      have h' : (match bindTs Ts xs env with
        | some e => ∀ σ' H' F', SR c e σ' H' F' → Same F F' → Off (hasT (.t Ts)) σ σ' → Q σ' H'
        | none => False) := h
      cases z2 : bindTs Ts xs env with
      | none =>
        rw [z2] at h'
        exact h'
      | some e2 =>
        rw [z2] at h'
        exact fun σ' H' F' S' s' o' => h' σ' H' F' S' s' ⟨o'.1, fun j hj => o'.2 j (by unfold hasT at hj; exact hj)⟩
    | _, _, .non, h => unfold bindT at h; exact h.elim
    | _, _, .bl, h => unfold bindT at h; exact h.elim
    | _, _, .int, h => unfold bindT at h; exact h.elim
    | _, _, .str, h => unfold bindT at h; exact h.elim
    | _, _, .lst _ _, h => unfold bindT at h; exact h.elim
    | _, _, .dik _ _, h => unfold bindT at h; exact h.elim
    | _, _, .dit _ _, h => unfold bindT at h; exact h.elim
    | _, _, .ins _ _ _ _ _, h => unfold bindT at h; exact h.elim
    | _, _, .fn _, h => unfold bindT at h; exact h.elim
    | _, _, .lam _ _ _, h => unfold bindT at h; exact h.elim
    | _, _, .ro _ _, h => unfold bindT at h; exact h.elim
/-! ### what is walked -/
/-- the iterator yields these, as long as the frozen part stays -/
structure ItS (g : Gc) (F : Hp) (J : It) (ds : List PV.D) : Prop where
  go : ∀ i d F' H', ds[i]? = some d → Same F F' → WF g F' H' → J.go i H' ∧ ∀ x H'', J.yld i H' x H'' → ∃ F'', Go g F' H' F'' H'' ∧ Rep g F'' d x
  stop : ∀ F' H', Same F F' → WF g F' H' → J.stop ds.length H'
abbrev rlI (c : Cn) : Rl (List PV.D) It := fun _ _ F _ ds J => ItS c.toGc F J ds
abbrev tI (c : Cn) (W : WX) (m : En → R (List PV.D)) : TI := tM c W (rlI c) m
theorem itS_list {g : Gc} {a : Addr} {vs : List V} {ds : List PV.D} (h : SqL g.K F a vs) (r : Reps g F ds vs) (fn : ∀ F' H', Same F F' → WF g F' H' → ∀ ys, SqL g.K H' a ys → ys = vs) : ItS g F (Itl g.K a) ds := by
  refine ⟨fun i d F' H' e s w => ?_, fun F' H' s w => ⟨vs, w.sub.seq (s.seq h), by rw [r.length]; exact Nat.le_refl _⟩⟩
  obtain ⟨v, hv, rv⟩ := r.get e
  refine ⟨⟨vs, v, w.sub.seq (s.seq h), hv⟩, fun x H'' y => ?_⟩
  obtain ⟨e1, e2⟩ := y
  subst e1
  have := e2 vs (w.sub.seq (s.seq h))
  rw [hv] at this
  cases this
  exact ⟨F', Go.refl w, rv.mono s⟩
/-- for: the turns -/
def forL (T : Tg) (m : En → Rs) : List PV.D → En → Rs
  | [], e => .nx e
  | d :: r, e => match bindT T d e with
    | none => .no
    | some e1 => (match m e1 with
      | .nx e2 => forL T m r e2
      | .ct e2 => forL T m r e2
      | .bk e2 => .nx e2
      | r' => r')
def sFor (mi : En → R (List PV.D)) (T : Tg) (m : En → Rs) : En → Rs := fun env => (mi env).bs fun ds e => forL T m ds e
theorem for_ok {mi : En → R (List PV.D)} {T : Tg} {m : En → Rs} (q : tS c W (sFor mi T m) Z σ H) : tFor (tI c W mi) (tG c T) (tS c W m) Z σ H := by
  obtain ⟨env, F, S, q⟩ := q
  refine tM_bs S q fun ds e J H1 F1 S1 s1 r1 h1 => ?_
  refine ⟨fun i n σ H => n + i = ds.length ∧ ∃ e F', SR c e σ H F' ∧ Same F1 F' ∧ OkS c W F' Z (forL T m (ds.drop i) e), ⟨ds.length, by simp, e, F1, S1, Same.refl _, h1⟩, ?_⟩
  rintro i n σ2 H2 ⟨hn, e2, F2, S2, s2, q2⟩
  by_cases hi : i < ds.length
  · have hd : ds.drop i = ds[i] :: ds.drop (i + 1) := List.drop_eq_getElem_cons hi
    rw [hd] at q2
    unfold forL at q2
    obtain ⟨g1, g2⟩ := r1.go i ds[i] F2 H2 (List.getElem?_eq_getElem hi) s2 S2.wf
    refine .inr ⟨g1, fun σ' H' => ∃ e F', SR c e σ' H' F' ∧ Same F1 F' ∧ OkS c W F' Z (forL T m (ds.drop (i + 1)) e), fun σ' H' h => ⟨n - 1, by omega, by omega, h⟩, fun x H3 y => ?_⟩
    obtain ⟨F3, go3, r3⟩ := g2 x H3 y
    refine ⟨e2, F3, ds[i], S2.go go3, r3, ?_⟩
    cases z : bindT T ds[i] e2 with
    | none =>
      rw [z] at q2
      exact q2.elim
    | some e3 =>
      rw [z] at q2
      intro σ4 H4 F4 S4 s4 _
      refine ⟨e3, F4, S4, ?_⟩
      have s24 : Same F2 F4 := go3.gr.f.trans s4
      exact turn_ok (k := forL T m (ds.drop (i + 1))) (OkS.mono (show OkS c W F2 Z (match m e3 with
        | .nx e2 => forL T m (ds.drop (i + 1)) e2
        | .ct e2 => forL T m (ds.drop (i + 1)) e2
        | .bk e2 => .nx e2
        | r' => r') from q2) s24) fun e σ H' F' S s q => ⟨e, F', S, (s2.trans s24).trans s, q⟩
  · have e : i = ds.length := by omega
    subst e
    rw [List.drop_length] at q2
    unfold forL at q2
    exact .inl ⟨r1.stop F2 H2 s2 S2.wf, q2 σ2 H2 F2 S2 (Same.refl _)⟩
theorem rs_for {tg iter : Expr} {body : List Stmt} {pos : Pos} {mi : En → R (List PV.D)} {T : Tg} {m : En → Rs} (hp : PassesOwn (model X.prog X.w) X.A X.env X.xe) (hc : X.calm = true) (hi : PI X tg iter (tI c W mi)) (hg : PG X tg (tG c T)) (hb : PSs X body (tS c W m))
    (hs : ∀ x, foldedSetIterable iter X.env x = pure x := by intro _; rfl) : PS X (.For tg iter body [] pos) (tS c W (sFor mi T m)) := (ps_for hp hc hi hg hb hs).imp fun Z σ H q => for_ok q
/-! ### comprehensions -/
def wipeE (e : En) : List Nat → En
  | [] => e
  | i :: r => (wipeE e r).set i .no
/-- slots of a block's own names as they were, if frozen -/
def backE (e0 e : En) : List Nat → En
  | [] => e
  | i :: r => (backE e0 e r).set i (match e0[i]? with
    | some (.fz d) => .fz d
    | _ => .no)
theorem wipeE_get {e : En} {i : Nat} {s : Sl} : ∀ {vs : List Nat}, (wipeE e vs)[i]? = some s → s = .no ∨ (e[i]? = some s ∧ i ∉ vs)
  | [], h => .inr ⟨h, by simp⟩
  | v :: vs, h => by
    unfold wipeE at h
    by_cases hi : v = i
    · subst hi
      by_cases hv : v < (wipeE e vs).length
      · rw [List.getElem?_set_self hv] at h
        exact .inl (Option.some.inj h).symm
      · rw [List.getElem?_eq_none (by simpa using hv)] at h
        cases h
    · rw [List.getElem?_set_ne hi] at h
      rcases wipeE_get h with h | ⟨h1, h2⟩
      · exact .inl h
      · exact .inr ⟨h1, by simp only [List.mem_cons, not_or]; exact ⟨fun e => hi e.symm, h2⟩⟩
theorem wipeE_len (e : En) : ∀ vs : List Nat, (wipeE e vs).length = e.length
  | [] => rfl
  | v :: vs => by unfold wipeE; rw [List.length_set, wipeE_len e vs]
theorem wipe_keep {σ : L2.St} {i : Nat} : ∀ {vs : List Nat}, i ∉ vs → (wipe σ vs)[i]? = σ[i]?
  | [], _ => rfl
  | v :: vs, h => by
    simp only [List.mem_cons, not_or] at h
    unfold wipe
    rw [List.getElem?_set_ne (Ne.symm h.1), wipe_keep h.2]
theorem SR.wipe (S : SR c env σ H F) (vs : List Nat) : SR c (wipeE env vs) (L2.wipe σ vs) H F := by
  have own : ∀ j a, Own (wipeE env vs) (L2.wipe σ vs) j a → Own env σ j a := fun j a ⟨h1, d', h2⟩ => by
    have h3 : env[j]? = some (.ow d') ∧ j ∉ vs ∨ env[j]? = some (.rf d') ∧ j ∉ vs := by
      rcases h2 with h2 | h2
      · rcases wipeE_get h2 with z | z
        · cases z
        · exact .inl z
      · rcases wipeE_get h2 with z | z
        · cases z
        · exact .inr z
    rcases h3 with ⟨h3, h4⟩ | ⟨h3, h4⟩
    · rw [wipe_keep h4] at h1
      exact ⟨h1, d', .inl h3⟩
    · rw [wipe_keep h4] at h1
      exact ⟨h1, d', .inr h3⟩
  refine ⟨S.gr, S.there, S.rt, by rw [wipeE_len, wipe_length]; exact S.len, fun i d e => ?_, fun i d e => ?_, fun i d e => ?_, fun i j a h1 h2 => S.apart i j a (own i a h1) (own j a h2)⟩
  · rcases wipeE_get e with z | ⟨z1, z2⟩
    · cases z
    · rw [wipe_keep z2]
      exact S.fz i d z1
  · rcases wipeE_get e with z | ⟨z1, z2⟩
    · cases z
    · rw [wipe_keep z2]
      exact S.ow i d z1
  · rcases wipeE_get e with z | ⟨z1, z2⟩
    · cases z
    · rw [wipe_keep z2]
      exact S.rf i d z1
theorem backE_len (e0 e : En) : ∀ vs : List Nat, (backE e0 e vs).length = e.length
  | [] => rfl
  | v :: vs => by unfold backE; rw [List.length_set, backE_len e0 e vs]
theorem backE_get {e0 e : En} {i : Nat} {s : Sl} : ∀ {vs : List Nat}, (backE e0 e vs)[i]? = some s → (i ∈ vs ∧ (s = .no ∨ ∃ d, s = .fz d ∧ e0[i]? = some (.fz d))) ∨ (e[i]? = some s ∧ i ∉ vs)
  | [], h => .inr ⟨h, by simp⟩
  | v :: vs, h => by
    unfold backE at h
    by_cases hi : v = i
    · subst hi
      by_cases hv : v < (backE e0 e vs).length
      · rw [List.getElem?_set_self hv] at h
        have h' := Option.some.inj h
        refine .inl ⟨by simp, ?_⟩
        split at h'
        · rename_i d z
          exact .inr ⟨d, h'.symm, z⟩
        · exact .inl h'.symm
      · rw [List.getElem?_eq_none (by simpa using hv)] at h
        cases h
    · rw [List.getElem?_set_ne hi] at h
      rcases backE_get h with ⟨h1, h2⟩ | ⟨h1, h2⟩
      · exact .inl ⟨List.mem_cons_of_mem _ h1, h2⟩
      · exact .inr ⟨h1, by simp only [List.mem_cons, not_or]; exact ⟨fun e => hi e.symm, h2⟩⟩
/-- behind a block -/
theorem SR.back {e0 e : En} {F0 H0 : Hp} {vs : List Nat} (S0 : SR c e0 σ H0 F0) (S : SR c e (L2.wipe σ vs) H F) (s : Same F0 F) : SR c (backE e0 e vs) σ H F := by
  have own : ∀ j a, Own (backE e0 e vs) σ j a → Own e (L2.wipe σ vs) j a := fun j a ⟨h1, d', h2⟩ => by
    have h3 : (e[j]? = some (.ow d') ∨ e[j]? = some (.rf d')) ∧ j ∉ vs := by
      rcases h2 with h2 | h2
      · rcases backE_get h2 with ⟨_, z | ⟨d, z, _⟩⟩ | ⟨z1, z2⟩
        · cases z
        · cases z
        · exact ⟨.inl z1, z2⟩
      · rcases backE_get h2 with ⟨_, z | ⟨d, z, _⟩⟩ | ⟨z1, z2⟩
        · cases z
        · cases z
        · exact ⟨.inr z1, z2⟩
    exact ⟨by rw [wipe_keep h3.2]; exact h1, d', h3.1⟩
  refine ⟨S.gr, S.there, S.rt, by rw [backE_len, S.len, wipe_length], fun i d z => ?_, fun i d z => ?_, fun i d z => ?_, fun i j a h1 h2 => S.apart i j a (own i a h1) (own j a h2)⟩
  · rcases backE_get z with ⟨_, z | ⟨d', z, z'⟩⟩ | ⟨z1, z2⟩
    · cases z
    · cases z
      obtain ⟨v, h1, h2⟩ := S0.fz i d z'
      exact ⟨v, h1, h2.mono s⟩
    · have := S.fz i d z1
      rw [wipe_keep z2] at this
      exact this
  · rcases backE_get z with ⟨_, z | ⟨d', z, z'⟩⟩ | ⟨z1, z2⟩
    · cases z
    · cases z
    · have := S.ow i d z1
      rw [wipe_keep z2] at this
      exact this
  · rcases backE_get z with ⟨_, z | ⟨d', z, z'⟩⟩ | ⟨z1, z2⟩
    · cases z
    · cases z
    · have := S.rf i d z1
      rw [wipe_keep z2] at this
      exact this
end
end PV

namespace PV
open PySem PySem.Spec PyProof.Rows L2
/-- nothing is let out -/
abbrev W0 : WX := fun _ _ _ _ => False
/-- one more object is kept -/
abbrev Cn.kp (c : Cn) (H0 : Hp) : Cn := { c with H0 := H0 }
section
variable {c : Cn} {W : WX} {X : Cx} {F F' H : Hp} {Z : Ends} {σ : L2.St} {env : En}
theorem SR.keep (S : SR c env σ H F) {a : Addr} {o : HO} (h : H a = some o) (hF : F a = none) (h0 : c.H0 a = none) (no : ∀ i, ¬ Own env σ i a) : SR (c.kp (upd c.H0 a o)) env σ H F := by
  have f0 : c.F0 a = none := S.gr.f.free hF
  refine ⟨⟨S.wf, S.gr.f, fun b u e n r => ?_, fun b hb => ?_⟩, fun b hb => ?_, fun b e => upd_there b (S.rt b e), S.len, S.fz, fun i d e => ?_, S.rf, S.apart⟩
  · by_cases hb : b = a
    · subst hb
      have e' : upd c.H0 b o b = some u := e
      rw [upd_same] at e'
      rw [h, e']
    · have e' : upd c.H0 a o b = some u := e
      rw [upd_ne hb] at e'
      exact S.gr.h b u e' n r
  · by_cases hz : b = a
    · subst hz
      exact hF.trans f0.symm
    · have hb' : upd c.H0 a o b ≠ none := hb
      rw [upd_ne hz] at hb'
      exact S.gr.new b hb'
  · by_cases hz : b = a
    · subst hz
      rw [h]
      simp
    · have hb' : upd c.H0 a o b ≠ none := hb
      rw [upd_ne hz] at hb'
      exact S.there b hb'
  · obtain ⟨b, u, h1, h2, h3, h4, h5⟩ := S.ow i d e
    have hb : b ≠ a := fun z => by subst z; exact no i ⟨h1, d, .inl e⟩
    refine ⟨b, u, h1, h2, h3, ?_, h5⟩
    show upd c.H0 a o b = none
    rw [upd_ne hb]
    exact h4
theorem SR.unkeep {a : Addr} {o : HO} (S : SR (c.kp (upd c.H0 a o)) env σ H F) (h0 : c.H0 a = none) (hr : c.ra ≠ some a) : SR c env σ H F := by
  have ne : ∀ b, c.H0 b ≠ none → upd c.H0 a o b = c.H0 b := fun b hb => upd_ne fun z => by subst z; exact hb h0
  have nn : ∀ b, upd c.H0 a o b = none → c.H0 b = none := fun b hb => by
    cases q : c.H0 b with
    | none => rfl
    | some u =>
      rw [ne b (by rw [q]; simp), q] at hb
      cases hb
  refine ⟨⟨S.wf, S.gr.f, fun b u e n r => S.gr.h b u ((ne b (by rw [e]; simp)).trans e) n r, fun b hb => S.gr.new b (show upd c.H0 a o b ≠ none by rw [ne b hb]; exact hb)⟩, fun b hb => S.there b (show upd c.H0 a o b ≠ none by rw [ne b hb]; exact hb), fun b e => by
    have h1 : upd c.H0 a o b ≠ none := S.rt b e
    rw [upd_ne fun z => hr (by rw [← z]; exact e)] at h1
    exact h1, S.len, S.fz, fun i d e => ?_, S.rf, S.apart⟩
  obtain ⟨b, u, h1, h2, h3, h4, h5⟩ := S.ow i d e
  exact ⟨b, u, h1, h2, h3, nn b h4, h5⟩
theorem SR.kept {a : Addr} {o : HO} (S : SR (c.kp (upd c.H0 a o)) env σ H F) (nt : ∀ ps, o ≠ .tbl ps) (hr : c.ra ≠ some a) (f0 : c.F0 a = none) : H a = some o ∧ F a = none ∧ ∀ i, ¬ Own env σ i a := by
  have hF : F a = none := (S.gr.new a (by show upd c.H0 a o a ≠ none; rw [upd_same]; simp)).trans f0
  refine ⟨S.gr.h a o upd_same nt (fun z => hr z.symm), hF, fun i ⟨h1, d, h2⟩ => ?_⟩
  rcases h2 with h2 | h2
  · obtain ⟨b, u, e1, e2, e3, e4, _⟩ := S.ow i d h2
    rw [h1] at e1
    cases e1
    have e4' : upd c.H0 a o a = none := e4
    rw [upd_same] at e4'
    cases e4'
  · obtain ⟨b, u, e0, e1, _⟩ := S.rf i d h2
    rw [h1] at e1
    cases e1
    exact hr e0
/-! ### [elt for target in iter if ..] -/
def lcL (T : Tg) (t : En → R Bool) (m : En → R PV.D) (vs : List Nat) : List PV.D → En → R (List PV.D)
  | [], e => .ok [] e
  | d :: r, e => match bindT T d e with
    | none => .no
    | some e1 => (match t e1 with
      | .ok true e2 => (match m e2 with
        | .ok y e3 => (lcL T t m vs r (wipeE e3 vs)).bind fun ys e' => .ok (y :: ys) e'
        | _ => .no)
      | .ok false e2 => lcL T t m vs r (wipeE e2 vs)
      | _ => .no)
def mLc (mi : En → R (List PV.D)) (T : Tg) (t : En → R Bool) (m : En → R PV.D) (vs : List Nat) : En → R PV.D := fun env => (mi env).bind fun ds e => if ds.length ≤ lim then (lcL T t m vs ds (wipeE e vs)).bind fun ys e' => .ok (.lst ys) (backE e e' vs) else .no
theorem wipe_wipe (σ : L2.St) : ∀ vs : List Nat, wipe (wipe σ vs) vs = wipe σ vs := by
  intro vs
  apply List.ext_getElem?
  intro i
  by_cases hi : i ∈ vs
  · have none_of : ∀ (σ : L2.St) (vs : List Nat), i ∈ vs → (wipe σ vs)[i]? = if i < σ.length then some none else none := by
      intro σ vs
      induction vs with
      | nil => intro h; cases h
      | cons w vs ih =>
        intro h
        unfold wipe
        by_cases e : w = i
        · subst e
          by_cases hl : w < σ.length
          · rw [if_pos hl, List.getElem?_set_self (by rw [wipe_length]; exact hl)]
          · rw [if_neg hl]
            exact List.getElem?_eq_none (by rw [List.length_set, wipe_length]; omega)
        · rw [List.getElem?_set_ne e]
          exact ih ((List.mem_cons.mp h).resolve_left fun z => e z.symm)
    rw [none_of _ vs hi, none_of _ vs hi, wipe_length]
  · rw [wipe_keep hi]
mutual
def okT (vs : List Nat) : Tg → Bool
  | .n i => vs.contains i
  | .t ts => okTs vs ts
def okTs (vs : List Nat) : List Tg → Bool
  | [] => true
  | t :: ts => okT vs t && okTs vs ts
end
mutual
theorem okT_has {vs : List Nat} {j : Nat} (hj : j ∉ vs) : ∀ {T : Tg}, okT vs T = true → hasT T j = false
  | .n i, h => by
    unfold okT at h
    unfold hasT
    have : i ∈ vs := by simpa using h
    have ne : i ≠ j := fun z => hj (z ▸ this)
    simpa using ne
  | .t ts, h => by
    unfold okT at h
    unfold hasT
    exact okTs_has hj h
theorem okTs_has {vs : List Nat} {j : Nat} (hj : j ∉ vs) : ∀ {Ts : List Tg}, okTs vs Ts = true → hasTs Ts j = false
  | [], h => by
    unfold hasTs
    rfl
  | t :: ts, h => by
    unfold okTs at h
    unfold hasTs
    rw [Bool.and_eq_true] at h
    rw [okT_has hj h.1, okTs_has hj h.2]
    rfl
end
theorem wipe_at {σ : L2.St} {i : Nat} : ∀ {vs : List Nat}, i ∈ vs → (wipe σ vs)[i]? = if i < σ.length then some none else none
  | w :: vs, h => by
    unfold wipe
    by_cases e : w = i
    · subst e
      by_cases hl : w < σ.length
      · rw [if_pos hl, List.getElem?_set_self (by rw [wipe_length]; exact hl)]
      · rw [if_neg hl]
        exact List.getElem?_eq_none (by rw [List.length_set, wipe_length]; omega)
    · rw [List.getElem?_set_ne e]
      exact wipe_at ((List.mem_cons.mp h).resolve_left fun z => e z.symm)
theorem wipe_off {T : Tg} {vs : List Nat} {σ σ' : L2.St} (h : okT vs T = true) (o : Off (hasT T) σ σ') : wipe σ' vs = wipe σ vs := by
  apply List.ext_getElem?
  intro i
  by_cases hi : i ∈ vs
  · rw [wipe_at hi, wipe_at hi, o.1]
  · rw [wipe_keep hi, wipe_keep hi, o.2 i (okT_has hi h)]
/-! ### a container written -/
/-- an object that no slot owns is written -/
theorem SR.put (S : SR c env σ H F) {a : Addr} {u o : HO} (h : H a = some u) (hF : F a = none) (h0 : c.H0 a = none) (no : ∀ i, ¬ Own env σ i a) (n1 : ∀ ps, u ≠ .tbl ps) (n2 : ∀ φ, u ≠ .ext φ) (n3 : tupy o = false) : SR c env σ (upd H a o) F := by
  have un : ∀ b, b ≠ a → upd H a o b = H b := fun b hb => upd_ne hb
  refine ⟨⟨⟨fun b w e => ?_, fun b w e t => ?_, S.wf.nt, Tabs_put S.wf.tab h n1 n2 (no_of n3)⟩, S.gr.f, fun b w e n r => ?_, S.gr.new⟩, fun b hb => upd_there b (S.there b hb), S.rt, S.len, S.fz, fun i d e => ?_, fun i d e => ?_, S.apart⟩
  · rw [un b fun z => by rw [z, hF] at e; cases e]
    exact S.wf.sub _ _ e
  · by_cases hb : b = a
    · subst hb
      rw [upd_same] at e
      rw [← Option.some.inj e, n3] at t
      cases t
    · rw [un b hb] at e
      exact S.wf.tup _ _ e t
  · rw [un b fun z => by rw [z, h0] at e; cases e]
    exact S.gr.h b w e n r
  · obtain ⟨b, w, h1, h2, h3⟩ := S.ow i d e
    have hb : b ≠ a := fun z => by subst z; exact no i ⟨h1, d, .inl e⟩
    exact ⟨b, w, h1, by rw [un b hb]; exact h2, h3⟩
  · obtain ⟨b, w, h0', h1, h2, h3⟩ := S.rf i d e
    have hb : b ≠ a := fun z => by subst z; exact no i ⟨h1, d, .inr e⟩
    exact ⟨b, w, h0', h1, by rw [un b hb]; exact h2, h3⟩
theorem own_back {e0 e : En} {vs : List Nat} {j : Nat} {a : Addr} (h : Own (backE e0 e vs) σ j a) : Own e (wipe σ vs) j a := by
  obtain ⟨h1, d', h2⟩ := h
  have h3 : (e[j]? = some (.ow d') ∨ e[j]? = some (.rf d')) ∧ j ∉ vs := by
    rcases h2 with h2 | h2
    · rcases backE_get h2 with ⟨_, z | ⟨d, z, _⟩⟩ | ⟨z1, z2⟩
      · cases z
      · cases z
      · exact ⟨.inl z1, z2⟩
    · rcases backE_get h2 with ⟨_, z | ⟨d, z, _⟩⟩ | ⟨z1, z2⟩
      · cases z
      · cases z
      · exact ⟨.inr z1, z2⟩
  exact ⟨by rw [wipe_keep h3.2]; exact h1, d', h3.1⟩
theorem own_wipe {vs : List Nat} {j : Nat} {a : Addr} (h : Own (wipeE env vs) (wipe σ vs) j a) : Own env σ j a := by
  obtain ⟨h1, d', h2⟩ := h
  have h3 : (env[j]? = some (.ow d') ∨ env[j]? = some (.rf d')) ∧ j ∉ vs := by
    rcases h2 with h2 | h2
    · rcases wipeE_get h2 with z | ⟨z1, z2⟩
      · cases z
      · exact ⟨.inl z1, z2⟩
    · rcases wipeE_get h2 with z | ⟨z1, z2⟩
      · cases z
      · exact ⟨.inr z1, z2⟩
  exact ⟨by rw [← wipe_keep h3.2]; exact h1, d', h3.1⟩
/-! ### the comprehension's reading -/
def tGx (c : Cn) (T : Tg) : TG := fun v σ H Q => ∃ H0, tG (c.kp H0) T v σ H Q
def tTx (c : Cn) (t : En → R Bool) : TT := fun σ H Q => ∃ H0, tT (c.kp H0) W0 t σ H Q
def tEx (c : Cn) (m : En → R PV.D) : TE := fun σ H Q => ∃ H0, tE (c.kp H0) W0 m σ H Q
theorem lc_ok {mi : En → R (List PV.D)} {T : Tg} {t : En → R Bool} {m : En → R PV.D} {vs : List Nat} {Q : VK} (hT : okT vs T = true) (q : tF c W (mLc mi T t m vs) σ H Q) : tLc (tI c W mi) (tGx c T) (tTx c t) (tEx c m) vs σ H Q := by
  obtain ⟨env, F, S, q⟩ := q
  refine tM_bind S q fun ds e0 J H1 F1 S1 s1 r1 h1 => ?_
  split at h1
  · rename_i hlen
    intro Dd nD
    have h0D : c.H0 Dd = none := S1.h0 nD
    have hrD : c.ra ≠ some Dd := fun z => S1.rtH Dd z nD
    have f0D : c.F0 Dd = none := S1.gr.f.free (S1.wf.sub.free nD)
    refine ⟨fun i n H' => n + i = ds.length ∧ ∃ e F' acc vacc, SR c e (wipe σ vs) H' F' ∧ Same F1 F' ∧ H' Dd = some (.lst vacc) ∧ F' Dd = none ∧ (∀ j, ¬ Own e (wipe σ vs) j Dd) ∧ Reps c.toGc F' acc vacc ∧ acc.length ≤ i ∧
      Okp c W σ F' (rlF c) Q ((lcL T t m vs (ds.drop i) e).bind fun ys e' => .ok (.lst (acc ++ ys)) (backE e0 e' vs)), ⟨ds.length, by simp, ?_⟩, ?_⟩
    · have SW := S1.wipe vs
      exact ⟨wipeE e0 vs, F1, [], [], SW.fresh nD rfl, Same.refl _, upd_same, S1.wf.sub.free nD, fun j h => (SW.own_there h).1 nD, .nil, Nat.zero_le _, h1⟩
    · rintro i n H2 ⟨hn, e, F2, acc, vacc, S2, s2, hD, hFD, no, ra, hacc, q2⟩
      by_cases hi : i < ds.length
      · have hd : ds.drop i = ds[i] :: ds.drop (i + 1) := List.drop_eq_getElem_cons hi
        rw [hd] at q2
        unfold lcL at q2
        obtain ⟨g1, g2⟩ := r1.go i ds[i] F2 H2 (List.getElem?_eq_getElem hi) s2 S2.wf
        refine .inr ⟨g1, fun H' => n - 1 + (i + 1) = ds.length ∧ ∃ e F' acc vacc, SR c e (wipe σ vs) H' F' ∧ Same F1 F' ∧ H' Dd = some (.lst vacc) ∧ F' Dd = none ∧ (∀ j, ¬ Own e (wipe σ vs) j Dd) ∧ Reps c.toGc F' acc vacc ∧ acc.length ≤ i + 1 ∧
          Okp c W σ F' (rlF c) Q ((lcL T t m vs (ds.drop (i + 1)) e).bind fun ys e' => .ok (.lst (acc ++ ys)) (backE e0 e' vs)), fun H' h => ⟨n - 1, by omega, h⟩, fun x H3 y => ?_⟩
        obtain ⟨F3, go3, r3⟩ := g2 x H3 y
        have S3 := S2.go go3
        have hD3 : H3 Dd = some (.lst vacc) := go3.gr.h Dd _ hD (fun ps z => by cases z) (by simp)
        have hF3 : F3 Dd = none := (go3.gr.new Dd (by rw [hD]; simp)).trans hFD
        have K3 := S3.keep hD3 hF3 h0D no
        refine ⟨upd c.H0 Dd (.lst vacc), e, F3, ds[i], K3, r3, ?_⟩
        cases z : bindT T ds[i] e with
        | none =>
          rw [z] at q2
          exact q2.elim
        | some e1 =>
          rw [z] at q2
          intro σ4 H4 F4 S4 s4 o4
          have ew : wipe σ4 vs = wipe σ vs := (wipe_off hT o4).trans (wipe_wipe σ vs)
          refine ⟨ew, upd c.H0 Dd (.lst vacc), e1, F4, S4, ?_⟩
          have s24 : Same F2 F4 := go3.gr.f.trans s4
          -- behind a turn
          have fin : ∀ {e5 : En} {H5 F5 : Hp}, SR (c.kp (upd c.H0 Dd (.lst vacc))) e5 σ4 H5 F5 → SR c (wipeE e5 vs) (wipe σ vs) H5 F5 ∧ H5 Dd = some (.lst vacc) ∧ F5 Dd = none ∧ ∀ j, ¬ Own (wipeE e5 vs) (wipe σ vs) j Dd := fun {e5 H5 F5} S5 => by
            obtain ⟨k1, k2, k3⟩ := S5.kept (fun ps z => by cases z) hrD f0D
            have S6 := (S5.unkeep h0D hrD).wipe vs
            rw [ew] at S6
            exact ⟨S6, k1, k2, fun j h => k3 j (own_wipe (by rw [ew]; exact h))⟩
          have q3 : Okp c W σ F2 (rlF c) Q ((match t e1 with
            | .ok true e2 => (match m e2 with
              | .ok y e3 => (lcL T t m vs (ds.drop (i + 1)) (wipeE e3 vs)).bind fun ys e' => R.ok (y :: ys) e'
              | _ => .no)
            | .ok false e2 => lcL T t m vs (ds.drop (i + 1)) (wipeE e2 vs)
            | _ => .no).bind fun ys e' => .ok (.lst (acc ++ ys)) (backE e0 e' vs)) := q2
          cases zt : t e1 with
          | ok b e2 =>
            rw [zt] at q3
            intro b' H5 F5 S5 s5 eb
            have eb' : b = b' := eb
            subst eb'
            have s25 : Same F2 F5 := s24.trans s5
            cases b with
            | true =>
              refine iteT ⟨upd c.H0 Dd (.lst vacc), e2, F5, S5, ?_⟩
              cases zm : m e2 with
              | ok y e3 =>
                simp only [zm] at q3
                rw [R.bind_assoc] at q3
                intro v H6 F6 S6 s6 rv
                obtain ⟨f1, f2, f3, f4⟩ := fin S6
                have s26 : Same F2 F6 := s25.trans s6
                have hl : vacc.length < lim := by rw [← ra.length]; omega
                refine ⟨vacc, f2, lim_lt hl, by omega, wipeE e3 vs, F6, acc ++ [y], vacc ++ [v], f1.put f2 f3 h0D f4 (fun ps z => by cases z) (fun φ z => by cases z) rfl, s2.trans s26, upd_same, f3, f4, (ra.mono s26).append (.cons rv .nil), by simp; omega, ?_⟩
                have q4 := Okp.mono q3 s26
                have ea : (fun (ys : List PV.D) (e' : En) => (R.ok (y :: ys) e' : R (List PV.D)).bind fun ys e' => R.ok (PV.D.lst (acc ++ ys)) (backE e0 e' vs)) = fun ys e' => R.ok (PV.D.lst ((acc ++ [y]) ++ ys)) (backE e0 e' vs) := by
                  funext ys e'
                  show R.ok (PV.D.lst (acc ++ (y :: ys))) _ = _
                  rw [List.append_assoc]
                  rfl
                rw [ea] at q4
                exact q4
              | er x e3 =>
                simp only [zm] at q3
                exact q3.elim
              | no =>
                simp only [zm] at q3
                exact q3.elim
            | false =>
              obtain ⟨f1, f2, f3, f4⟩ := fin S5
              refine iteF ⟨by omega, wipeE e2 vs, F5, acc, vacc, f1, s2.trans s25, f2, f3, f4, ra.mono s25, by omega, Okp.mono q3 s25⟩
          | er x e2 =>
            rw [zt] at q3
            exact q3.elim
          | no =>
            rw [zt] at q3
            exact q3.elim
      · have ei : i = ds.length := by omega
        subst ei
        rw [List.drop_length] at q2
        unfold lcL at q2
        have q2' : Okp c W σ F2 (rlF c) Q (.ok (.lst (acc ++ [])) (backE e0 e vs)) := q2
        rw [List.append_nil] at q2'
        exact .inl ⟨r1.stop F2 H2 s2 S2.wf, q2' (.ref Dd) H2 F2 (S1.back S2 s2) (Same.refl _) ⟨Dd, .lst vacc, rfl, hD, hFD, h0D, hrD, fun j h => no j (own_back h), .lst ra⟩⟩
  · exact h1.elim
theorem PGx {X : Cx} {e : Expr} {T : Tg} (h : ∀ H0, PG X e (tG (c.kp H0) T)) : PG X e (tGx c T) := ⟨fun pins s σ H v u Q I r ⟨H0, q⟩ => (h H0).run pins s σ H v u Q I r q⟩
theorem PEx {X : Cx} {e : Expr} {m : En → R PV.D} (h : ∀ H0, PE X e (tE (c.kp H0) W0 m)) : PE X e (tEx c m) := ⟨fun pins s σ H Q I ⟨H0, q⟩ => (h H0).run pins s σ H Q I q⟩
/-- the tests of a comprehension -/
def tYs : En → R Bool := fun e => .ok true e
theorem PTx0 {X : Cx} : PTs X [] (tTx c tYs) := ⟨fun pins s σ H Q I ⟨H0, env, F, S, q⟩ => pts_nil.run pins s σ H Q I (q true H F S (Same.refl _) rfl)⟩
theorem PTx1 {X : Cx} {e : Expr} {t : En → R Bool} (h : ∀ H0, PT X e (tT (c.kp H0) W0 t)) : PTs X [e] (tTx c t) := ⟨fun pins s σ H Q I ⟨H0, q⟩ => (pts_one (h H0)).run pins s σ H Q I q⟩
abbrev BX (X : Cx) (scope : Scope) : Type := (s : Shared) → (H : Hp) → (C : Addr) → (cl : List (Str × Addr)) → (fp : List Addr) → Cx
theorem re_lc {elt tg iter : Expr} {ifs : List Expr} {scope : Scope} {pos : Pos} {mi : En → R (List PV.D)} {T : Tg} {t : En → R Bool} {m : En → R PV.D} {own : List (Str × Nat)} (hc : X.calm = true) (hN : X.N.Nodup) (ok : BlkOk X.N X.env.scope scope own) (hT : okT (own.map (·.2)) T = true) (hi : PI X tg iter (tI c W mi))
    (hg : ∀ (s : Shared) (H : Hp) (C : Addr) (cl : List (Str × Addr)) (fp : List Addr), PG (X.blk s H scope (compEnvC scope cl C X.env) fp) tg (tGx c T)) (ht : ∀ (s : Shared) (H : Hp) (C : Addr) (cl : List (Str × Addr)) (fp : List Addr), PTs (X.blk s H scope (compEnvC scope cl C X.env) fp) ifs (tTx c t))
    (he : ∀ (s : Shared) (H : Hp) (C : Addr) (cl : List (Str × Addr)) (fp : List Addr), PE (X.blk s H scope (compEnvC scope cl C X.env) fp) elt (tEx c m)) (hs : ∀ x, foldedSetIterable iter X.env x = pure x := by intro _; rfl) :
    PE X (.ListComp elt [⟨tg, iter, ifs, 0⟩] scope pos) (tF c W (mLc mi T t m (own.map (·.2)))) := (pe_lc hc hN hi ok hg ht he hs).imp fun σ H Q q => lc_ok hT q
theorem rs_lc {i : Nat} {y : Str} {py : Pos} {elt tg iter : Expr} {ifs : List Expr} {scope : Scope} {pos spos : Pos} {mi : En → R (List PV.D)} {T : Tg} {t : En → R Bool} {m : En → R PV.D} {own : List (Str × Nat)} (hc : X.calm = true) (hN : X.N.Nodup) (hy : X.N[i]? = some y) (hyl : X.env.scope.names.lookup y = some .local)
    (hsw : swapsWith (.ListComp elt [⟨tg, iter, ifs, 0⟩] scope pos) (some (.Name y py)) spos.line X.env = pure true) (ok : BlkOk X.N X.env.scope scope own) (hT : okT (own.map (·.2)) T = true) (hi : PI X tg iter (tI c W mi))
    (hg : ∀ (s : Shared) (H : Hp) (C : Addr) (cl : List (Str × Addr)) (fp : List Addr), PG (X.blk s H scope (compEnvC scope cl C X.env) fp) tg (tGx c T)) (ht : ∀ (s : Shared) (H : Hp) (C : Addr) (cl : List (Str × Addr)) (fp : List Addr), PTs (X.blk s H scope (compEnvC scope cl C X.env) fp) ifs (tTx c t))
    (he : ∀ (s : Shared) (H : Hp) (C : Addr) (cl : List (Str × Addr)) (fp : List Addr), PE (X.blk s H scope (compEnvC scope cl C X.env) fp) elt (tEx c m)) (hs : ∀ x, foldedSetIterable iter X.env x = pure x := by intro _; rfl) :
    PS X (.Assign [.Name y py] (.ListComp elt [⟨tg, iter, ifs, 0⟩] scope pos) spos) (tS c W (sSetO i (mLc mi T t m (own.map (·.2))))) := (ps_setLc hc hN hy hyl hsw hi ok hg ht he hs).imp fun Z σ H q => by
  obtain ⟨env, F, S, q⟩ := q
  have h := setO_ok ⟨env, F, S, q⟩
  exact lc_ok hT h
end
end PV

namespace PV
open PySem PySem.Spec PyProof.Rows L2
/-! ### reading off -/
section
variable {g : Gc} {F H : Hp} {v : V}
theorem Rep1s.one {d : D} {vs : List V} (h : Rep1s g F H [d] vs) : ∃ x, vs = [x] ∧ Rep1 g F H d x := by
  match h with
  | .cons a .nil => exact ⟨_, rfl, a⟩
theorem Rep1s.two {d e : D} {vs : List V} (h : Rep1s g F H [d, e] vs) : ∃ x y, vs = [x, y] ∧ Rep1 g F H d x ∧ Rep1 g F H e y := by
  match h with
  | .cons a (.cons b .nil) => exact ⟨_, _, rfl, a, b⟩
theorem Rep1s.nil_ {vs : List V} (h : Rep1s g F H [] vs) : vs = [] := by
  cases h
  rfl
theorem Rep1.non_ (h : Rep1 g F H .non v) : v = .non := by
  rcases h with h | ⟨_, _, h⟩
  · cases h; rfl
  · cases h
theorem Rep1.bl_ {b : Bool} (h : Rep1 g F H (.bl b) v) : v = .bl b := by
  rcases h with h | ⟨_, _, h⟩
  · cases h; rfl
  · cases h
theorem Rep1.int_ {i : Int} (h : Rep1 g F H (.int i) v) : v = .int i := by
  rcases h with h | ⟨_, _, h⟩
  · cases h; rfl
  · cases h
theorem Rep1.str_ {z : Str} (h : Rep1 g F H (.str z) v) : v = .str z := by
  rcases h with h | ⟨_, _, h⟩
  · cases h; rfl
  · cases h
theorem Rep1.tup_ {xs : List D} (w : WF g F H) (h : Rep1 g F H (.tup xs) v) : ∃ a vs, v = .ref a ∧ SqT g.K H a vs ∧ SqT g.K F a vs ∧ Reps g F xs vs := by
  rcases h with h | ⟨_, _, h⟩
  · cases h with
    | tup h r => exact ⟨_, _, rfl, sqT_mono w.sub h, h, r⟩
  · cases h
theorem Rep1.lst_ {xs : List D} (w : WF g F H) (h : Rep1 g F H (.lst xs) v) : ∃ a vs, v = .ref a ∧ H a = some (.lst vs) ∧ Reps g F xs vs := by
  rcases h with h | ⟨e, h1, h⟩
  · cases h with
    | lst h r => exact ⟨_, _, rfl, w.sub _ _ h, r⟩
  · cases h with
    | lst r => exact ⟨_, _, e, h1, r⟩
theorem Rep1.ro_ {xs : List D} (w : WF g F H) (h : Rep1 g F H (.ro xs) v) : ∃ a vs, v = .ref a ∧ SqL g.K H a vs ∧ Reps g F xs vs := by
  rcases h with h | ⟨e, h1, h⟩
  · cases h with
    | ro h r => exact ⟨_, _, rfl, w.sub.seq h, r⟩
  · cases h
/-- the items of a list or tuple -/
def seqD : D → Option (List D)
  | .tup xs => some xs
  | .lst xs => some xs
  | .ro xs => some xs
  | _ => none
theorem Rep1.seq_ {d : D} {xs : List D} (w : WF g F H) (h : Rep1 g F H d v) (e : seqD d = some xs) : ∃ a vs, v = .ref a ∧ (SqL g.K H a vs ∨ SqT g.K H a vs) ∧ Reps g F xs vs := by
  cases d with
  | tup ys =>
    cases e
    obtain ⟨a, vs, h1, h2, _, h3⟩ := h.tup_ w
    exact ⟨a, vs, h1, .inr h2, h3⟩
  | lst ys =>
    cases e
    obtain ⟨a, vs, h1, h2, h3⟩ := h.lst_ w
    exact ⟨a, vs, h1, .inl (SqL.of h2), h3⟩
  | ro ys =>
    cases e
    obtain ⟨a, vs, h1, h2, h3⟩ := h.ro_ w
    exact ⟨a, vs, h1, .inl h2, h3⟩
  | _ => cases e
/-- .. of a list -/
def lstD : D → Option (List D)
  | .lst xs => some xs
  | .ro xs => some xs
  | _ => none
theorem Rep1.list_ {d : D} {xs : List D} (w : WF g F H) (h : Rep1 g F H d v) (e : lstD d = some xs) : ∃ a vs, v = .ref a ∧ SqL g.K H a vs ∧ Reps g F xs vs := by
  cases d with
  | lst ys =>
    cases e
    obtain ⟨a, vs, h1, h2, h3⟩ := h.lst_ w
    exact ⟨a, vs, h1, SqL.of h2, h3⟩
  | ro ys =>
    cases e
    obtain ⟨a, vs, h1, h2, h3⟩ := h.ro_ w
    exact ⟨a, vs, h1, h2, h3⟩
  | _ => cases e
/-- ints -/
def intsD : List D → Option (List Int)
  | [] => some []
  | .int i :: r => (intsD r).map (i :: ·)
  | _ :: _ => none
theorem Reps.ints : ∀ {ds : List D} {vs : List V} {ns : List Int}, Reps g F ds vs → intsD ds = some ns → vs = ns.map V.int
  | [], _, _, .nil, e => by
    cases e
    rfl
  | d :: ds, _, ns, .cons h t, e => by
    cases h with
    | int =>
      unfold intsD at e
      cases q : intsD ds with
      | none =>
        rw [q] at e
        cases e
      | some ms =>
        rw [q] at e
        cases e
        rw [Reps.ints t q]
        rfl
    | _ => cases e
theorem Reps.ofInts (ns : List Int) : Reps g F (ns.map D.int) (ns.map V.int) := by
  induction ns with
  | nil => exact .nil
  | cons n r ih => exact .cons .int ih
/-- bools -/
def blsD : List D → Option (List Bool)
  | [] => some []
  | .bl b :: r => (blsD r).map (b :: ·)
  | _ :: _ => none
theorem Reps.bls : ∀ {ds : List D} {vs : List V} {ns : List Bool}, Reps g F ds vs → blsD ds = some ns → vs = ns.map V.bl
  | [], _, _, .nil, e => by
    cases e
    rfl
  | d :: ds, _, ns, .cons h t, e => by
    cases h with
    | bl =>
      unfold blsD at e
      cases q : blsD ds with
      | none =>
        rw [q] at e
        cases e
      | some ms =>
        rw [q] at e
        cases e
        rw [Reps.bls t q]
        rfl
    | _ => cases e
theorem Reps.slice : ∀ {ds : List D} {vs : List V} (n m : Nat), Reps g F ds vs → Reps g F ((ds.drop n).take m) ((vs.drop n).take m) := by
  have tk : ∀ {ds : List D} {vs : List V} (m : Nat), Reps g F ds vs → Reps g F (ds.take m) (vs.take m) := by
    intro ds
    induction ds with
    | nil =>
      intro vs m h
      cases h
      simp
      exact .nil
    | cons d ds ih =>
      intro vs m h
      cases h with
      | cons a b =>
        cases m with
        | zero => exact .nil
        | succ m => exact .cons a (ih m b)
  have dp : ∀ {ds : List D} {vs : List V} (m : Nat), Reps g F ds vs → Reps g F (ds.drop m) (vs.drop m) := by
    intro ds
    induction ds with
    | nil =>
      intro vs m h
      cases h
      simp
      exact .nil
    | cons d ds ih =>
      intro vs m h
      cases h with
      | cons a b =>
        cases m with
        | zero => exact .cons a b
        | succ m => exact ih m b
  intro ds vs n m h
  exact tk m (dp n h)
end
/-! ### arithmetic -/
section
variable {g : Gc} {X : Cx}
def o2I (C : Int → Int → Bool) (k : Int → Int → D) : List D → Option D
  | [.int i, .int j] => if C i j = true then some (k i j) else none
  | _ => none
theorem oa_rI {C : Int → Int → Prop} {kv : Int → Int → V} {C' : Int → Int → Bool} {kd : Int → Int → D} (hC : ∀ i j, C' i j = true → C i j) (hk : ∀ i j F, Rep g F (kd i j) (kv i j)) : OpA g (r2 (rI C kv)) (o2I C' kd) := fun ds vs d F H Q w R e k => by
  unfold o2I at e
  split at e
  · rename_i i j
    split at e
    · rename_i hc
      cases e
      obtain ⟨x, y, rfl, h1, h2⟩ := R.two
      exact ⟨i, j, h1.int_, h2.int_, hC i j hc, k _ H F (Go.refl w) (hk i j F)⟩
    · cases e
  · cases e
theorem oa_rI0 {kv : Int → Int → V} {kd : Int → Int → D} (hk : ∀ i j F, Rep g F (kd i j) (kv i j)) : OpA g (r2 (rI0 kv)) (o2I (fun _ _ => true) kd) := fun ds vs d F H Q w R e k => by
  unfold o2I at e
  split at e
  · rename_i i j
    rw [if_pos rfl] at e
    cases e
    obtain ⟨x, y, rfl, h1, h2⟩ := R.two
    exact ⟨i, j, h1.int_, h2.int_, k _ H F (Go.refl w) (hk i j F)⟩
  · cases e
abbrev oSub : List D → Option D := o2I (fun _ _ => true) fun i j => .int (i - j)
theorem oa_sub : OpA g (r2 (rI0 fun i j => .int (i - j))) oSub := oa_rI0 fun _ _ _ => .int
abbrev oAnd : List D → Option D := o2I (fun _ _ => true) fun i j => .int (Builtin.bitAnd i j)
theorem oa_and : OpA g (r2 (rI0 fun i j => .int (Builtin.bitAnd i j))) oAnd := oa_rI0 fun _ _ _ => .int
abbrev oOr : List D → Option D := o2I (fun _ _ => true) fun i j => .int (Builtin.bitOr i j)
theorem oa_or : OpA g (r2 (rI0 fun i j => .int (Builtin.bitOr i j))) oOr := oa_rI0 fun _ _ _ => .int
abbrev oXor : List D → Option D := o2I (fun _ _ => true) fun i j => .int (Builtin.bitXor i j)
theorem oa_xor : OpA g (r2 (rI0 fun i j => .int (Builtin.bitXor i j))) oXor := oa_rI0 fun _ _ _ => .int
abbrev oLt : List D → Option D := o2I (fun _ _ => true) fun i j => .bl (decide (i < j))
theorem oa_lt : OpA g (r2 (rI0 fun i j => .bl (decide (i < j)))) oLt := oa_rI0 fun _ _ _ => .bl
abbrev oLe : List D → Option D := o2I (fun _ _ => true) fun i j => .bl (decide (i ≤ j))
theorem oa_le : OpA g (r2 (rI0 fun i j => .bl (decide (i ≤ j)))) oLe := oa_rI0 fun _ _ _ => .bl
abbrev oGt : List D → Option D := o2I (fun _ _ => true) fun i j => .bl (decide (j < i))
theorem oa_gt : OpA g (r2 (rI0 fun i j => .bl (decide (j < i)))) oGt := oa_rI0 fun _ _ _ => .bl
abbrev oGe : List D → Option D := o2I (fun _ _ => true) fun i j => .bl (decide (j ≤ i))
theorem oa_ge : OpA g (r2 (rI0 fun i j => .bl (decide (j ≤ i)))) oGe := oa_rI0 fun _ _ _ => .bl
def cMod (_ j : Int) : Bool := decide (j ≠ 0)
abbrev oMod : List D → Option D := o2I cMod fun i j => .int (i.fmod j)
theorem oa_mod : OpA g (r2 (rI (fun _ j => j ≠ 0) fun i j => .int (i.fmod j))) oMod := oa_rI (fun _ _ h => of_decide_eq_true h) fun _ _ _ => .int
def cFdiv (_ j : Int) : Bool := decide (0 < j) && decide (j.natAbs.log2 < 9000)
abbrev oFdiv : List D → Option D := o2I cFdiv fun i j => .int (i / j)
theorem oa_fdiv : OpA g (r2 (rI CDivW fun i j => .int (i / j))) oFdiv := oa_rI (fun i j h => by
  unfold cFdiv at h
  rw [Bool.and_eq_true] at h
  exact ⟨of_decide_eq_true h.1, of_decide_eq_true h.2⟩) fun _ _ _ => .int
def cPow (i j : Int) : Bool := decide (0 ≤ j) && (decide (j ≤ 1000000) && decide (i.natAbs < 2 ^ 64))
theorem cPow_ok {i j : Int} (h : cPow i j = true) : CPow i j := by
  unfold cPow at h
  rw [Bool.and_eq_true, Bool.and_eq_true] at h
  exact ⟨of_decide_eq_true h.1, of_decide_eq_true h.2.1, of_decide_eq_true h.2.2⟩
abbrev oPow : List D → Option D := o2I cPow fun i j => .int (i ^ j.toNat)
theorem oa_pow : OpA g (r2 (rI CPow fun i j => .int (i ^ j.toNat))) oPow := oa_rI (fun _ _ h => cPow_ok h) fun _ _ _ => .int
abbrev oShl : List D → Option D := o2I cPow fun i j => .int (i * 2 ^ j.toNat)
theorem oa_shl : OpA g (r2 (rI CPow fun i j => .int (i * 2 ^ j.toNat))) oShl := oa_rI (fun _ _ h => cPow_ok h) fun _ _ _ => .int
def cShr (_ j : Int) : Bool := decide (0 ≤ j)
abbrev oShr : List D → Option D := o2I cShr fun i j => .int (i / 2 ^ j.toNat)
theorem oa_shr : OpA g (r2 (rI (fun _ j => 0 ≤ j) fun i j => .int (i / 2 ^ j.toNat))) oShr := oa_rI (fun _ _ h => of_decide_eq_true h) fun _ _ _ => .int
def o1I (k : Int → D) : List D → Option D
  | [.int i] => some (k i)
  | _ => none
theorem oa_rU {kv : Int → V} {kd : Int → D} (hk : ∀ i F, Rep g F (kd i) (kv i)) : OpA g (r1 (rU kv)) (o1I kd) := fun ds vs d F H Q w R e k => by
  unfold o1I at e
  split at e
  · rename_i i
    cases e
    obtain ⟨x, rfl, h1⟩ := R.one
    exact ⟨i, h1.int_, k _ H F (Go.refl w) (hk i F)⟩
  · cases e
abbrev oNeg : List D → Option D := o1I fun i => .int (-i)
theorem oa_neg : OpA g (r1 (rU fun i => .int (-i))) oNeg := oa_rU fun _ _ => .int
abbrev oInv : List D → Option D := o1I fun i => .int (Builtin.bitNot i)
theorem oa_inv : OpA g (r1 (rU fun i => .int (Builtin.bitNot i))) oInv := oa_rU fun _ _ => .int
/-! ### + and * of all kinds -/
def rAddX (K : PySem.W.Frag) : R2 := fun x y H Q => rI0 (fun i j => .int (i + j)) x y H Q ∨ (∃ i j, x = .str i ∧ y = .str j ∧ i.length + j.length ≤ sizeLine ∧ Q (.str (i ++ j)) H) ∨ rCatA K x y H Q ∨ rCat x y H Q
theorem op_addX : OpR X (binaryOp .Add) (rAddX X.K) := op_add.or (op_add_str.or (op_catA.or op_cat))
def oAdd : List D → Option D
  | [.int i, .int j] => some (.int (i + j))
  | [.str x, .str y] => if x.length + y.length ≤ lim then some (.str (x ++ y)) else none
  | [.tup xs, .tup ys] => if xs.length + ys.length ≤ lim then some (.tup (xs ++ ys)) else none
  | [.lst xs, .lst ys] => if xs.length + ys.length ≤ lim then some (.lst (xs ++ ys)) else none
  | _ => none
def oCat : List D → Option D
  | [.lst xs, .lst ys] => if xs.length + ys.length ≤ lim then some (.lst (xs ++ ys)) else none
  | _ => none
theorem of_cat : OpF g (r2 rCat) oCat := fun ds vs d F H Q w R e k => by
  unfold oCat at e
  split at e
  · rename_i xs ys
    split at e
    · rename_i hz
      cases e
      obtain ⟨x, y, rfl, h1, h2⟩ := R.two
      obtain ⟨a, vs, rfl, ha, ra⟩ := h1.lst_ w
      obtain ⟨b, ws, rfl, hb, rb⟩ := h2.lst_ w
      exact ⟨a, b, vs, ws, rfl, rfl, ha, hb, lim_line (by rw [← ra.length, ← rb.length]; exact hz), fun p n => k p _ n (.lst (ra.append rb))⟩
    · cases e
  · cases e
theorem of_catX {K : PySem.W.Frag} : OpF g (r2 (rAddX K)) oCat := fun ds vs d F H Q w R e k => by
  have h := of_cat ds vs d F H Q w R e k
  match vs, h with
  | [x, y], h => exact .inr (.inr (.inr h))
theorem Reps.nil_iff {F : Hp} {xs : List D} {vs : List V} (r : Reps g F xs vs) : vs = [] ↔ xs = [] := by
  cases r <;> simp
theorem oa_add : OpA g (r2 (rAddX g.K)) oAdd := fun ds vs d F H Q w R e k => by
  unfold oAdd at e
  split at e
  · rename_i i j
    cases e
    obtain ⟨x, y, rfl, h1, h2⟩ := R.two
    exact .inl ⟨i, j, h1.int_, h2.int_, k _ H F (Go.refl w) .int⟩
  · rename_i x y
    split at e
    · rename_i hz
      cases e
      obtain ⟨_, _, rfl, h1, h2⟩ := R.two
      exact .inr (.inl ⟨x, y, h1.str_, h2.str_, lim_line hz, k _ H F (Go.refl w) .str⟩)
    · cases e
  · rename_i xs ys
    split at e
    · rename_i hz
      cases e
      obtain ⟨x, y, rfl, h1, h2⟩ := R.two
      obtain ⟨a, vs, rfl, ha, fa, ra⟩ := h1.tup_ w
      obtain ⟨b, ws, rfl, hb, fb, rb⟩ := h2.tup_ w
      refine .inr (.inr (.inl ⟨a, b, vs, ws, rfl, rfl, ha, hb, lim_line (by rw [← ra.length, ← rb.length]; exact hz), fun z => ?_, fun z1 z2 => ?_, fun z1 z2 p n => ?_⟩))
      · have : xs = [] := ra.nil_iff.mp z
        subst this
        exact k _ H F (Go.refl w) (.tup fb rb)
      · have : ys = [] := rb.nil_iff.mp z2
        subst this
        rw [List.append_nil] at k
        exact k _ H F (Go.refl w) (.tup fa ra)
      · have g2 := Go.frz w n (o := .tup (vs ++ ws)) (fun ps z => by cases z)
        exact k _ _ _ g2 (.tup (SqT.of upd_same) ((ra.append rb).mono g2.gr.f))
    · cases e
  · rename_i xs ys
    split at e
    · rename_i hz
      cases e
      have h := of_catX (K := g.K) [.lst xs, .lst ys] vs _ F H Q w R (if_pos hz) fun a o n ro => k _ _ _ (Go.frz w n ro.ntbl (no_of ro.ntup)) ((ro.mono (Same_upd (w.sub.free n))).rep rfl upd_same)
      exact h
    · cases e
  · cases e
/-- * -/
def cMul (i j : Int) : Bool := decide (i.natAbs.log2 + j.natAbs.log2 < 1000000)
def rMulX (K : PySem.W.Frag) : R2 := fun x y H Q => rI CMulW (fun i j => .int (i * j)) x y H Q ∨ rRep x y H Q ∨ rRepT K x y H Q
theorem op_mulXX : OpR X (binaryOp .Mult) (rMulX X.K) := op_mulW.or (op_rep.or op_repT)
def oRep : List D → Option D
  | [.lst xs, .int k] => if xs.length * k.toNat ≤ lim ∧ -(2 ^ 63) ≤ k ∧ k < 2 ^ 63 then some (.lst (List.replicate k.toNat xs).flatten) else none
  | _ => none
theorem Reps.rep {F : Hp} {xs : List D} {vs : List V} (r : Reps g F xs vs) : ∀ n : Nat, Reps g F (List.replicate n xs).flatten (List.replicate n vs).flatten
  | 0 => .nil
  | n + 1 => by
    rw [List.replicate_succ, List.replicate_succ, List.flatten_cons, List.flatten_cons]
    exact r.append (Reps.rep r n)
theorem of_rep {K : PySem.W.Frag} : OpF g (r2 (rMulX K)) oRep := fun ds vs d F H Q w R e k => by
  unfold oRep at e
  split at e
  · rename_i xs n
    split at e
    · rename_i hz
      cases e
      obtain ⟨x, y, rfl, h1, h2⟩ := R.two
      obtain ⟨a, vs, rfl, ha, ra⟩ := h1.lst_ w
      exact .inr (.inl ⟨a, n, vs, rfl, h2.int_, ha, hz.2.1, hz.2.2, lim_line (by rw [← ra.length]; exact hz.1), fun p np => k p _ np (.lst (ra.rep _))⟩)
    · cases e
  · cases e
def oMul : List D → Option D
  | [.int i, .int j] => if cMul i j = true then some (.int (i * j)) else none
  | [.tup xs, .int k] => if xs.isEmpty = false ∧ 2 ≤ k ∧ k ≤ 1000 ∧ xs.length ≤ 1000 then some (.tup (List.replicate k.toNat xs).flatten) else none
  | ds => oRep ds
theorem oa_mul : OpA g (r2 (rMulX g.K)) oMul := fun ds vs d F H Q w R e k => by
  unfold oMul at e
  split at e
  · rename_i i j
    split at e
    · rename_i hz
      cases e
      obtain ⟨x, y, rfl, h1, h2⟩ := R.two
      exact .inl ⟨i, j, h1.int_, h2.int_, (show i.natAbs.log2 + j.natAbs.log2 < 1000000 from of_decide_eq_true (by unfold cMul at hz; exact hz)), k _ H F (Go.refl w) .int⟩
    · cases e
  · rename_i xs n
    split at e
    · rename_i hz
      cases e
      obtain ⟨x, y, rfl, h1, h2⟩ := R.two
      obtain ⟨a, vs, rfl, ha, fa, ra⟩ := h1.tup_ w
      refine .inr (.inr ⟨a, n, vs, rfl, h2.int_, ha, fun z => ?_, hz.2.1, hz.2.2.1, by rw [← ra.length]; exact hz.2.2.2, fun p np => ?_⟩)
      · rw [ra.nil_iff.mp z] at hz
        cases hz.1
      · have g2 := Go.frz w np (o := .tup (List.replicate n.toNat vs).flatten) (fun ps z => by cases z)
        exact k _ _ _ g2 (.tup (SqT.of upd_same) ((ra.rep _).mono g2.gr.f))
    · cases e
  · exact of_rep.opA (fun ds d e => by
      unfold oRep at e
      split at e
      · split at e
        · cases e; rfl
        · cases e
      · cases e) ds vs d F H Q w R e k
/-! ### == -/
mutual
def toP : D → Option PyData
  | .non => some .none
  | .bl b => some (.bool b)
  | .int i => some (.int i)
  | .str z => some (.str z)
  | .tup xs => (toPs xs).map .tuple
  | .lst xs => (toPs xs).map .list
  | _ => none
def toPs : List D → Option (List PyData)
  | [] => some []
  | d :: ds => match toP d, toPs ds with
    | some p, some ps => some (p :: ps)
    | _, _ => none
end
mutual
theorem dp_of {F H : Hp} (s : Same F H) : ∀ {d : D} {v : V} {p : PyData}, Rep g F d v → toP d = some p → Dp g.K H v p
  | _, _, _, .non, e => by unfold toP at e; cases e; exact .non
  | _, _, _, .bl, e => by unfold toP at e; cases e; exact .bl _
  | _, _, _, .int, e => by unfold toP at e; cases e; exact .int _
  | _, _, _, .str, e => by unfold toP at e; cases e; exact .str _
  | _, _, _, @Rep.tup _ _ a xs vs h r, e => by
    unfold toP at e
    cases q : toPs xs with
    | none =>
      rw [q] at e
      cases e
    | some ps =>
      rw [q] at e
      cases e
      exact .tup (sqT_mono s h) (dps_of s r q)
  | _, _, _, @Rep.lst _ _ a xs vs h r, e => by
    unfold toP at e
    cases q : toPs xs with
    | none =>
      rw [q] at e
      cases e
    | some ps =>
      rw [q] at e
      cases e
      exact .lst (SqL.of (s _ _ h)) (dps_of s r q)
  | _, _, _, .ro _ _, e => by unfold toP at e; cases e
  | _, _, _, .dik _ _, e => by unfold toP at e; cases e
  | _, _, _, .dit _ _, e => by unfold toP at e; cases e
  | _, _, _, .ins _ _ _ _ _, e => by unfold toP at e; cases e
  | _, _, _, .fn _, e => by unfold toP at e; cases e
  | _, _, _, .lam _ _ _, e => by unfold toP at e; cases e
theorem dps_of {F H : Hp} (s : Same F H) : ∀ {ds : List D} {vs : List V} {ps : List PyData}, Reps g F ds vs → toPs ds = some ps → DpAll g.K H vs ps
  | _, _, _, .nil, e => by unfold toPs at e; cases e; exact .nil
  | _, _, _, @Reps.cons _ _ x xs v vs h t, e => by
    unfold toPs at e
    cases q1 : toP x with
    | none =>
      rw [q1] at e
      cases e
    | some p =>
      cases q2 : toPs xs with
      | none =>
        rw [q1, q2] at e
        cases e
      | some ps =>
        rw [q1, q2] at e
        cases e
        exact .cons (dp_of s h q1) (dps_of s t q2)
end
theorem Rep1.dp {F H : Hp} {d : D} {v : V} {p : PyData} (w : WF g F H) (h : Rep1 g F H d v) (e : toP d = some p) : Dp g.K H v p := by
  rcases h with h | ⟨e1, h1, h⟩
  · exact dp_of w.sub h e
  · cases h with
    | lst r =>
      subst e1
      unfold toP at e
      rename_i xs vs
      cases q : toPs xs with
      | none =>
        rw [q] at e
        cases e
      | some ps =>
        rw [q] at e
        cases e
        exact .lst (SqL.of h1) (dps_of w.sub r q)
    | _ => unfold toP at e; cases e
def eqD (d e : D) : Option Bool := match toP d, toP e with
  | some p, some q => if SeqAt.shaped p = true ∧ SeqAt.shaped q = true then some (PyData.eqv p q) else none
  | _, _ => none
def oEq : List D → Option D
  | [d, e] => (eqD d e).map .bl
  | _ => none
def oNe : List D → Option D
  | [d, e] => (eqD d e).map fun b => .bl !b
  | _ => none
theorem eqD_ok {F H : Hp} {d e : D} {x y : V} {b : Bool} (w : WF g F H) (h1 : Rep1 g F H d x) (h2 : Rep1 g F H e y) (h : eqD d e = some b) : ∃ p q, Dp g.K H x p ∧ Dp g.K H y q ∧ SeqAt.shaped p = true ∧ SeqAt.shaped q = true ∧ PyData.eqv p q = b := by
  unfold eqD at h
  cases q1 : toP d with
  | none =>
    rw [q1] at h
    cases h
  | some p =>
    cases q2 : toP e with
    | none =>
      rw [q1, q2] at h
      cases h
    | some q =>
      rw [q1, q2] at h
      have h' : (if SeqAt.shaped p = true ∧ SeqAt.shaped q = true then some (PyData.eqv p q) else none) = some b := h
      split at h'
      · rename_i hs
        exact ⟨p, q, h1.dp w q1, h2.dp w q2, hs.1, hs.2, Option.some.inj h'⟩
      · cases h'
theorem oa_eq : OpA g (r2 (rEqD g.K)) oEq := fun ds vs d F H Q w R e k => by
  unfold oEq at e
  split at e
  · rename_i d1 d2
    obtain ⟨x, y, rfl, h1, h2⟩ := R.two
    cases q : eqD d1 d2 with
    | none =>
      rw [q] at e
      cases e
    | some b =>
      rw [q] at e
      cases e
      obtain ⟨p, q', a1, a2, a3, a4, a5⟩ := eqD_ok w h1 h2 q
      exact ⟨p, q', a1, a2, a3, a4, by rw [a5]; exact k _ H F (Go.refl w) .bl⟩
  · cases e
theorem oa_ne : OpA g (r2 (rNeD g.K)) oNe := fun ds vs d F H Q w R e k => by
  unfold oNe at e
  split at e
  · rename_i d1 d2
    obtain ⟨x, y, rfl, h1, h2⟩ := R.two
    cases q : eqD d1 d2 with
    | none =>
      rw [q] at e
      cases e
    | some b =>
      rw [q] at e
      cases e
      obtain ⟨p, q', a1, a2, a3, a4, a5⟩ := eqD_ok w h1 h2 q
      exact ⟨p, q', a1, a2, a3, a4, by rw [a5]; exact k _ H F (Go.refl w) .bl⟩
  · cases e
/-! ### in -/
def flatD : D → Option V
  | .non => some .non
  | .bl b => some (.bl b)
  | .int i => some (.int i)
  | .str z => some (.str z)
  | _ => none
def flatDs : List D → Option (List V)
  | [] => some []
  | d :: ds => match flatD d, flatDs ds with
    | some v, some vs => some (v :: vs)
    | _, _ => none
theorem flatD_ok {F : Hp} {d : D} {v u : V} (h : Rep g F d v) (e : flatD d = some u) : v = u ∧ flatV v = true := by
  cases h <;> first | (cases e; exact ⟨rfl, rfl⟩) | cases e
theorem flatDs_ok {F : Hp} : ∀ {ds : List D} {vs us : List V}, Reps g F ds vs → flatDs ds = some us → vs = us ∧ vs.all flatV = true
  | _, _, _, .nil, e => by unfold flatDs at e; cases e; exact ⟨rfl, rfl⟩
  | _, _, _, @Reps.cons _ _ x xs v vs h t, e => by
    unfold flatDs at e
    cases q1 : flatD x with
    | none =>
      rw [q1] at e
      cases e
    | some p =>
      cases q2 : flatDs xs with
      | none =>
        rw [q1, q2] at e
        cases e
      | some ps =>
        rw [q1, q2] at e
        cases e
        obtain ⟨a1, a2⟩ := flatD_ok h q1
        obtain ⟨b1, b2⟩ := flatDs_ok t q2
        subst a1 b1
        exact ⟨rfl, by rw [List.all_cons, a2, b2]; rfl⟩
def inD (neg : Bool) : List D → Option D
  | [d, e] => match flatD d, (seqD e).bind flatDs with
    | some v, some vs => some (.bl (if neg then !inV v vs else inV v vs))
    | _, _ => none
  | _ => none
theorem oa_in (neg : Bool) : OpA g (r2 (rIn g.K neg)) (inD neg) := fun ds vs d F H Q w R e k => by
  unfold inD at e
  split at e
  · rename_i d1 d2
    obtain ⟨x, y, rfl, h1, h2⟩ := R.two
    cases q1 : flatD d1 with
    | none =>
      rw [q1] at e
      cases e
    | some v =>
      cases q2 : seqD d2 with
      | none =>
        rw [q1, q2] at e
        cases e
      | some xs =>
        rw [q1, q2] at e
        cases q3 : flatDs xs with
        | none =>
          have e' : (match (some v : Option V), (flatDs xs) with | some v, some vs => some (D.bl (if neg = true then !inV v vs else inV v vs)) | _, _ => none) = some d := e
          rw [q3] at e'
          cases e'
        | some us =>
          have e' : (match (some v : Option V), (flatDs xs) with | some v, some vs => some (D.bl (if neg = true then !inV v vs else inV v vs)) | _, _ => none) = some d := e
          rw [q3] at e'
          cases e'
          obtain ⟨a, ws, ey, hs, r⟩ := h2.seq_ w q2
          obtain ⟨b1, b2⟩ := flatDs_ok r q3
          subst b1
          have hx : x = v ∧ flatV x = true := by
            rcases h1 with h1 | ⟨_, _, h1⟩
            · exact flatD_ok h1 q1
            · cases h1 <;> cases q1
          obtain ⟨c1, c2⟩ := hx
          subst c1
          exact ⟨a, ws, ey, hs, c2, b2, k _ H F (Go.refl w) .bl⟩
  · cases e
/-! ### None -/
def isNonD : D → Bool
  | .non => true
  | _ => false
def oIsN : List D → Option D
  | [d, .non] => some (.bl (isNonD d))
  | _ => none
def oNotN : List D → Option D
  | [d, .non] => some (.bl (!isNonD d))
  | _ => none
theorem isNon_ok {F H : Hp} {d : D} {x : V} (h : Rep1 g F H d x) : decide (x = .non) = isNonD d := by
  rcases h with h | ⟨e, _, h⟩
  · cases h <;> first | rfl | exact decide_eq_false (fun z => by cases z)
  · subst e
    cases h <;> exact decide_eq_false (fun z => by cases z)
theorem oa_isN : OpA g (r2 (fun x y H Q => y = .non ∧ Q (.bl (decide (x = .non))) H)) oIsN := fun ds vs d F H Q w R e k => by
  unfold oIsN at e
  split at e
  · rename_i d1
    cases e
    obtain ⟨x, y, rfl, h1, h2⟩ := R.two
    exact ⟨h2.non_, by rw [isNon_ok h1]; exact k _ H F (Go.refl w) .bl⟩
  · cases e
theorem oa_notN : OpA g (r2 (fun x y H Q => y = .non ∧ Q (.bl (!decide (x = .non))) H)) oNotN := fun ds vs d F H Q w R e k => by
  unfold oNotN at e
  split at e
  · rename_i d1
    cases e
    obtain ⟨x, y, rfl, h1, h2⟩ := R.two
    exact ⟨h2.non_, by rw [isNon_ok h1]; exact k _ H F (Go.refl w) .bl⟩
  · cases e
end
end PV

namespace PV
open PySem PySem.Spec PyProof.Rows L2
/-! ### what no container is in -/
theorem sqT_tup {K : PySem.W.Frag} {F F' : Hp} {a : Addr} {vs : List V} (h : SqT K F a vs) (k : ∀ u, F a = some u → tupy u = true → F' a = some u) : SqT K F' a vs := by
  rcases h with (h | ⟨o, h⟩) | h
  · exact .inl (.inl (k _ h rfl))
  · exact .inl (.inr ⟨o, k _ h rfl⟩)
  · exact .inr h
mutual
theorem Rep.imm {g : Gc} {F F' : Hp} (k : ∀ a u, F a = some u → tupy u = true → F' a = some u) : ∀ {d : D} {v : V}, Rep g F d v → PV.imm d = true → Rep g F' d v
  | _, _, .non, _ => .non
  | _, _, .bl, _ => .bl
  | _, _, .int, _ => .int
  | _, _, .str, _ => .str
  | _, _, .fn m, _ => .fn m
  | _, _, .lam m l h, _ => .lam m l (k _ _ h rfl)
  | _, _, .tup h r, e => by
    unfold PV.imm at e
    exact .tup (sqT_tup h (k _)) (Reps.imm k r e)
  | _, _, .lst _ _, e => by unfold PV.imm at e; cases e
  | _, _, .ro _ _, e => by unfold PV.imm at e; cases e
  | _, _, .dik _ _, e => by unfold PV.imm at e; cases e
  | _, _, .dit _ _, e => by unfold PV.imm at e; cases e
  | _, _, .ins _ _ _ _ _, e => by unfold PV.imm at e; cases e
theorem Reps.imm {g : Gc} {F F' : Hp} (k : ∀ a u, F a = some u → tupy u = true → F' a = some u) : ∀ {ds : List D} {vs : List V}, Reps g F ds vs → imms ds = true → Reps g F' ds vs
  | _, _, .nil, _ => .nil
  | _, _, .cons h t, e => by
    unfold imms at e
    rw [Bool.and_eq_true] at e
    exact .cons (Rep.imm k h e.1) (Reps.imm k t e.2)
end
/-! ### built-ins -/
section
variable {c : Cn} {W : WX} {X : Cx} {x : Str} {p pos : Pos} {e : Expr} {es : List Expr} {id T : String} {r : List V → Hp → VK → Prop} {f : List D → Option D} {os : List Od}
theorem re_cb (hc : CallR X (.builtin id) r) (hf : OpA c.toGc r f) (hg : Gl X x) (hm : X.mg x = none) (hv : bootBuiltins x = some (.builtin id)) (ha : PA X (e :: es) (tOds c W os)) (hn : x ≠ "__name__" := by decide) (hdb : (x == ("__debug__" : Str)) = false := by decide)
    (he : starEach (e :: es) X.env = (false, eval e X.env) :: starEach es X.env := by rfl) (hpl : (backTo pos (starEach es X.env)).any (·.1) = false := by rfl) : PE X (.Call (.Name x p) (e :: es) [] pos) (tE c W (mOp f os)) :=
  (pe_callB hc hg hm hv ha hn hdb he hpl).imp fun _ _ _ q => tOp_ok hf q
theorem re_cbF (hc : CallR X (.builtin id) r) (hf : OpF c.toGc r f) (hg : Gl X x) (hm : X.mg x = none) (hv : bootBuiltins x = some (.builtin id)) (ha : PA X (e :: es) (tOds c W os)) (hn : x ≠ "__name__" := by decide) (hdb : (x == ("__debug__" : Str)) = false := by decide)
    (he : starEach (e :: es) X.env = (false, eval e X.env) :: starEach es X.env := by rfl) (hpl : (backTo pos (starEach es X.env)).any (·.1) = false := by rfl) : PE X (.Call (.Name x p) (e :: es) [] pos) (tF c W (mOp f os)) :=
  (pe_callB hc hg hm hv ha hn hdb he hpl).imp fun _ _ _ q => tOpF_ok hf q
theorem re_ct (hc : CallR X (.type T) r) (hf : OpA c.toGc r f) (hg : Gl X x) (hm : X.mg x = none) (hv : bootBuiltins x = some (.type T)) (ha : PA X (e :: es) (tOds c W os)) (hn : x ≠ "__name__" := by decide) (hdb : (x == ("__debug__" : Str)) = false := by decide)
    (he : starEach (e :: es) X.env = (false, eval e X.env) :: starEach es X.env := by rfl) (hpl : (backTo pos (starEach es X.env)).any (·.1) = false := by rfl) : PE X (.Call (.Name x p) (e :: es) [] pos) (tE c W (mOp f os)) :=
  (pe_callTy hc hg hm hv ha hn hdb he hpl).imp fun _ _ _ q => tOp_ok hf q
theorem re_ctF (hc : CallR X (.type T) r) (hf : OpF c.toGc r f) (hg : Gl X x) (hm : X.mg x = none) (hv : bootBuiltins x = some (.type T)) (ha : PA X (e :: es) (tOds c W os)) (hn : x ≠ "__name__" := by decide) (hdb : (x == ("__debug__" : Str)) = false := by decide)
    (he : starEach (e :: es) X.env = (false, eval e X.env) :: starEach es X.env := by rfl) (hpl : (backTo pos (starEach es X.env)).any (·.1) = false := by rfl) : PE X (.Call (.Name x p) (e :: es) [] pos) (tF c W (mOp f os)) :=
  (pe_callTy hc hg hm hv ha hn hdb he hpl).imp fun _ _ _ q => tOpF_ok hf q
end
section
variable {g : Gc} {X : Cx}
/-- len -/
def oLen : List D → Option D
  | [.str z] => if z.length ≤ lim then some (.int z.length) else none
  | [.dik kvs] => some (.int kvs.length)
  | [d] => (seqD d).map fun xs => .int xs.length
  | _ => none
def rLenX (K : PySem.W.Frag) : List V → Hp → VK → Prop := fun xs H Q => (∃ p ys, xs = [.ref p] ∧ (SqL K H p ys ∨ SqT K H p ys) ∧ Q (.int ys.length) H) ∨ (∃ z, xs = [.str z] ∧ z.length ≤ sizeLine ∧ Q (.int z.length) H) ∨ (∃ a kvs, xs = [V.ref a] ∧ Rd H a (.dK kvs) ∧ Q (.int kvs.length) H)
theorem call_lenDR : CallR X (.builtin "len") (fun xs H Q => ∃ a kvs, xs = [V.ref a] ∧ Rd H a (.dK kvs) ∧ Q (.int kvs.length) H) := by
  intro pins s σ H xs us Q I r h
  obtain ⟨a, kvs, rfl, ha, q⟩ := h
  obtain ⟨u, rfl, ru⟩ := vals1 r
  cases ru
  exact d_len I ha fun t s' I' => ⟨.int kvs.length, H, I', ⟨t, rfl⟩, q⟩
theorem call_lenX : CallR X (.builtin "len") (rLenX X.K) := call_len_seq.or (call_len_str.or call_lenDR)
theorem RepK.length {F : Hp} {xs : List (Key × D)} {vs : List (Key × V)} (r : RepK g F xs vs) : xs.length = vs.length := by
  match r with
  | .nil => rfl
  | .cons _ t => simp [RepK.length t]
theorem Rep1.dik_ {F H : Hp} {v : V} {xs : List (Key × D)} (w : WF g F H) (h : Rep1 g F H (.dik xs) v) : ∃ a vs, v = .ref a ∧ Rd H a (.dK vs) ∧ RepK g F xs vs := by
  rcases h with h | ⟨e, h1, h⟩
  · cases h with
    | dik h r => exact ⟨_, _, rfl, .inr ⟨_, w.sub _ _ h⟩, r⟩
  · cases h with
    | dik r => exact ⟨_, _, e, .inl h1, r⟩
theorem oa_len : OpA g (rLenX g.K) oLen := fun ds vs d F H Q w R e k => by
  unfold oLen at e
  split at e
  · rename_i z
    split at e
    · rename_i hz
      cases e
      obtain ⟨x, rfl, h1⟩ := R.one
      exact .inr (.inl ⟨z, by rw [h1.str_], lim_line hz, k _ H F (Go.refl w) .int⟩)
    · cases e
  · rename_i kvs
    cases e
    obtain ⟨x, rfl, h1⟩ := R.one
    obtain ⟨a, ws, rfl, h2, h3⟩ := h1.dik_ w
    exact .inr (.inr ⟨a, ws, rfl, h2, by rw [← h3.length]; exact k _ H F (Go.refl w) .int⟩)
  · rename_i d1 _ _
    cases q : seqD d1 with
    | none =>
      rw [q] at e
      cases e
    | some xs =>
      rw [q] at e
      cases e
      obtain ⟨x, rfl, h1⟩ := R.one
      obtain ⟨a, ws, rfl, h2, h3⟩ := h1.seq_ w q
      exact .inl ⟨a, ws, rfl, h2, by rw [← h3.length]; exact k _ H F (Go.refl w) .int⟩
  · cases e
/-- sum, all, any, of lists -/
def oSum : List D → Option D
  | [d] => ((lstD d).bind intsD).map fun ns => .int ns.sum
  | _ => none
theorem lst_ints {F H : Hp} {v : V} {d : D} {ns : List Int} (w : WF g F H) (h : Rep1 g F H d v) (e : (lstD d).bind intsD = some ns) : ∃ a, v = .ref a ∧ SqL g.K H a (ns.map V.int) := by
  cases q : lstD d with
  | none =>
    rw [q] at e
    cases e
  | some xs =>
    rw [q] at e
    obtain ⟨a, ws, rfl, h2, h3⟩ := h.list_ w q
    rw [h3.ints e] at h2
    exact ⟨a, rfl, h2⟩
theorem lst_bls {F H : Hp} {v : V} {d : D} {ns : List Bool} (w : WF g F H) (h : Rep1 g F H d v) (e : (lstD d).bind blsD = some ns) : ∃ a, v = .ref a ∧ SqL g.K H a (ns.map V.bl) := by
  cases q : lstD d with
  | none =>
    rw [q] at e
    cases e
  | some xs =>
    rw [q] at e
    obtain ⟨a, ws, rfl, h2, h3⟩ := h.list_ w q
    rw [h3.bls e] at h2
    exact ⟨a, rfl, h2⟩
theorem oa_sum : OpA g (rSum g.K) oSum := fun ds vs d F H Q w R e k => by
  unfold oSum at e
  split at e
  · rename_i d1
    cases q : (lstD d1).bind intsD with
    | none =>
      rw [q] at e
      cases e
    | some ns =>
      rw [q] at e
      cases e
      obtain ⟨x, rfl, h1⟩ := R.one
      obtain ⟨a, rfl, h2⟩ := lst_ints w h1 q
      exact ⟨a, ns, rfl, h2, k _ H F (Go.refl w) .int⟩
  · cases e
def oAll : List D → Option D
  | [d] => ((lstD d).bind blsD).map fun bs => .bl (bs.all id)
  | _ => none
theorem oa_all : OpA g (rAll g.K) oAll := fun ds vs d F H Q w R e k => by
  unfold oAll at e
  split at e
  · rename_i d1
    cases q : (lstD d1).bind blsD with
    | none =>
      rw [q] at e
      cases e
    | some ns =>
      rw [q] at e
      cases e
      obtain ⟨x, rfl, h1⟩ := R.one
      obtain ⟨a, rfl, h2⟩ := lst_bls w h1 q
      exact ⟨a, ns, rfl, h2, k _ H F (Go.refl w) .bl⟩
  · cases e
def oAny : List D → Option D
  | [d] => ((lstD d).bind blsD).map fun bs => .bl (bs.any id)
  | _ => none
theorem oa_any : OpA g (rAny g.K) oAny := fun ds vs d F H Q w R e k => by
  unfold oAny at e
  split at e
  · rename_i d1
    cases q : (lstD d1).bind blsD with
    | none =>
      rw [q] at e
      cases e
    | some ns =>
      rw [q] at e
      cases e
      obtain ⟨x, rfl, h1⟩ := R.one
      obtain ⟨a, rfl, h2⟩ := lst_bls w h1 q
      exact ⟨a, ns, rfl, h2, k _ H F (Go.refl w) .bl⟩
  · cases e
/-- sorted, of ints -/
def insI (x : Int) : List Int → List Int
  | [] => [x]
  | y :: r => if x ≤ y then x :: y :: r else y :: insI x r
def srtI : List Int → List Int
  | [] => []
  | x :: r => insI x (srtI r)
theorem insI_perm (x : Int) : ∀ l : List Int, (insI x l).Perm (x :: l)
  | [] => .refl _
  | y :: r => by
    unfold insI
    split
    · exact .refl _
    · exact ((insI_perm x r).cons y).trans (.swap x y r)
theorem insI_srt (x : Int) : ∀ {l : List Int}, l.Pairwise (· ≤ ·) → (insI x l).Pairwise (· ≤ ·)
  | [], _ => by
    unfold insI
    simp
  | y :: r, h => by
    unfold insI
    rw [List.pairwise_cons] at h
    split
    · rename_i hx
      refine List.pairwise_cons.mpr ⟨fun z hz => ?_, List.pairwise_cons.mpr h⟩
      rcases List.mem_cons.mp hz with e | hz
      · rw [e]; exact hx
      · exact Int.le_trans hx (h.1 z hz)
    · rename_i hx
      refine List.pairwise_cons.mpr ⟨fun z hz => ?_, insI_srt x h.2⟩
      rcases List.mem_cons.mp ((insI_perm x r).mem_iff.mp hz) with e | hz
      · rw [e]; omega
      · exact h.1 z hz
theorem srtI_perm : ∀ l : List Int, (srtI l).Perm l
  | [] => .refl _
  | x :: r => by
    unfold srtI
    exact (insI_perm x _).trans ((srtI_perm r).cons x)
theorem srtI_srt : ∀ l : List Int, (srtI l).Pairwise (· ≤ ·)
  | [] => by
    unfold srtI
    exact .nil
  | x :: r => by
    unfold srtI
    exact insI_srt x (srtI_srt r)
theorem srtI_one {a b : List Int} (h : a.Perm b) (sa : a.Pairwise (· ≤ ·)) (sb : b.Pairwise (· ≤ ·)) : a = b := by
  exact h.eq_of_pairwise (fun x y _ _ h1 h2 => Int.le_antisymm h1 h2) sa sb
def oSorted : List D → Option D
  | [d] => ((lstD d).bind intsD).map fun ns => .lst ((srtI ns).map D.int)
  | _ => none
theorem of_sorted : OpF g (rSortedI g.K) oSorted := fun ds vs d F H Q w R e k => by
  unfold oSorted at e
  split at e
  · rename_i d1
    cases q : (lstD d1).bind intsD with
    | none =>
      rw [q] at e
      cases e
    | some ns =>
      rw [q] at e
      cases e
      obtain ⟨x, rfl, h1⟩ := R.one
      obtain ⟨a, rfl, h2⟩ := lst_ints w h1 q
      refine ⟨a, ns, rfl, h2, fun ns' p hp hs n => ?_⟩
      have e : ns' = srtI ns := srtI_one (hp.trans (srtI_perm ns).symm) hs (srtI_srt ns)
      subst e
      exact k p _ n (.lst (Reps.ofInts _))
  · cases e
/-- list(x), tuple(x) -/
def oList : List D → Option D
  | [d] => (seqD d).map .lst
  | _ => none
theorem of_list : OpF g (fun xs H Q => ∃ p ys, xs = [.ref p] ∧ (SqL g.K H p ys ∨ SqT g.K H p ys) ∧ ∀ l, H l = none → Q (.ref l) (upd H l (.lst ys))) oList := fun ds vs d F H Q w R e k => by
  unfold oList at e
  split at e
  · rename_i d1
    cases q : seqD d1 with
    | none =>
      rw [q] at e
      cases e
    | some xs =>
      rw [q] at e
      cases e
      obtain ⟨x, rfl, h1⟩ := R.one
      obtain ⟨a, ws, rfl, h2, h3⟩ := h1.seq_ w q
      exact ⟨a, ws, rfl, h2, fun l n => k l _ n (.lst h3)⟩
  · cases e
def oTuple : List D → Option D
  | [d] => (seqD d).map .tup
  | _ => none
theorem oa_tuple : OpA g (fun xs H Q => ∃ p ys, xs = [.ref p] ∧ ((SqL g.K H p ys ∧ ∀ l, H l = none → Q (.ref l) (upd H l (.tup ys))) ∨ (SqT g.K H p ys ∧ Q (.ref p) H))) oTuple := fun ds vs d F H Q w R e k => by
  unfold oTuple at e
  split at e
  · rename_i d1
    obtain ⟨x, rfl, h1⟩ := R.one
    have new : ∀ {xs : List D} {ws : List V}, Reps g F xs ws → d = .tup xs → ∀ l, H l = none → Q (.ref l) (upd H l (.tup ws)) := fun {xs ws} r ed l n => by
      subst ed
      have g2 := Go.frz w n (o := .tup ws) (fun ps z => by cases z)
      exact k _ _ _ g2 (.tup (SqT.of upd_same) (r.mono g2.gr.f))
    cases d1 with
    | tup xs =>
      cases e
      obtain ⟨a, ws, rfl, h2, h3, h4⟩ := h1.tup_ w
      exact ⟨a, ws, rfl, .inr ⟨h2, k _ H F (Go.refl w) (.tup h3 h4)⟩⟩
    | lst xs =>
      cases e
      obtain ⟨a, ws, rfl, h2, h3⟩ := h1.lst_ w
      exact ⟨a, ws, rfl, .inl ⟨SqL.of h2, new h3 rfl⟩⟩
    | ro xs =>
      cases e
      obtain ⟨a, ws, rfl, h2, h3⟩ := h1.ro_ w
      exact ⟨a, ws, rfl, .inl ⟨h2, new h3 rfl⟩⟩
    | _ => cases e
  · cases e
/-- abs, max, min of two, int -/
abbrev oAbs : List D → Option D := o1I fun i => .int (if i < 0 then -i else i)
theorem oa_abs : OpA g (fun xs H Q => ∃ i, xs = [.int i] ∧ Q (.int (if i < 0 then -i else i)) H) oAbs := fun ds vs d F H Q w R e k => by
  unfold oAbs o1I at e
  split at e
  · rename_i i
    cases e
    obtain ⟨x, rfl, h1⟩ := R.one
    exact ⟨i, by rw [h1.int_], k _ H F (Go.refl w) .int⟩
  · cases e
abbrev oMax2 : List D → Option D := o2I (fun _ _ => true) fun i j => .int (if j > i then j else i)
theorem oa_max2 : OpA g (fun xs H Q => ∃ i j, xs = [.int i, .int j] ∧ Q (.int (if j > i then j else i)) H) oMax2 := fun ds vs d F H Q w R e k => by
  unfold oMax2 o2I at e
  split at e
  · rename_i i j
    rw [if_pos rfl] at e
    cases e
    obtain ⟨x, y, rfl, h1, h2⟩ := R.two
    exact ⟨i, j, by rw [h1.int_, h2.int_], k _ H F (Go.refl w) .int⟩
  · cases e
abbrev oMin2 : List D → Option D := o2I (fun _ _ => true) fun i j => .int (if j < i then j else i)
theorem oa_min2 : OpA g (fun xs H Q => ∃ i j, xs = [.int i, .int j] ∧ Q (.int (if j < i then j else i)) H) oMin2 := fun ds vs d F H Q w R e k => by
  unfold oMin2 o2I at e
  split at e
  · rename_i i j
    rw [if_pos rfl] at e
    cases e
    obtain ⟨x, y, rfl, h1, h2⟩ := R.two
    exact ⟨i, j, by rw [h1.int_, h2.int_], k _ H F (Go.refl w) .int⟩
  · cases e
def oInt : List D → Option D
  | [.int i] => some (.int i)
  | [.bl k] => some (.int (if k then 1 else 0))
  | _ => none
theorem oa_int : OpA g (fun xs H Q => (∃ i, xs = [.int i] ∧ Q (.int i) H) ∨ ∃ k, xs = [.bl k] ∧ Q (.int (if k then 1 else 0)) H) oInt := fun ds vs d F H Q w R e k => by
  unfold oInt at e
  split at e
  · rename_i i
    cases e
    obtain ⟨x, rfl, h1⟩ := R.one
    exact .inl ⟨i, by rw [h1.int_], k _ H F (Go.refl w) .int⟩
  · rename_i b
    cases e
    obtain ⟨x, rfl, h1⟩ := R.one
    exact .inr ⟨b, by rw [h1.bl_], k _ H F (Go.refl w) .int⟩
  · cases e
/-- n.bit_length() -/
def oBits : List D → Option D := o1I fun i => .int (Builtin.Int.intBits i : Nat)
end
/-! ### subscripts -/
section
variable {g : Gc} {X : Cx} {c : Cn} {W : WX}
def atD (d : D) (i : Int) : Option D := match seqD d with
  | some xs => atI xs i
  | none => none
def oIx : List D → Option D
  | [.str z, .int i] => if z.length ≤ lim then (atI z.cps.toList i).map fun ch => .str ⟨#[ch]⟩ else none
  | [d, .int i] => atD d i
  | _ => none
theorem Reps.atI {F : Hp} {ds : List D} {vs : List V} {i : Int} {d : D} (r : Reps g F ds vs) (h : L2.atI ds i = some d) : ∃ v, L2.atI vs i = some v ∧ Rep g F d v := by
  unfold L2.atI at h ⊢
  rw [← r.length]
  cases q : ixN ds.length i with
  | none =>
    rw [q] at h
    cases h
  | some j =>
    rw [q] at h
    exact r.get h
theorem oa_ix : OpA g (r2 (rIx g.K)) oIx := fun ds vs d F H Q w R e k => by
  unfold oIx at e
  split at e
  · rename_i z i
    split at e
    · rename_i hz
      cases q : L2.atI z.cps.toList i with
      | none =>
        rw [q] at e
        cases e
      | some ch =>
        rw [q] at e
        cases e
        obtain ⟨x, y, rfl, h1, h2⟩ := R.two
        exact .inr (.inr ⟨z, i, ch, h1.str_, h2.int_, lim_line hz, q, k _ H F (Go.refl w) .str⟩)
    · cases e
  · rename_i d1 i _
    obtain ⟨x, y, rfl, h1, h2⟩ := R.two
    unfold atD at e
    cases q : seqD d1 with
    | none =>
      rw [q] at e
      cases e
    | some xs =>
      rw [q] at e
      obtain ⟨a, ws, rfl, h3, h4⟩ := h1.seq_ w q
      obtain ⟨v, h5, h6⟩ := h4.atI e
      rcases h3 with h3 | h3
      · exact .inl ⟨a, ws, i, v, rfl, h2.int_, h3, h5, k _ H F (Go.refl w) h6⟩
      · exact .inr (.inl ⟨a, ws, i, v, rfl, h2.int_, h3, h5, k _ H F (Go.refl w) h6⟩)
  · cases e
theorem re_ix {a b : Expr} {o1 o2 : Od} {pos : Pos} (hK : c.K = X.K) (ha : PE X a (o1.t c W)) (hb : PE X b (o2.t c W)) (hs : PlainIx b) : PE X (.Subscript a b pos) (tE c W (mOp oIx [o1, o2])) :=
  (pe_ix ix_seq ha hb hs).imp fun σ H Q q => tOp_ok (r := r2 (rIx X.K)) (by rw [← hK]; exact oa_ix) q
end
end PV

/-! calls where it is known that no repr is under way -/
namespace PV
open PySem PySem.Spec PyProof.Rows L2
/-- room, and no guard around -/
structure RmG (k : Nat) (A : Around) : Prop where
  r : Room k A
  g : A.guards = some []
theorem RmG.mono {j k : Nat} {A : Around} (x : RmG k A) (h : j ≤ k) : RmG j A := ⟨x.r.mono h, x.g⟩
theorem RmG.deeper {k : Nat} {A : Around} (x : RmG (k + 1) A) (env : Env) : RmG k (A.deeper env) := ⟨x.r.deeper env, x.g⟩
theorem RmG.units {k : Nat} {A : Around} (x : RmG k A) : A.units + 64 < cLine := x.r.units
theorem RmG.depth {k : Nat} {A : Around} (x : RmG k A) : A.depth < recursionLimit := x.r.depth
/-- a def keeps its promise wherever no guard is around -/
structure FnG (P : Program) (w : World) (K : PySem.W.Frag) (mg : Str → Option Value) (base : Heap) (CX : CXT) (k : Nat) (f : Addr) (fd : FuncData) (ps : List Str) (sp : Sp) : Prop where
  len : ∀ vs H Q E, sp vs H Q E → vs.length = ps.length
  run : ∀ (A : Around) (outer : List Env) (s : Shared) (H : Hp) (args : Args) (us : List Value) (vs : List V) (Q : VK) (E : XK), RmG k A → Env0 P w K mg base A outer s H → BindsTo s fd args (ps.zip us) → Vals vs us → sp vs H Q E → codeAny (model P w) A (.call (.ref f) args) (CR CX outer P w H s Q E) s
section
variable {P : Program} {w : World} {K : PySem.W.Frag} {mg : Str → Option Value} {base : Heap}
theorem FnG.imp {CX : CXT} {k : Nat} {f : Addr} {fd : FuncData} {ps : List Str} {sp sp' : Sp} (F : FnG P w K mg base CX k f fd ps sp) (h : ∀ vs H Q E, sp' vs H Q E → sp vs H Q E) : FnG P w K mg base CX k f fd ps sp' :=
  ⟨fun vs H Q E q => F.len vs H Q E (h _ _ _ _ q), fun A outer s H args us vs Q E hr he hb hv hs => F.run A outer s H args us vs Q E hr he hb hv (h _ _ _ _ hs)⟩
theorem FnG.mono {CX : CXT} {j k : Nat} {f : Addr} {fd : FuncData} {ps : List Str} {sp : Sp} (F : FnG P w K mg base CX j f fd ps sp) (h : j ≤ k) : FnG P w K mg base CX k f fd ps sp :=
  ⟨F.len, fun A outer s H args us vs Q E hr => F.run A outer s H args us vs Q E (hr.mono h)⟩
theorem FnG.of {CX : CXT} {k : Nat} {f : Addr} {fd : FuncData} {ps : List Str} {sp : Sp} (F : FnOk P w K mg base CX k f fd ps sp) : FnG P w K mg base CX k f fd ps sp :=
  ⟨F.len, fun A outer s H args us vs Q E hr => F.run A outer s H args us vs Q E hr.r⟩
theorem okG {x qual : Str} {st : Stmt} {f : Addr} {fd : FuncData} {N ps : List Str} {k : Nat} {sp : Sp} (F : Fun K x qual st f fd) (S : FnScope N ps (defScope st)) (len : ∀ vs H Q E, sp vs H Q E → vs.length = ps.length)
    (hbody : ∀ (cdv : Value) (A : Around) (outer : List Env) (s : Shared) (H : Hp) (vs : List V) (Q : VK) (E : XK), fd.code = cdv → RmG k (A.deeper (envOfC qual (defScope st) s.heap.objs.size f cdv)) → sp vs H Q E →
      ∃ t, PSs (cxOf (L2.CX P w) P w K mg base N qual (defScope st) f cdv A outer s H E) (defBody st) t ∧ t { nx := fun _ H' => Q .non H', rt := Q } (start N vs) H) : FnG P w K mg base (L2.CX P w) (k + 1) f fd ps sp := by
  obtain ⟨oc, od, kV, doc, pm, an, cdv, ct, osl, rfl, lk, hcd⟩ := F.ex
  exact ⟨len, fun A outer s H args us vs Q E hr e0 hb r hsp => LamX.run_ofS lk hcd S hr.r e0 hb r (len _ _ _ _ hsp) fun hr' => hbody cdv A outer s H vs Q E rfl ⟨hr', hr.g⟩ hsp⟩
end
section
variable {X : Cx} {CX : CXT} {k : Nat} {f C : Addr} {fd : FuncData} {ps : List Str} {sp : Sp} {E : L2.St → XK} {x m : Str} {p pos apos : Pos} {e o : Expr} {es : List Expr} {ta : TE} {t : TA}
theorem run_fnG {pins : List (Addr × Obj)} {σ : L2.St} {H : Hp} {s : Shared} {Q : VK} {us : List Value} {vs : List V} (F : FnG X.prog X.w X.K X.mg X.base CX k f fd ps sp) (hr : RmG k X.A) (hb : L2.Binds X.K fd ps []) (hx : PassesAt CX X σ (E σ))
    (I : Inv X pins σ H s) (r : Vals vs us) (h : sp vs H Q (E σ)) : wpAny (model X.prog X.w) X.A (call (.ref f) us) (EP X pins σ Q) X.xe s := by
  have hl : us.length = ps.length := r.length.symm.trans (F.len _ _ _ _ h)
  have b := hb s us I.kIn (by rw [List.append_nil]; exact hl)
  rw [List.append_nil] at b
  exact wpAny_call (codeAny_mono (F.run X.A X.stack s H ⟨us, []⟩ us vs Q (E σ) hr I.env0 b r h) fun r s' hq => match r, hq with
    | .error e, hq => hx pins H s e s' I hq
    | .ok (.ret u), hq => I.after hq
    | .ok .next, hq => False.elim hq
    | .ok .brk, hq => False.elim hq
    | .ok .cont, hq => False.elim hq)
theorem pe_callG (F : FnG X.prog X.w X.K X.mg X.base CX k f fd ps sp) (hr : RmG k X.A) (hg : Gl X x) (hm : X.mg x = some (.ref f)) (hk : PySem.W.keepIn X.K (.ref f) = true) (hb : L2.Binds X.K fd ps []) (hx : ∀ σ, PassesAt CX X σ (E σ))
    (ha : PA X (e :: es) t) (hdb : (x == ("__debug__" : Str)) = false := by decide) (he : starEach (e :: es) X.env = (false, eval e X.env) :: starEach es X.env := by rfl) (hpl : (backTo pos (starEach es X.env)).any (·.1) = false := by rfl) :
    PE X (.Call (.Name x p) (e :: es) [] pos) (tCallS sp E t) :=
  ⟨fun pins s σ H Q I h => wpAny_Call_Name_kw (ld_glob I hg hm (PySem.W.callWith_K (h₀ := X.base) I.ok.mod.kin hk (thn (ha.run pos pins s σ H _ I h) fun us s1 ⟨vs, H1, I1, r, q⟩ => ⟨I1.kIn, run_fnG F hr hb (hx σ) I1 r q⟩) he hpl) hdb)⟩
end
end PV

/-! the law called by the caller: no guard is around; the tables of code objects -/
namespace PV
open PySem PySem.Spec PyProof.Rows L2 LamX
/-- the heap that the law sees: the script, and empty tables -/
structure Seen (K : PySem.W.Frag) (h : Heap) (T : List Addr) (a : Addr) (vs : List Value) (H : Hp) : Prop where
  tbl : ∀ b ∈ T, H b = some (.tbl #[])
  only : ∀ b, H b = none ∨ b ∈ T ∨ (b = a ∧ ∃ o xs, H b = some (.frz o (.lst xs)))
  free : H a ≠ none → K.lookup a = none
section
variable {P : Program} {w : World} {K : PySem.W.Frag} {mg mb : Str → Option Value} {CX : CXT} {k : Nat} {fa a : Addr} {cs : List (Addr × Addr)} {fd : FuncData} {x : Str} {sp : Sp} {s₁ : Shared} {vs : List Value} {ns : List Int}
theorem seen_call {H : Hp} (KX : K.In s₁.heap) (hns : s₁.heap.Ns mainGlobals mg) (hb : s₁.heap.Ns builtinsNs mb) (hbb : ∀ x : Str, x ≠ "__name__" → mb x = bootBuiltins x) (hlim : s₁.heap.NoLimit) (hg : s₁.gens = #[])
    (hT : ∀ p ∈ cs, s₁.heap.get? p.2 = some { cls := .none, data := .fields #[] }) (nT : ∀ p ∈ cs, K.lookup p.2 = none) (C : ∀ p ∈ cs, PySem.W.CodeHd s₁.heap p.1 p.2)
    (hbm : ∃ (bm : Addr) (ob : Obj), mg "__builtins__" = some (.ref bm) ∧ bm ≠ builtinsNs ∧ s₁.heap.get? bm = some ob ∧ ob.cls = .type "module" ∧ ob.dict = some builtinsNs ∧ ob.data = .plain)
    (ha : s₁.heap.get? a = some { cls := .type "list", data := .seq vs.toArray }) (hr : RmG k callerA)
    (F : ∀ base : Heap, K.In base → base.Ns mainGlobals mg → (∀ p ∈ cs, TabB base mg p.1 p.2) → FnG P w K mg base CX k fa fd [x] sp) (hbind : ∀ (s : Shared) (u : Value), BindsTo s fd ⟨[u], []⟩ [(x, u)])
    (S : Seen K s₁.heap (cs.map (·.2)) a vs H) (hok : HOk P w H s₁.heap) (hsp : sp [.ref a] H (fun v _ => v = .bl true) fun _ _ _ => False) (hCX : ∀ e s', CX [] H s₁ (fun _ _ _ => False) e s' → False) :
    codeAny (model P w) callerA (.call (.ref fa) ⟨[.ref a], []⟩) (fun r s' => r = .ok (.ret (.bool true)) ∧ OldK s₁.heap s'.heap ∧ s'.os = s₁.os ∧ AllBare s'.gens) s₁ := by
  have inT : ∀ {b : Addr}, b ∈ cs.map (·.2) → ∃ p ∈ cs, p.2 = b := fun h => by
    obtain ⟨p, h1, h2⟩ := List.mem_map.mp h
    exact ⟨p, h1, h2⟩
  have tb : ∀ {b : Addr}, b ∈ cs.map (·.2) → s₁.heap.get? b = some { cls := .none, data := .fields #[] } := fun h => by
    obtain ⟨p, h1, rfl⟩ := inT h
    exact hT p h1
  -- what is neither a list nor an empty record is not tracked
  have off : ∀ {b : Addr} {o : Obj}, s₁.heap.get? b = some o → (∀ l n, o.data ≠ .seq l n) → o.data ≠ .fields #[] → H b = none := fun {b o} e h1 h2 => by
    rcases S.only b with z | z | ⟨z, _⟩
    · exact z
    · have e' := (tb z).symm.trans e
      cases e'
      exact absurd rfl h2
    · subst z
      have e' := ha.symm.trans e
      cases e'
      exact absurd rfl (h1 _ _)
  have offD : ∀ {b : Addr} {o : Obj} {es : Array DictEntry} {ep : Nat}, s₁.heap.get? b = some o → o.data = .dict es ep → H b = none := fun e d =>
    off e (fun l n z => by rw [d] at z; cases z) (fun z => by rw [d] at z; cases z)
  have low : ∀ {b : Addr} {o : Obj}, s₁.heap.get? b = some o → H b = none → (hidT s₁.heap H).get? b = some o := fun e n => hidT_get e n
  have nsL : ∀ {b : Addr} {m : Str → Option Value}, s₁.heap.Ns b m → (hidT s₁.heap H).Ns b m := fun ⟨o, es, ep, e, d, r⟩ => ⟨o, es, ep, low e (offD e d), d, r⟩
  have KL : K.In (hidT s₁.heap H) := fun b o e => low (KX b o e) (by
    rcases S.only b with z | z | ⟨z, o', xs, q⟩
    · exact z
    · obtain ⟨p, h1, rfl⟩ := inT z
      exact absurd e (by rw [nT p h1]; simp)
    · subst z
      exact absurd e (by rw [S.free (by rw [q]; simp)]; simp))
  obtain ⟨bm, ob, b1, b2, b3, b4, b5, b6⟩ := hbm
  have obB : H bm = none := off b3 (fun l n z => by rw [b6] at z; cases z) (fun z => by rw [b6] at z; cases z)
  have TB : ∀ p ∈ cs, TabB (hidT s₁.heap H) mg p.1 p.2 := fun p hp => by
    have h0 := hT p hp
    obtain ⟨oG, esG, epG, eG, dG, _⟩ := hns
    refine ⟨?_, ⟨bm, ob, b1, b2, fun q => ?_, fun q => ?_, low b3 obB, b4, b5, b6⟩, fun q => ?_⟩
    · obtain ⟨o, us, file, tf, flags, tg, inF, text, tt, e1, r1, r2, r3, rest⟩ := C p hp
      have n1 : H p.1 = none := off e1 (fun l n z => by rw [r2] at z; cases z) (fun z => by rw [r2] at z; cases z; simp at r3)
      exact ⟨o, us, file, tf, flags, tg, inF, text, tt, low e1 n1, r1, r2, r3, rest⟩
    · rw [q, eG] at b3
      cases b3
      rw [dG] at b6
      cases b6
    · rw [q, h0] at b3
      cases b3
      cases b6
    · rw [q, h0] at eG
      cases eG
      cases dG
  have hM : L2.Mod K mg (hidT s₁.heap H) := ⟨KL, nsL hns, ⟨mb, nsL hb, hbb⟩, let ⟨mc, h1, h2⟩ := hlim; ⟨mc, nsL h1, h2⟩⟩
  have e0 : Env0 P w K mg (hidT s₁.heap H) callerA [] s₁ H := ⟨rfl, hM, fun b o e => of_hidT e, Nat.le_of_eq (hidT_size _ _), trivial, fun b hb => absurd (show b ∈ ([] : List Addr) from hb) (by simp), hok, .of_eq hg⟩
  refine codeAny_mono ((F _ KL (nsL hns) TB).run callerA [] s₁ H ⟨[.ref a], []⟩ [.ref a] [.ref a] _ _ hr e0 (hbind s₁ (.ref a)) (.cons rfl .nil) hsp) fun r s' h => ?_
  match r, h with
  | .error e, h => exact (hCX e s' h).elim
  | .ok .next, h => exact False.elim h
  | .ok .brk, h => exact False.elim h
  | .ok .cont, h => exact False.elim h
  | .ok (.ret u), h =>
    obtain ⟨v, H', os, bare, un, hok', r', q⟩ := h
    have q' : v = .bl true := q
    subst q'
    obtain rfl : u = Value.bool true := r'
    have same : ∀ b o, b ∉ cs.map (·.2) → s₁.heap.get? b = some o → s'.heap.get? b = some o := fun b o nb e => by
      rcases S.only b with z | z | ⟨_, ob, xs, z⟩
      · exact un.keep b o e z (by intro z; exact absurd (show b ∈ ([] : List Addr) from z) (by simp)) (by simp)
      · exact absurd z nb
      · have e1 := (hok b _ z).1
        have e2 := (hok' b _ (un.frzs b ob _ z)).1
        rw [e] at e1
        cases e1
        exact e2
    have grew : ∀ b ∈ cs.map (·.2), ∃ more : Array Value, s'.heap.get? b = some { cls := .none, data := .fields more } := fun b hb => by
      obtain ⟨more, z⟩ := un.tbls b #[] (S.tbl b hb)
      exact ⟨_, hok' b _ z⟩
    refine ⟨rfl, ⟨fun b o e => ?_, fun b o e => ?_⟩, os, bare⟩
    · by_cases hb : b ∈ cs.map (·.2)
      · obtain ⟨p, hp, rfl⟩ := inT hb
        obtain ⟨more, hm⟩ := grew _ hb
        rw [hT p hp] at e
        cases e
        exact .inr (.inl ⟨((C p hp).tab (hT p hp)).isCodeTable, rfl, #[], more, rfl, by rw [Array.empty_append]; exact hm⟩)
      · exact .inl (same b o hb e)
    · by_cases hb : b ∈ cs.map (·.2)
      · obtain ⟨more, hm⟩ := grew b hb
        exact ⟨_, hm⟩
      · exact ⟨o, same b o hb e⟩
/-- as LawAtS, of a def that keeps its promise where no guard is around -/
def LawG (l : PySem.W.OpenLaw) (w : World) (K : PySem.W.Frag) (CX : CXT) (k n : Nat) (x : Str) (mg : Str → Option Value) (fa : Addr) (h : Heap) : Prop :=
  ∃ (fd : FuncData) (cs : List (Addr × Addr)) (sp : Sp), (∀ p ∈ cs, h.get? p.2 = some { cls := .none, data := .fields #[] }) ∧ (∀ p ∈ cs, K.lookup p.2 = none) ∧ (∀ p ∈ cs, PySem.W.CodeHd h p.1 p.2) ∧ (∀ (s : Shared) (u : Value), BindsTo s fd ⟨[u], []⟩ [(x, u)]) ∧
    (∀ (H : Hp) (a : Addr) (ns : List Int), ns.length ≤ n → (∀ p ∈ cs, H p.2 = some (.tbl #[])) → (∀ b, H b ≠ none → b ∈ cs.map (·.2) ∨ ∃ o xs, H b = some (.frz o (.lst xs))) → SqL K H a (ns.map V.int) → sp [.ref a] H (fun v _ => v = .bl true) fun _ _ _ => False) ∧
    ∀ base : Heap, K.In base → base.Ns mainGlobals mg → (∀ p ∈ cs, TabB base mg p.1 p.2) → FnG l.prog w K mg base CX k fa fd [x] sp
theorem law_callG (KX : K.In s₁.heap) (hns : s₁.heap.Ns mainGlobals mg) (hb : s₁.heap.Ns builtinsNs mb) (hbb : ∀ x : Str, x ≠ "__name__" → mb x = bootBuiltins x) (hlim : s₁.heap.NoLimit) (hg : s₁.gens = #[])
    (hT : ∀ p ∈ cs, s₁.heap.get? p.2 = some { cls := .none, data := .fields #[] }) (nT : ∀ p ∈ cs, K.lookup p.2 = none) (C : ∀ p ∈ cs, PySem.W.CodeHd s₁.heap p.1 p.2)
    (hbm : ∃ (bm : Addr) (ob : Obj), mg "__builtins__" = some (.ref bm) ∧ bm ≠ builtinsNs ∧ s₁.heap.get? bm = some ob ∧ ob.cls = .type "module" ∧ ob.dict = some builtinsNs ∧ ob.data = .plain)
    (ha : s₁.heap.get? a = some { cls := .type "list", data := .seq vs.toArray }) (hi : IntsAre vs ns) (hl : ns.length ≤ sizeLine) (hr : RmG k callerA)
    (F : ∀ base : Heap, K.In base → base.Ns mainGlobals mg → (∀ p ∈ cs, TabB base mg p.1 p.2) → FnG P w K mg base CX k fa fd [x] sp) (hbind : ∀ (s : Shared) (u : Value), BindsTo s fd ⟨[u], []⟩ [(x, u)])
    (hsp : ∀ H : Hp, (∀ p ∈ cs, H p.2 = some (.tbl #[])) → (∀ b, H b ≠ none → b ∈ cs.map (·.2) ∨ ∃ o xs, H b = some (.frz o (.lst xs))) → SqL K H a (ns.map V.int) → sp [.ref a] H (fun v _ => v = .bl true) fun _ _ _ => False)
    (hCX : ∀ H e s', CX [] H s₁ (fun _ _ _ => False) e s' → False) :
    codeAny (model P w) callerA (.call (.ref fa) ⟨[.ref a], []⟩) (fun r s' => r = .ok (.ret (.bool true)) ∧ OldK s₁.heap s'.heap ∧ s'.os = s₁.os ∧ AllBare s'.gens) s₁ := by
  have rv := vals_ints hi
  have lenV := hi.length
  have aT : a ∉ cs.map (·.2) := fun z => by
    obtain ⟨p, hp, e⟩ := List.mem_map.mp z
    have q := hT p hp
    rw [e, ha] at q
    have z' : Data.seq vs.toArray _ = Data.fields #[] := congrArg Obj.data (Option.some.inj q)
    cases z'
  have memT : ∀ p ∈ cs, p.2 ∈ cs.map (·.2) := fun p hp => List.mem_map.mpr ⟨p, hp, rfl⟩
  have isT : ∀ b ∈ cs.map (·.2), s₁.heap.get? b = some { cls := .none, data := .fields #[] } := fun b hb => by
    obtain ⟨p, hp, e⟩ := List.mem_map.mp hb
    rw [← e]
    exact hT p hp
  have go : ∀ H : Hp, Seen K s₁.heap (cs.map (·.2)) a vs H → SqL K H a (ns.map V.int) → HOk P w H s₁.heap → _ := fun H S hS hok =>
    seen_call KX hns hb hbb hlim hg hT nT C hbm ha hr F hbind S hok (hsp H (fun p hp => S.tbl _ (memT p hp)) (fun b nb => (S.only b).elim (fun z => absurd z nb) fun z => z.elim .inl fun z => .inr z.2) hS) (hCX H)
  cases hk : K.lookup a with
  | some o =>
    have e := KX a o hk
    rw [ha] at e
    cases e
    refine go (fun b => if b ∈ cs.map (·.2) then some (.tbl #[]) else none) ⟨fun b hb => if_pos hb, fun b => ?_, fun z => absurd (if_neg aT) z⟩ (.inr ⟨_, vs.toArray, _, hk, rfl, rfl, rfl, by rw [List.size_toArray, lenV]; exact hl, by simpa using rv⟩) fun b u z => ?_
    · by_cases hb : b ∈ cs.map (·.2)
      · exact .inr (.inl hb)
      · exact .inl (if_neg hb)
    · by_cases hb : b ∈ cs.map (·.2)
      · cases (if_pos hb).symm.trans z
        exact isT b hb
      · cases (if_neg hb).symm.trans z
  | none =>
    refine go (fun b => if b = a then some (.frz { cls := .type "list", data := .seq vs.toArray } (.lst (ns.map V.int))) else if b ∈ cs.map (·.2) then some (.tbl #[]) else none)
      ⟨fun b hb => (if_neg (fun z => aT (by rw [← z]; exact hb))).trans (if_pos hb), fun b => ?_, fun _ => hk⟩ (.inl (.inr ⟨{ cls := .type "list", data := .seq vs.toArray }, if_pos rfl⟩)) fun b u z => ?_
    · by_cases hb : b = a
      · exact .inr (.inr ⟨hb, _, _, if_pos hb⟩)
      · by_cases hb2 : b ∈ cs.map (·.2)
        · exact .inr (.inl hb2)
        · exact .inl ((if_neg hb).trans (if_neg hb2))
    · by_cases hb : b = a
      · cases (if_pos hb).symm.trans z
        rw [hb]
        exact ⟨ha, by rw [List.length_map]; exact hl, vs, _, rv, ha⟩
      · have z1 := (if_neg hb).symm.trans z
        by_cases hb2 : b ∈ cs.map (·.2)
        · cases (if_pos hb2).symm.trans z1
          exact isT b hb2
        · cases (if_neg hb2).symm.trans z1
theorem rmG_caller {k : Nat} (h : Room k callerA) : RmG k callerA := ⟨h, rfl⟩
/-- a def of the text: its code object, and the empty table of its own lambdas -/
def TabT (q : Program) (K : PySem.W.Frag) (h : Heap) : Prop := ∀ (x : Str) (c P : Addr) (d : DefRec), (recsOf q).find? (fun e => e.name == x) = some d → PySem.W.tabIn K x = some (c, P) → PySem.W.CodeHd h c P ∧ h.get? P = some { cls := .none, data := .fields #[] }
theorem walk_ofG {l : PySem.W.OpenLaw} {n k : Nat} {q : Program} {loose : List Str} {XP : (Str → Option Value) → Heap → Prop} {YP : World → Heap → Prop} {d : DefRec} {K : Params → PySem.W.Frag} {CX : World → CXT} {x : Str}
    (hn : l.most = some n) (hn2 : n ≤ sizeLine) (hdf : d.params.defaults = []) (hr : Room k callerA) (hY : ∀ (w : World) (h : Heap), YP w h → (K w.params).In h)
    (F : ∀ (w : World) (mg : Str → Option Value) (fa : Addr) (h : Heap), YP w h → (K w.params).In h → h.Ns mainGlobals mg → mg d.name = some (.ref fa) → TabT q (K w.params) h → LawG l w (K w.params) (CX w) k n x mg fa h)
    (hCX : ∀ (w : World) (H : Hp) (s : Shared) (e : Value) (s' : Shared), CX w [] H s (fun _ _ _ => False) e s' → False) :
    PySem.W.WalkO q loose XP YP l.row.toRowW d [] (fun f vs => PySem.call f vs) := by
  refine Att.attach_callB hn hdf fun w s₀ s₁ mg mb fa o pm cd doc a vs ns G Y ho hd hcd hmg hobj hints hlen hbits hg => ?_
  have KX := hY w _ Y
  obtain ⟨fd, cs, sp, hT, nT, C, hb, hsp, hF⟩ := F w mg fa _ Y KX G.T.g hmg fun x c P d h1 h2 => PySem.W.tab_of G.T KX h1 h2
  exact law_callG KX G.T.g G.T.b G.T.builtins G.T.nolimit hg hT nT C G.T.bmain hobj hints (Nat.le_trans hlen hn2) ⟨hr, rfl⟩ hF hb (fun H hH hO hS => hsp H a ns hlen hH hO hS) fun H e s' => hCX w H s₁ e s'
end
end PV

namespace PV
open PySem PySem.Spec PyProof.Rows L2
/-! ### the defs of the text -/
inductive Rf where
  | ok (d : D) | er (x : Xn) | no
def startE (n : Nat) (ds : List D) : En := ds.map .fz ++ List.replicate (n - ds.length) .no
def runD (n : Nat) (m : En → Rs) (ds : List D) : Rf := match m (startE n ds) with
  | .rt d _ => .ok d
  | .nx _ => .ok .non
  | .er x _ => .er x
  | _ => .no
/-- .. that is to return something new -/
def runF (n : Nat) (m : En → Rs) (ds : List D) : Rf := match m (startE n ds) with
  | .rt d _ => if imm d = true then .no else .ok d
  | .er x _ => .er x
  | _ => .no
/-- what is handed back: kept, or new -/
def rlQ (g : Gc) (fr : Bool) (H F' H' : Hp) (d : D) (v : V) : Prop := if fr = true then ∃ a o, v = .ref a ∧ H' a = some o ∧ F' a = none ∧ H a = none ∧ RepO g F' d o else Rep g F' d v
/-- a def's promise: the result is what f says -/
def spD (g : Gc) (fr : Bool) (n : Nat) (f : List D → Rf) : Sp := fun vs H Q E => vs.length = n ∧ ∃ F ds, WF g F H ∧ Reps g F ds vs ∧ (match f ds with
  | .ok d => ∀ v H' F', Go g F H F' H' → rlQ g fr H F' H' d v → Q v H'
  | .er x => ∀ cls dx H' F', Go g F H F' H' → RepX g F' x cls dx → E cls dx H'
  | .no => False)
section
variable {g : Gc} {F H : Hp}
theorem start_at {N : List Str} {ds : List D} {vs : List V} (r : Reps g F ds vs) (hl : vs.length ≤ N.length) : (startE N.length ds).length = (start N vs).length ∧ ∀ (i : Nat) (d : D), (startE N.length ds)[i]? = some (.fz d) → ∃ v, (start N vs)[i]? = some (some v) ∧ Rep g F d v := by
  unfold startE L2.start
  refine ⟨by simp [r.length], fun i d h => ?_⟩
  by_cases hi : i < ds.length
  · rw [List.getElem?_append_left (by simpa using hi), List.getElem?_map] at h
    cases q : ds[i]? with
    | none =>
      rw [q] at h
      cases h
    | some d' =>
      rw [q] at h
      cases h
      obtain ⟨v, h1, h2⟩ := r.get q
      refine ⟨v, ?_, h2⟩
      rw [List.getElem?_append_left (by rw [List.length_map, ← r.length]; exact hi), List.getElem?_map, h1]
      rfl
  · rw [List.getElem?_append_right (by simpa using hi), List.getElem?_replicate] at h
    split at h <;> cases h
theorem start_fz {n : Nat} {ds : List D} {i : Nat} {s : Sl} (h : (startE n ds)[i]? = some s) : s = .no ∨ ∃ d, s = .fz d := by
  unfold startE at h
  by_cases hi : i < ds.length
  · rw [List.getElem?_append_left (by simpa using hi), List.getElem?_map] at h
    cases q : ds[i]? with
    | none =>
      rw [q] at h
      cases h
    | some d' =>
      rw [q] at h
      cases h
      exact .inr ⟨_, rfl⟩
  · rw [List.getElem?_append_right (by simpa using hi), List.getElem?_replicate] at h
    split at h
    · cases h
      exact .inl rfl
    · cases h
theorem SR.start {fr : Bool} {N : List Str} {ds : List D} {vs : List V} (w : WF g F H) (r : Reps g F ds vs) (hl : vs.length ≤ N.length) : SR ⟨g, none, H, F, fr⟩ (startE N.length ds) (L2.start N vs) H F := by
  obtain ⟨h1, h2⟩ := start_at r hl
  refine ⟨Gr.refl w, fun _ h => h, fun a e => (by cases e), h1, h2, fun i d e => ?_, fun i d e => ?_, fun i j a ⟨_, d, e⟩ => ?_⟩
  · rcases start_fz e with z | ⟨_, z⟩ <;> cases z
  · rcases start_fz e with z | ⟨_, z⟩ <;> cases z
  · rcases e with e | e <;> (rcases start_fz e with z | ⟨_, z⟩ <;> cases z)
theorem SR.goes {fr : Bool} {ra : Option Addr} {env : En} {σ : L2.St} {F0 H0 : Hp} (S : SR ⟨g, ra, H0, F0, fr⟩ env σ H F) : Gr g ra F0 H0 F H ∧ ∀ b, H0 b ≠ none → H b ≠ none := ⟨S.gr, S.there⟩
end
section
variable {P : Program} {w : World} {K : PySem.W.Frag} {mg : Str → Option Value} {base : Heap}
/-- a def's wish -/
abbrev wD (E : XK) : WX := fun cls d _ H => E cls d H
theorem rlR_rep {c : Cn} {e : En} {σ : L2.St} {F H : Hp} {d : D} {v : V} (hf : c.fr = false) (h : rlR c e σ F H d v) : Rep c.toGc F d v := by
  unfold rlR at h
  rw [if_neg (by rw [hf]; exact Bool.false_ne_true)] at h
  exact h
theorem rlR_q {g : Gc} {fr : Bool} {ra : Option Addr} {H0 F0 : Hp} {e : En} {σ : L2.St} {F H : Hp} {d : D} {v : V} (h : rlR ⟨g, ra, H0, F0, fr⟩ e σ F H d v) (hi : fr = true → imm d = false := by exact fun z => by cases z) : rlQ g fr H0 F H d v := by
  cases fr with
  | true =>
    unfold rlR at h
    rw [if_pos rfl] at h
    have h := h.resolve_right fun z => by
      rw [hi rfl] at z
      cases z.1
    obtain ⟨a, o, h1, h2, h3, h4, _, _, h5⟩ := h
    unfold rlQ
    rw [if_pos rfl]
    exact ⟨a, o, h1, h2, h3, h4, h5⟩
  | false => 
    have := rlR_rep (c := ⟨g, ra, H0, F0, false⟩) rfl h
    unfold rlQ
    rw [if_neg Bool.false_ne_true]
    exact this
theorem rlQ_non {g : Gc} {H F H' : Hp} : rlQ g false H F H' .non .non := by
  unfold rlQ
  rw [if_neg Bool.false_ne_true]
  exact .non
/-- THE RULE for a def -/
theorem okD {g : Gc} {x qual : Str} {st : Stmt} {f : Addr} {fd : FuncData} {N ps : List Str} {k : Nat} {m : En → Rs} (Fn : Fun K x qual st f fd) (S : FnScope N ps (defScope st)) (hps : ps.length ≤ N.length)
    (hbody : ∀ (cdv : Value) (A : Around) (outer : List Env) (s : Shared) (H : Hp) (E : XK) (H0 F0 : Hp), fd.code = cdv → RmG k (A.deeper (envOfC qual (defScope st) s.heap.objs.size f cdv)) →
      PSs (cxOf (L2.CX P w) P w K mg base N qual (defScope st) f cdv A outer s H E) (defBody st) (tS ⟨g, none, H0, F0, false⟩ (wD E) m)) :
    FnG P w K mg base (L2.CX P w) (k + 1) f fd ps (spD g false ps.length (runD N.length m)) := by
  refine okG Fn S (fun vs H Q E h => h.1) (fun cdv A outer s H vs Q E hcv hr h => ?_)
  obtain ⟨hl, F, ds, wf, r, h⟩ := h
  refine ⟨_, hbody cdv A outer s H E H F hcv hr, startE N.length ds, F, SR.start wf r (by omega), ?_⟩
  unfold runD at h
  cases z : m (startE N.length ds) with
  | rt d e =>
    rw [z] at h
    exact fun v σ H' F' S' s' rv => h v H' F' ⟨S'.gr, S'.there⟩ (rlR_q rv)
  | nx e =>
    rw [z] at h
    exact fun σ H' F' S' s' => h .non H' F' ⟨S'.gr, S'.there⟩ rlQ_non
  | er x e =>
    rw [z] at h
    exact fun cls dx σ H' F' S' s' rx => h cls dx H' F' ⟨S'.gr, S'.there⟩ rx
  | bk e =>
    rw [z] at h
    exact h.elim
  | ct e =>
    rw [z] at h
    exact h.elim
  | no =>
    rw [z] at h
    exact h.elim
theorem okF {g : Gc} {x qual : Str} {st : Stmt} {f : Addr} {fd : FuncData} {N ps : List Str} {k : Nat} {m : En → Rs} (Fn : Fun K x qual st f fd) (S : FnScope N ps (defScope st)) (hps : ps.length ≤ N.length)
    (hbody : ∀ (cdv : Value) (A : Around) (outer : List Env) (s : Shared) (H : Hp) (E : XK) (H0 F0 : Hp), fd.code = cdv → RmG k (A.deeper (envOfC qual (defScope st) s.heap.objs.size f cdv)) →
      PSs (cxOf (L2.CX P w) P w K mg base N qual (defScope st) f cdv A outer s H E) (defBody st) (tS ⟨g, none, H0, F0, true⟩ (wD E) m)) :
    FnG P w K mg base (L2.CX P w) (k + 1) f fd ps (spD g true ps.length (runF N.length m)) := by
  refine okG Fn S (fun vs H Q E h => h.1) (fun cdv A outer s H vs Q E hcv hr h => ?_)
  obtain ⟨hl, F, ds, wf, r, h⟩ := h
  refine ⟨_, hbody cdv A outer s H E H F hcv hr, startE N.length ds, F, SR.start wf r (by omega), ?_⟩
  unfold runF at h
  cases z : m (startE N.length ds) with
  | rt d e =>
    rw [z] at h
    dsimp only at h
    by_cases hi : imm d = true
    · rw [if_pos hi] at h
      exact h.elim
    · rw [if_neg hi] at h
      exact fun v σ H' F' S' s' rv => h v H' F' ⟨S'.gr, S'.there⟩ (rlR_q rv fun _ => Bool.eq_false_iff.mpr hi)
  | nx e =>
    rw [z] at h
    exact h.elim
  | er x e =>
    rw [z] at h
    exact fun cls dx σ H' F' S' s' rx => h cls dx H' F' ⟨S'.gr, S'.there⟩ rx
  | bk e =>
    rw [z] at h
    exact h.elim
  | ct e =>
    rw [z] at h
    exact h.elim
  | no =>
    rw [z] at h
    exact h.elim
end
/-! ### calls -/
theorem rlQ_rep {g : Gc} {H F H' : Hp} {d : D} {v : V} (h : rlQ g false H F H' d v) : Rep g F d v := by
  unfold rlQ at h
  rw [if_neg Bool.false_ne_true] at h
  exact h
theorem rlQ_fr {g : Gc} {H F H' : Hp} {d : D} {v : V} (h : rlQ g true H F H' d v) : ∃ a o, v = .ref a ∧ H' a = some o ∧ F a = none ∧ H a = none ∧ RepO g F d o := by
  unfold rlQ at h
  rw [if_pos rfl] at h
  exact h
def mCall (f : List D → Rf) (ms : List (En → R D)) : En → R D := fun env => (evS ms env).bind fun ds e => match f ds with
  | .ok d => .ok d e
  | .er x => .er x e
  | .no => .no
/-- own containers lent for the time of the call: the result holds no container -/
def mCallL (f : List D → Rf) (os : List Od) : En → R D := fun env => (evA os env).bind fun ds e => if ds.any lockO = true then .no else match f ds with
  | .ok d => if imm d = true then .ok d e else .no
  | .er x => if x.fs.isNone = true then .er x e else .no
  | .no => .no
section
variable {c : Cn} {W : WX} {X : Cx} {k : Nat} {f : Addr} {fd : FuncData} {ps : List Str} {n : Nat} {fn : List D → Rf} {x : Str} {p pos : Pos} {e : Expr} {es : List Expr} {ms : List (En → R D)} {os : List Od}
theorem call_ok {σ : L2.St} {H : Hp} {Q : VK} (hn : ms.length = n) (q : tE c W (mCall fn ms) σ H Q) : tMs c W ms σ H fun vs H1 => spD c.toGc false n fn vs H1 Q (WE W σ) := by
  obtain ⟨env, F, S, q⟩ := q
  refine tMsA ms S q fun ds e vs H1 F1 S1 s1 r1 hl h1 => ⟨by rw [r1.length_eq, hl, hn], F1, ds, S1.wf, r1, ?_⟩
  cases z : fn ds with
  | ok d =>
    rw [z] at h1
    exact fun v H' F' g' rv => h1 v H' F' (S1.go g') g'.gr.f (rlQ_rep rv)
  | er x =>
    rw [z] at h1
    exact fun cls dx H' F' g' rx => h1 cls dx H' F' (S1.go g') g'.gr.f rx
  | no =>
    rw [z] at h1
    exact h1
theorem re_call (Fo : FnG X.prog X.w X.K X.mg X.base (L2.CX X.prog X.w) k f fd ps (spD c.toGc false n fn)) (hr : RmG k X.A) (hg : Gl X x) (hm : X.mg x = some (.ref f)) (hk : PySem.W.keepIn X.K (.ref f) = true) (hb : Binds X.K fd ps []) (tk : Takes X W)
    (ha : PA X (e :: es) (tMs c W ms)) (hn : ms.length = n := by rfl) (hdb : (x == ("__debug__" : Str)) = false := by decide) (he : starEach (e :: es) X.env = (false, eval e X.env) :: starEach es X.env := by rfl) (hpl : (backTo pos (starEach es X.env)).any (·.1) = false := by rfl) :
    PE X (.Call (.Name x p) (e :: es) [] pos) (tE c W (mCall fn ms)) :=
  (pe_callG (E := WE W) Fo hr hg hm hk hb (fun σ => passAt tk σ) ha hdb he hpl).imp fun σ H Q q => call_ok hn q
theorem callF_ok {σ : L2.St} {H : Hp} {Q : VK} (hn : ms.length = n) (q : tF c W (mCall fn ms) σ H Q) : tMs c W ms σ H fun vs H1 => spD c.toGc true n fn vs H1 Q (WE W σ) := by
  obtain ⟨env, F, S, q⟩ := q
  refine tMsA ms S q fun ds e vs H1 F1 S1 s1 r1 hl h1 => ⟨by rw [r1.length_eq, hl, hn], F1, ds, S1.wf, r1, ?_⟩
  cases z : fn ds with
  | ok d =>
    rw [z] at h1
    intro v H' F' g' rv
    obtain ⟨a, o, ev, a1, a2, a3, a4⟩ := rlQ_fr rv
    exact h1 v H' F' (S1.go g') g'.gr.f ⟨a, o, ev, a1, a2, S1.h0 a3, fun z => S1.rtH a z a3, fun i h => (S1.own_there h).1 a3, a4⟩
  | er x =>
    rw [z] at h1
    exact fun cls dx H' F' g' rx => h1 cls dx H' F' (S1.go g') g'.gr.f rx
  | no =>
    rw [z] at h1
    exact h1
theorem re_callF (Fo : FnG X.prog X.w X.K X.mg X.base (L2.CX X.prog X.w) k f fd ps (spD c.toGc true n fn)) (hr : RmG k X.A) (hg : Gl X x) (hm : X.mg x = some (.ref f)) (hk : PySem.W.keepIn X.K (.ref f) = true) (hb : Binds X.K fd ps []) (tk : Takes X W)
    (ha : PA X (e :: es) (tMs c W ms)) (hn : ms.length = n := by rfl) (hdb : (x == ("__debug__" : Str)) = false := by decide) (he : starEach (e :: es) X.env = (false, eval e X.env) :: starEach es X.env := by rfl) (hpl : (backTo pos (starEach es X.env)).any (·.1) = false := by rfl) :
    PE X (.Call (.Name x p) (e :: es) [] pos) (tF c W (mCall fn ms)) :=
  (pe_callG (E := WE W) Fo hr hg hm hk hb (fun σ => passAt tk σ) ha hdb he hpl).imp fun σ H Q q => callF_ok hn q
theorem re_call0 (Fo : FnG X.prog X.w X.K X.mg X.base (L2.CX X.prog X.w) k f fd ps (spD c.toGc false 0 fn)) (hr : RmG k X.A) (hg : Gl X x) (hm : X.mg x = some (.ref f)) (hk : PySem.W.keepIn X.K (.ref f) = true) (hb : Binds X.K fd ps []) (tk : Takes X W)
    (hdb : (x == ("__debug__" : Str)) = false := by decide) : PE X (.Call (.Name x p) [] [] pos) (tE c W (mCall fn [])) := by
  refine ⟨fun pins s σ H Q I h => ?_⟩
  refine wpAny_Call_Name_kw (ld_glob I hg hm ?_ hdb)
  exact PySem.W.callWith_K0 I.kIn hk (run_fnG (E := WE W) (us := []) (vs := []) Fo hr hb (passAt tk σ) I .nil (call_ok (ms := []) rfl h))
/-- all that is tracked but the tables, frozen -/
def noTbl (H : Hp) : Hp := fun b => match H b with
  | some (.tbl _) => none
  | o => o
theorem noTbl_some {H : Hp} {b : Addr} {o : HO} (h : H b = some o) (n : ∀ ps, o ≠ .tbl ps) : noTbl H b = some o := by
  unfold noTbl
  rw [h]
  cases o <;> first | rfl | exact absurd rfl (n _)
theorem noTbl_of {H : Hp} {b : Addr} {o : HO} (h : noTbl H b = some o) : H b = some o ∧ ∀ ps, o ≠ .tbl ps := by
  unfold noTbl at h
  cases q : H b with
  | none =>
    rw [q] at h
    cases h
  | some u =>
    rw [q] at h
    cases u <;> first | (cases h; exact ⟨rfl, fun ps z => by cases z⟩) | cases h
theorem WF.all {g : Gc} {F H : Hp} (w : WF g F H) : WF g (noTbl H) H ∧ Same F (noTbl H) :=
  ⟨⟨fun b o e => (noTbl_of e).1, fun b o e t => noTbl_some e (fun ps z => by subst z; cases t), fun b ps e => (noTbl_of e).2 ps rfl, w.tab⟩, fun b o e => noTbl_some (w.sub _ _ e) (fun ps z => by subst z; exact w.nt _ _ e)⟩
theorem Rep1s.all {g : Gc} {F H : Hp} (w : WF g F H) : ∀ {ds : List D} {vs : List V}, Rep1s g F H ds vs → ds.any lockO = false → Reps g (noTbl H) ds vs
  | _, _, .nil, _ => .nil
  | _, _, .cons h t, hl => by
    rw [List.any_cons, Bool.or_eq_false_iff] at hl
    refine .cons ?_ (Rep1s.all w t hl.2)
    rcases h with h | ⟨e, h1, h⟩
    · exact h.mono w.all.2
    · subst e
      exact (h.mono w.all.2).rep hl.1 (noTbl_some h1 h.ntbl)
theorem Rep1s.length {g : Gc} {F H : Hp} : ∀ {ds : List D} {vs : List V}, Rep1s g F H ds vs → vs.length = ds.length
  | _, _, .nil => rfl
  | _, _, .cons _ t => by simp [Rep1s.length t]
theorem callL_ok {σ : L2.St} {H : Hp} {Q : VK} (hn : ∀ env e ds, evA os env = .ok ds e → ds.length = n) (q : tE c W (mCallL fn os) σ H Q) : tOds c W os σ H fun vs H1 => spD c.toGc false n fn vs H1 Q (WE W σ) := by
  obtain ⟨env, F, S, q⟩ := q
  have q2 : Okp c W σ F (rlE c) Q ((evA os env).bind fun ds e => if ds.length = n then (if ds.any lockO = true then .no else match fn ds with
    | .ok d => if imm d = true then .ok d e else .no
    | .er x => if x.fs.isNone = true then .er x e else .no
    | .no => .no) else .no) := by
    cases z : evA os env with
    | ok ds e =>
      unfold mCallL at q
      rw [z] at q
      show Okp c W σ F (rlE c) Q (if ds.length = n then _ else _)
      rw [if_pos (hn env e ds z)]
      exact q
    | er x e =>
      unfold mCallL at q
      rw [z] at q
      exact q
    | no =>
      unfold mCallL at q
      rw [z] at q
      exact q
  refine tOdsA os S q2 fun ds e vs H1 F1 S1 s1 r1 h1 => ?_
  split at h1
  · rename_i hl
    have hlk : ds.any lockO = false := by
      cases q : ds.any lockO with
      | false => rfl
      | true =>
        rw [q, if_pos rfl] at h1
        exact h1.elim
    rw [hlk, if_neg Bool.false_ne_true] at h1
    refine ⟨by rw [r1.length, hl], noTbl H1, ds, S1.wf.all.1, r1.all S1.wf hlk, ?_⟩
    -- the frozen part of ours behind the call
    have back : ∀ {H' F' : Hp}, Go c.toGc (noTbl H1) H1 F' H' → ∃ F'', Go c.toGc F1 H1 F'' H' ∧ (∀ b, H1 b = none → F'' b = F' b) ∧ ∀ a u, F' a = some u → tupy u = true → F'' a = some u := fun {H' F'} g' => by
      obtain ⟨fu, hfu⟩ : ∃ fu : Hp, ∀ b, fu b = if (H1 b).isSome = true then F1 b else F' b := ⟨fun b => if (H1 b).isSome = true then F1 b else F' b, fun _ => rfl⟩
      have at1 : ∀ b, H1 b ≠ none → fu b = F1 b := fun b hb => by
        rw [hfu, if_pos]
        cases q : H1 b with
        | none => exact absurd q hb
        | some u => rfl
      have at2 : ∀ b, H1 b = none → fu b = F' b := fun b hb => by
        rw [hfu, hb, if_neg]
        simp
      have tp : ∀ a u, F' a = some u → tupy u = true → fu a = some u := fun a u e t => by
        by_cases hb : H1 a = none
        · rw [at2 a hb]; exact e
        · rw [at1 a hb]
          have e2 := (g'.gr.new a hb).symm.trans e
          exact S1.wf.tup a u (noTbl_of e2).1 t
      refine ⟨fu, ⟨⟨⟨fun b u e => ?_, fun b u e t => ?_, fun b ps e => ?_, g'.gr.wf.tab⟩, fun b u e => ?_, g'.gr.h, at1⟩, g'.th⟩, at2, tp⟩
      · by_cases hb : H1 b = none
        · rw [at2 b hb] at e
          exact g'.gr.wf.sub _ _ e
        · rw [at1 b hb] at e
          exact g'.gr.h b u (S1.wf.sub _ _ e) (fun ps z => by subst z; exact S1.wf.nt _ _ e) (by simp)
      · exact tp b u (g'.gr.wf.tup b u e t) t
      · by_cases hb : H1 b = none
        · rw [at2 b hb] at e
          exact g'.gr.wf.nt _ _ e
        · rw [at1 b hb] at e
          exact S1.wf.nt _ _ e
      · rw [at1 b (by rw [S1.wf.sub _ _ e]; simp)]
        exact e
    cases z : fn ds with
    | ok d =>
      rw [z] at h1
      intro v H' F' g' rv
      obtain ⟨F'', g'', _, tp⟩ := back g'
      have rv := rlQ_rep rv
      have h1' : Okp c W σ F1 (rlE c) Q (if imm d = true then .ok d e else .no) := h1
      split at h1'
      · rename_i hi
        exact h1' v H' F'' (S1.go g'') g''.gr.f (rv.imm tp hi)
      · exact h1'.elim
    | er y =>
      rw [z] at h1
      intro cls dx H' F' g' rx
      obtain ⟨F'', g'', nw, tp⟩ := back g'
      have h1' : Okp c W σ F1 (rlE c) Q (if y.fs.isNone = true then .er y e else .no) := h1
      split at h1'
      · rename_i hi
        refine h1' cls dx H' F'' (S1.go g'') g''.gr.f ?_
        obtain ⟨C, e1, e2, e3⟩ := rx
        refine ⟨C, e1, e2, ?_⟩
        cases q : y.fs with
        | none =>
          rw [q] at e3
          exact e3
        | some fs =>
          rw [q] at hi
          cases hi
      · exact h1'.elim
    | no =>
      rw [z] at h1
      exact h1
  · exact h1.elim
theorem evA_len : ∀ (os : List Od) {env e : En} {ds : List D}, evA os env = .ok ds e → ds.length = os.length := by
  have fl : ∀ (ps : List Pd) (e : En) (ds : List D), fill ps e = some ds → ds.length = ps.length := by
    intro ps
    induction ps with
    | nil =>
      intro e ds h
      cases h
      rfl
    | cons p r ih =>
      intro e ds h
      cases p with
      | inl d =>
        unfold fill at h
        cases q : fill r e with
        | none =>
          rw [q] at h
          cases h
        | some ds' =>
          rw [q] at h
          cases h
          simp [ih e ds' q]
      | inr i =>
        unfold fill at h
        cases z : val e i with
        | none =>
          rw [z] at h
          cases h
        | some d =>
          rw [z] at h
          cases q : fill r e with
          | none =>
            rw [q] at h
            cases h
          | some ds' =>
            rw [q] at h
            cases h
            simp [ih e ds' q]
  have ev : ∀ (os : List Od) (env e : En) (ps : List Pd), evP os env = .ok ps e → ps.length = os.length := by
    intro os
    induction os with
    | nil =>
      intro env e ps h
      cases h
      rfl
    | cons o r ih =>
      intro env e ps h
      cases o with
      | m f =>
        have h' : ((f env).bind fun d e => (evP r e).bind fun ps e' => R.ok (.inl d :: ps) e') = .ok ps e := h
        cases q : f env with
        | ok d e1 =>
          rw [q] at h'
          have h2 : ((evP r e1).bind fun ps e' => R.ok (Sum.inl d :: ps) e') = .ok ps e := h'
          cases q2 : evP r e1 with
          | ok ps' e2 =>
            rw [q2] at h2
            cases h2
            simp [ih _ _ _ q2]
          | er x e2 =>
            rw [q2] at h2
            cases h2
          | no =>
            rw [q2] at h2
            cases h2
        | er x e1 =>
          rw [q] at h'
          cases h'
        | no =>
          rw [q] at h'
          cases h'
      | s i =>
        have h' : (match val env i with | some _ => (evP r env).bind fun ps e' => R.ok (.inr i :: ps) e' | none => R.no : R (List Pd)) = .ok ps e := h
        cases z : val env i with
        | none =>
          rw [z] at h'
          cases h'
        | some d =>
          rw [z] at h'
          have h2 : ((evP r env).bind fun ps e' => R.ok (Sum.inr i :: ps) e') = .ok ps e := h'
          cases q2 : evP r env with
          | ok ps' e2 =>
            rw [q2] at h2
            cases h2
            simp [ih _ _ _ q2]
          | er x e2 =>
            rw [q2] at h2
            cases h2
          | no =>
            rw [q2] at h2
            cases h2
  intro os env e ds h
  unfold evA at h
  cases q : evP os env with
  | ok ps e1 =>
    rw [q] at h
    have h2 : (match fill ps e1 with | some ds => R.ok ds e1 | none => R.no) = .ok ds e := h
    cases q2 : fill ps e1 with
    | none =>
      rw [q2] at h2
      cases h2
    | some ds' =>
      rw [q2] at h2
      cases h2
      rw [fl _ _ _ q2, ev _ _ _ _ q]
  | er x e1 =>
    rw [q] at h
    cases h
  | no =>
    rw [q] at h
    cases h
theorem re_callL (Fo : FnG X.prog X.w X.K X.mg X.base (L2.CX X.prog X.w) k f fd ps (spD c.toGc false n fn)) (hr : RmG k X.A) (hg : Gl X x) (hm : X.mg x = some (.ref f)) (hk : PySem.W.keepIn X.K (.ref f) = true) (hb : Binds X.K fd ps []) (tk : Takes X W)
    (ha : PA X (e :: es) (tOds c W os)) (hn : os.length = n := by rfl) (hdb : (x == ("__debug__" : Str)) = false := by decide) (he : starEach (e :: es) X.env = (false, eval e X.env) :: starEach es X.env := by rfl) (hpl : (backTo pos (starEach es X.env)).any (·.1) = false := by rfl) :
    PE X (.Call (.Name x p) (e :: es) [] pos) (tE c W (mCallL fn os)) :=
  (pe_callG (E := WE W) Fo hr hg hm hk hb (fun σ => passAt tk σ) ha hdb he hpl).imp fun σ H Q q => callL_ok (fun env e ds z => (evA_len os z).trans hn) q
end
/-! ### a def that changes what it is handed first -/
inductive Rr where
  | ok (d d0 : D) | no
def rf0 (e : En) : Option D := match (e[0]? : Option Sl) with
  | some (.rf d) => some d
  | _ => none
def runR (n : Nat) (m : En → Rs) (d0 : D) (ds : List D) : Rr := match m (.rf d0 :: startE n ds) with
  | .rt d e => (match rf0 e with
    | some d0' => .ok d d0'
    | none => .no)
  | .nx e => (match rf0 e with
    | some d0' => .ok .non d0'
    | none => .no)
  | _ => .no
def runRF (n : Nat) (m : En → Rs) (d0 : D) (ds : List D) : Rr := match m (.rf d0 :: startE n ds) with
  | .rt d e => (match rf0 e with
    | some d0' => if imm d = true then .no else .ok d d0'
    | none => .no)
  | _ => .no
def spR (g : Gc) (fr : Bool) (n : Nat) (f : D → List D → Rr) : Sp := fun vs H Q E => vs.length = n + 1 ∧ ∃ F a d0 o ds vs', vs = .ref a :: vs' ∧ WF g F H ∧ H a = some o ∧ F a = none ∧ RepO g F d0 o ∧ Reps g F ds vs' ∧ (match f d0 ds with
  | .ok d d0' => ∀ v H' F' o', Gr g (some a) F H F' H' → (∀ b, H b ≠ none → H' b ≠ none) → H' a = some o' → F' a = none → RepO g F' d0' o' → rlQ g fr H F' H' d v → Q v H'
  | .no => False)
section
variable {P : Program} {w : World} {K : PySem.W.Frag} {mg : Str → Option Value} {base : Heap}
theorem okR {g : Gc} {x qual : Str} {st : Stmt} {f : Addr} {fd : FuncData} {y : Str} {N ps : List Str} {k n : Nat} {m : En → Rs} (Fn : Fun K x qual st f fd) (S : FnScope (y :: N) ps (defScope st)) (hn : ps.length = n + 1) (hps : n ≤ N.length)
    (hbody : ∀ (cdv : Value) (A : Around) (outer : List Env) (s : Shared) (H : Hp) (E : XK) (ra : Option Addr) (H0 F0 : Hp), fd.code = cdv → RmG k (A.deeper (envOfC qual (defScope st) s.heap.objs.size f cdv)) →
      PSs (cxOf (L2.CX P w) P w K mg base (y :: N) qual (defScope st) f cdv A outer s H E) (defBody st) (tS ⟨g, ra, H0, F0, false⟩ (wD E) m)) :
    FnG P w K mg base (L2.CX P w) (k + 1) f fd ps (spR g false n (runR N.length m)) := by
  refine okG Fn S (fun vs H Q E h => by rw [h.1, hn]) (fun cdv A outer s H vs Q E hcv hr h => ?_)
  obtain ⟨hl, F, a, d0, o, ds, vs', rfl, wf, ha, fa, ro, r, h⟩ := h
  have hl' : vs'.length = n := by simpa using hl
  obtain ⟨h1, h2⟩ := start_at r (N := N) (by omega)
  have hs : L2.start (y :: N) (.ref a :: vs') = some (.ref a) :: L2.start N vs' := by
    unfold L2.start
    simp
  have S0 : SR ⟨g, some a, H, F, false⟩ (.rf d0 :: startE N.length ds) (L2.start (y :: N) (.ref a :: vs')) H F := by
    rw [hs]
    have no : ∀ (i : Nat) (d : D), (startE N.length ds)[i]? = some (.ow d) ∨ (startE N.length ds)[i]? = some (.rf d) → False := fun i d e => by
      rcases e with e | e <;> (rcases start_fz e with z | ⟨_, z⟩ <;> cases z)
    refine ⟨⟨wf, Same.refl _, fun b u e _ _ => e, fun _ _ => rfl⟩, fun _ h => h, fun b e => ?_, by simp [h1], fun i d e => ?_, fun i d e => ?_, fun i d e => ?_, fun i j b ⟨_, d, e⟩ ⟨_, d', e'⟩ => ?_⟩
    · cases e
      show H _ ≠ none
      rw [ha]
      simp
    · cases i with
      | zero => cases e
      | succ i => exact h2 i d e
    · cases i with
      | zero => cases e
      | succ i => exact (no i d (.inl e)).elim
    · cases i with
      | zero =>
        cases e
        exact ⟨a, o, rfl, rfl, ha, fa, ro⟩
      | succ i => exact (no i d (.inr e)).elim
    · cases i with
      | zero =>
        cases j with
        | zero => rfl
        | succ j => exact (no j d' e').elim
      | succ i => exact (no i d e).elim
  refine ⟨_, hbody cdv A outer s H E (some a) H F hcv hr, _, F, S0, ?_⟩
  have fin : ∀ {e : En} {σ : L2.St} {H' F' : Hp} {d0' : D}, SR ⟨g, some a, H, F, false⟩ e σ H' F' → rf0 e = some d0' → ∃ o', H' a = some o' ∧ F' a = none ∧ RepO g F' d0' o' := fun {e σ H' F' d0'} S' z => by
    unfold rf0 at z
    split at z
    · rename_i d' z'
      cases z
      obtain ⟨b, o', e0, e1, e2, e3, e4⟩ := S'.rf 0 _ z'
      cases e0
      exact ⟨o', e2, e3, e4⟩
    · cases z
  unfold runR at h
  cases z : m (.rf d0 :: startE N.length ds) with
  | rt d e =>
    rw [z] at h
    cases z2 : rf0 e with
    | none =>
      have h' : (match (match rf0 e with | some d0' => Rr.ok d d0' | none => .no) with
        | .ok d d0' => ∀ v H' F' o', Gr g (some a) F H F' H' → (∀ b, H b ≠ none → H' b ≠ none) → H' a = some o' → F' a = none → RepO g F' d0' o' → rlQ g false H F' H' d v → Q v H'
        | .no => False) := h
      rw [z2] at h'
      exact h'.elim
    | some d0' =>
      have h' : (match (match rf0 e with | some d0' => Rr.ok d d0' | none => .no) with
        | .ok d d0' => ∀ v H' F' o', Gr g (some a) F H F' H' → (∀ b, H b ≠ none → H' b ≠ none) → H' a = some o' → F' a = none → RepO g F' d0' o' → rlQ g false H F' H' d v → Q v H'
        | .no => False) := h
      rw [z2] at h'
      intro v σ H' F' S' s' rv
      obtain ⟨o', g1, g2, g3⟩ := fin S' z2
      exact h' v H' F' o' S'.gr S'.there g1 g2 g3 (rlR_q rv)
  | nx e =>
    rw [z] at h
    cases z2 : rf0 e with
    | none =>
      have h' : (match (match rf0 e with | some d0' => Rr.ok .non d0' | none => .no) with
        | .ok d d0' => ∀ v H' F' o', Gr g (some a) F H F' H' → (∀ b, H b ≠ none → H' b ≠ none) → H' a = some o' → F' a = none → RepO g F' d0' o' → rlQ g false H F' H' d v → Q v H'
        | .no => False) := h
      rw [z2] at h'
      exact h'.elim
    | some d0' =>
      have h' : (match (match rf0 e with | some d0' => Rr.ok .non d0' | none => .no) with
        | .ok d d0' => ∀ v H' F' o', Gr g (some a) F H F' H' → (∀ b, H b ≠ none → H' b ≠ none) → H' a = some o' → F' a = none → RepO g F' d0' o' → rlQ g false H F' H' d v → Q v H'
        | .no => False) := h
      rw [z2] at h'
      intro σ H' F' S' s'
      obtain ⟨o', g1, g2, g3⟩ := fin S' z2
      exact h' .non H' F' o' S'.gr S'.there g1 g2 g3 rlQ_non
  | er x e =>
    rw [z] at h
    exact h.elim
  | bk e =>
    rw [z] at h
    exact h.elim
  | ct e =>
    rw [z] at h
    exact h.elim
  | no =>
    rw [z] at h
    exact h.elim
theorem okRF {g : Gc} {x qual : Str} {st : Stmt} {f : Addr} {fd : FuncData} {y : Str} {N ps : List Str} {k n : Nat} {m : En → Rs} (Fn : Fun K x qual st f fd) (S : FnScope (y :: N) ps (defScope st)) (hn : ps.length = n + 1) (hps : n ≤ N.length)
    (hbody : ∀ (cdv : Value) (A : Around) (outer : List Env) (s : Shared) (H : Hp) (E : XK) (ra : Option Addr) (H0 F0 : Hp), fd.code = cdv → RmG k (A.deeper (envOfC qual (defScope st) s.heap.objs.size f cdv)) →
      PSs (cxOf (L2.CX P w) P w K mg base (y :: N) qual (defScope st) f cdv A outer s H E) (defBody st) (tS ⟨g, ra, H0, F0, true⟩ (wD E) m)) :
    FnG P w K mg base (L2.CX P w) (k + 1) f fd ps (spR g true n (runRF N.length m)) := by
  refine okG Fn S (fun vs H Q E h => by rw [h.1, hn]) (fun cdv A outer s H vs Q E hcv hr h => ?_)
  obtain ⟨hl, F, a, d0, o, ds, vs', rfl, wf, ha, fa, ro, r, h⟩ := h
  have hl' : vs'.length = n := by simpa using hl
  obtain ⟨h1, h2⟩ := start_at r (N := N) (by omega)
  have hs : L2.start (y :: N) (.ref a :: vs') = some (.ref a) :: L2.start N vs' := by
    unfold L2.start
    simp
  have S0 : SR ⟨g, some a, H, F, true⟩ (.rf d0 :: startE N.length ds) (L2.start (y :: N) (.ref a :: vs')) H F := by
    rw [hs]
    have no : ∀ (i : Nat) (d : D), (startE N.length ds)[i]? = some (.ow d) ∨ (startE N.length ds)[i]? = some (.rf d) → False := fun i d e => by
      rcases e with e | e <;> (rcases start_fz e with z | ⟨_, z⟩ <;> cases z)
    refine ⟨⟨wf, Same.refl _, fun b u e _ _ => e, fun _ _ => rfl⟩, fun _ h => h, fun b e => ?_, by simp [h1], fun i d e => ?_, fun i d e => ?_, fun i d e => ?_, fun i j b ⟨_, d, e⟩ ⟨_, d', e'⟩ => ?_⟩
    · cases e
      show H _ ≠ none
      rw [ha]
      simp
    · cases i with
      | zero => cases e
      | succ i => exact h2 i d e
    · cases i with
      | zero => cases e
      | succ i => exact (no i d (.inl e)).elim
    · cases i with
      | zero =>
        cases e
        exact ⟨a, o, rfl, rfl, ha, fa, ro⟩
      | succ i => exact (no i d (.inr e)).elim
    · cases i with
      | zero =>
        cases j with
        | zero => rfl
        | succ j => exact (no j d' e').elim
      | succ i => exact (no i d e).elim
  refine ⟨_, hbody cdv A outer s H E (some a) H F hcv hr, _, F, S0, ?_⟩
  have fin : ∀ {e : En} {σ : L2.St} {H' F' : Hp} {d0' : D}, SR ⟨g, some a, H, F, true⟩ e σ H' F' → rf0 e = some d0' → ∃ o', H' a = some o' ∧ F' a = none ∧ RepO g F' d0' o' := fun {e σ H' F' d0'} S' z => by
    unfold rf0 at z
    split at z
    · rename_i d' z'
      cases z
      obtain ⟨b, o', e0, e1, e2, e3, e4⟩ := S'.rf 0 _ z'
      cases e0
      exact ⟨o', e2, e3, e4⟩
    · cases z
  unfold runRF at h
  cases z : m (.rf d0 :: startE N.length ds) with
  | rt d e =>
    rw [z] at h
    cases z2 : rf0 e with
    | none =>
      have h' : (match (match rf0 e with | some d0' => if imm d = true then Rr.no else Rr.ok d d0' | none => .no) with
        | .ok d d0' => ∀ v H' F' o', Gr g (some a) F H F' H' → (∀ b, H b ≠ none → H' b ≠ none) → H' a = some o' → F' a = none → RepO g F' d0' o' → rlQ g true H F' H' d v → Q v H'
        | .no => False) := h
      rw [z2] at h'
      exact h'.elim
    | some d0' =>
      have h' : (match (match rf0 e with | some d0' => if imm d = true then Rr.no else Rr.ok d d0' | none => .no) with
        | .ok d d0' => ∀ v H' F' o', Gr g (some a) F H F' H' → (∀ b, H b ≠ none → H' b ≠ none) → H' a = some o' → F' a = none → RepO g F' d0' o' → rlQ g true H F' H' d v → Q v H'
        | .no => False) := h
      rw [z2] at h'
      dsimp only at h'
      by_cases hi : imm d = true
      · rw [if_pos hi] at h'
        exact h'.elim
      · rw [if_neg hi] at h'
        intro v σ H' F' S' s' rv
        obtain ⟨o', g1, g2, g3⟩ := fin S' z2
        exact h' v H' F' o' S'.gr S'.there g1 g2 g3 (rlR_q rv fun _ => Bool.eq_false_iff.mpr hi)
  | nx e =>
    rw [z] at h
    exact h.elim
  | er x e =>
    rw [z] at h
    exact h.elim
  | bk e =>
    rw [z] at h
    exact h.elim
  | ct e =>
    rw [z] at h
    exact h.elim
  | no =>
    rw [z] at h
    exact h.elim
end
/-- f(x, ..): x an own container that f changes -/
def ownV (e : En) (i : Nat) : Option D := match e[i]? with
  | some (.ow d) => some d
  | some (.rf d) => some d
  | _ => none
def setV (e : En) (i : Nat) (d : D) : En := match e[i]? with
  | some (.ow _) => e.set i (.ow d)
  | some (.rf _) => e.set i (.rf d)
  | _ => e
def mCallR (f : D → List D → Rr) (i : Nat) (ms : List (En → R D)) : En → R D := fun env => match val env i with
  | none => .no
  | some _ => (evS ms env).bind fun ds e => match ownV e i with
    | some d0 => (match f d0 ds with
      | .ok d d0' => .ok d (setV e i d0')
      | .no => .no)
    | none => .no
section
variable {c : Cn} {W : WX} {X : Cx} {env : En} {σ : L2.St} {H F : Hp}
theorem SR.own_at (S : SR c env σ H F) {i : Nat} {d : D} (h : ownV env i = some d) : ∃ a o, Own env σ i a ∧ H a = some o ∧ F a = none ∧ RepO c.toGc F d o ∧ (c.H0 a = none ∨ c.ra = some a) := by
  unfold ownV at h
  split at h
  · rename_i d' z
    cases h
    obtain ⟨a, o, h1, h2, h3, h4, h5⟩ := S.ow i _ z
    exact ⟨a, o, ⟨h1, _, .inl z⟩, h2, h3, h5, .inl h4⟩
  · rename_i d' z
    cases h
    obtain ⟨a, o, h0, h1, h2, h3, h5⟩ := S.rf i _ z
    exact ⟨a, o, ⟨h1, _, .inr z⟩, h2, h3, h5, .inr h0⟩
  · cases h
theorem own_setV {env : En} {σ : L2.St} {i j : Nat} {d0' : D} {b : Addr} (h : Own (setV env i d0') σ j b) : Own env σ j b := by
  obtain ⟨g1, d, g2⟩ := h
  refine ⟨g1, ?_⟩
  unfold setV at g2
  split at g2
  · rename_i d' z
    by_cases hj : j = i
    · subst hj
      exact ⟨d', .inl z⟩
    · rw [List.getElem?_set_ne (Ne.symm hj)] at g2
      exact ⟨d, g2⟩
  · rename_i d' z
    by_cases hj : j = i
    · subst hj
      exact ⟨d', .inr z⟩
    · rw [List.getElem?_set_ne (Ne.symm hj)] at g2
      exact ⟨d, g2⟩
  · exact ⟨d, g2⟩
/-- an own container has changed, all else has grown -/
theorem SR.chg (S : SR c env σ H F) {i : Nat} {a : Addr} {d0 d0' : D} {H' F' : Hp} {o' : HO} (h : ownV env i = some d0) (ow : Own env σ i a) (gr : Gr c.toGc (some a) F H F' H') (th : ∀ b, H b ≠ none → H' b ≠ none) (h1 : H' a = some o') (h2 : F' a = none) (h3 : RepO c.toGc F' d0' o') :
    SR c (setV env i d0') σ H' F' := by
  have hi : i < env.length := by
    unfold ownV at h
    by_cases hi : i < env.length
    · exact hi
    · rw [List.getElem?_eq_none (by omega)] at h
      cases h
  have oth : ∀ j, j ≠ i → (setV env i d0')[j]? = env[j]? := fun j hj => by
    unfold setV
    split
    · exact List.getElem?_set_ne (Ne.symm hj)
    · exact List.getElem?_set_ne (Ne.symm hj)
    · rfl
  have len : (setV env i d0').length = env.length := by
    unfold setV
    split <;> simp
  obtain ⟨b, u, ob, hb1, hb2, hb3, hb4⟩ := S.own_at h
  have eb : b = a := by
    have e1 := ob.1
    rw [ow.1] at e1
    cases e1
    rfl
  subst eb
  have keep : ∀ e o, c.H0 e = some o → (∀ ps, o ≠ .tbl ps) → some e ≠ c.ra → e ≠ b := fun e o he _ hr z => by
    subst z
    rcases hb4 with z | z
    · rw [z] at he
      cases he
    · exact hr z.symm
  have self : (∃ d, env[i]? = some (.ow d) ∧ (setV env i d0')[i]? = some (.ow d0')) ∨ (∃ d, env[i]? = some (.rf d) ∧ (setV env i d0')[i]? = some (.rf d0')) := by
    unfold ownV at h
    split at h
    · rename_i d' z
      refine .inl ⟨d', z, ?_⟩
      unfold setV
      rw [z]
      exact List.getElem?_set_self hi
    · rename_i d' z
      refine .inr ⟨d', z, ?_⟩
      unfold setV
      rw [z]
      exact List.getElem?_set_self hi
    · cases h
  have own : ∀ j e, Own (setV env i d0') σ j e → Own env σ j e := fun j e ⟨g1, d, g2⟩ => by
    by_cases hj : j = i
    · subst hj
      rcases self with ⟨d', s1, s2⟩ | ⟨d', s1, s2⟩
      · exact ⟨g1, d', .inl s1⟩
      · exact ⟨g1, d', .inr s1⟩
    · rw [oth j hj] at g2
      exact ⟨g1, d, g2⟩
  refine ⟨⟨gr.wf, S.gr.f.trans gr.f, fun e o he n r => gr.h e o (S.gr.h e o he n r) n (fun z => keep e o he n r (Option.some.inj z)), fun e he => (gr.new e (S.there e he)).trans (S.gr.new e he)⟩, fun e he => th e (S.there e he), S.rt, len.trans S.len,
    fun j d e => ?_, fun j d e => ?_, fun j d e => ?_, fun j k e g1 g2 => S.apart j k e (own j e g1) (own k e g2)⟩
  · by_cases hj : j = i
    · subst hj
      rcases self with ⟨d', s1, s2⟩ | ⟨d', s1, s2⟩ <;> (rw [s2] at e; cases e)
    · rw [oth j hj] at e
      obtain ⟨v, g1, g2⟩ := S.fz j d e
      exact ⟨v, g1, g2.mono gr.f⟩
  · by_cases hj : j = i
    · subst hj
      rcases self with ⟨d', s1, s2⟩ | ⟨d', s1, s2⟩
      · rw [s2] at e
        cases e
        obtain ⟨b', u', k1, k2, k3, k4, k5⟩ := S.ow j _ s1
        rw [ow.1] at k1
        cases k1
        exact ⟨b, o', ow.1, h1, h2, k4, h3⟩
      · rw [s2] at e
        cases e
    · rw [oth j hj] at e
      obtain ⟨b', u', k1, k2, k3, k4, k5⟩ := S.ow j d e
      have nb : b' ≠ b := fun z => by
        subst z
        exact hj (S.apart j i b' ⟨k1, d, .inl e⟩ ow)
      exact ⟨b', u', k1, gr.h b' u' k2 k5.ntbl (fun z => nb (Option.some.inj z)), (gr.new b' (by rw [k2]; simp)).trans k3, k4, k5.mono gr.f⟩
  · by_cases hj : j = i
    · subst hj
      rcases self with ⟨d', s1, s2⟩ | ⟨d', s1, s2⟩
      · rw [s2] at e
        cases e
      · rw [s2] at e
        cases e
        obtain ⟨b', u', k0, k1, k2, k3, k5⟩ := S.rf j _ s1
        rw [ow.1] at k1
        cases k1
        exact ⟨b, o', k0, ow.1, h1, h2, h3⟩
    · rw [oth j hj] at e
      obtain ⟨b', u', k0, k1, k2, k3, k5⟩ := S.rf j d e
      have nb : b' ≠ b := fun z => by
        subst z
        exact hj (S.apart j i b' ⟨k1, d, .inr e⟩ ow)
      exact ⟨b', u', k0, k1, gr.h b' u' k2 k5.ntbl (fun z => nb (Option.some.inj z)), (gr.new b' (by rw [k2]; simp)).trans k3, k5.mono gr.f⟩
variable {k n : Nat} {f : Addr} {fd : FuncData} {ps : List Str} {fn : D → List D → Rr} {x : Str} {p pos : Pos} {e : Expr} {es : List Expr} {ms : List (En → R D)}
theorem callR_ok {i : Nat} {Q : VK} (hn : ms.length = n) (q : tE c W (mCallR fn i ms) σ H Q) : tCons (tVar i) (tMs c W ms) σ H fun vs H1 => spR c.toGc false n fn vs H1 Q (WE W σ) := by
  obtain ⟨env, F, S, q⟩ := q
  unfold mCallR at q
  split at q
  · exact q.elim
  · rename_i d hv
    obtain ⟨v, g1, _⟩ := S.val hv
    refine ⟨v, g1, ?_⟩
    refine tMsA ms S q fun ds e vs H1 F1 S1 s1 r1 hl h1 => ?_
    split at h1
    · rename_i d0 z
      obtain ⟨a, o, ow, k1, k2, k3, k4⟩ := S1.own_at z
      have ev : v = .ref a := by
        have e1 := ow.1
        rw [g1] at e1
        cases e1
        rfl
      subst ev
      refine ⟨by simp [r1.length_eq, hl, hn], F1, a, d0, o, ds, vs, rfl, S1.wf, k1, k2, k3, r1, ?_⟩
      cases z2 : fn d0 ds with
      | ok d d0' =>
        rw [z2] at h1
        intro v H' F' o' gr th l1 l2 l3 rv
        exact h1 v H' F' (S1.chg z ow gr th l1 l2 l3) gr.f (rlQ_rep rv)
      | no =>
        rw [z2] at h1
        exact h1
    · exact h1.elim
theorem callRF_ok {i : Nat} {Q : VK} (hn : ms.length = n) (q : tF c W (mCallR fn i ms) σ H Q) : tCons (tVar i) (tMs c W ms) σ H fun vs H1 => spR c.toGc true n fn vs H1 Q (WE W σ) := by
  obtain ⟨env, F, S, q⟩ := q
  unfold mCallR at q
  split at q
  · exact q.elim
  · rename_i d hv
    obtain ⟨v, g1, _⟩ := S.val hv
    refine ⟨v, g1, ?_⟩
    refine tMsA ms S q fun ds e vs H1 F1 S1 s1 r1 hl h1 => ?_
    split at h1
    · rename_i d0 z
      obtain ⟨a, o, ow, k1, k2, k3, k4⟩ := S1.own_at z
      have ev : v = .ref a := by
        have e1 := ow.1
        rw [g1] at e1
        cases e1
        rfl
      subst ev
      refine ⟨by simp [r1.length_eq, hl, hn], F1, a, d0, o, ds, vs, rfl, S1.wf, k1, k2, k3, r1, ?_⟩
      cases z2 : fn d0 ds with
      | ok d d0' =>
        rw [z2] at h1
        intro v H' F' o' gr th l1 l2 l3 rv
        obtain ⟨b, u, ev, a1, a2, a3, a4⟩ := rlQ_fr rv
        have S2 := S1.chg z ow gr th l1 l2 l3
        refine h1 v H' F' S2 gr.f ⟨b, u, ev, a1, a2, S1.h0 a3, fun z => S1.rtH b z a3, fun j h => ?_, a4⟩
        have hb : H1 b ≠ none := by
          have h2 : Own e σ j b := own_setV h
          exact (S1.own_there h2).1
        exact hb a3
      | no =>
        rw [z2] at h1
        exact h1
    · exact h1.elim
theorem re_callR {i : Nat} (Fo : FnG X.prog X.w X.K X.mg X.base (L2.CX X.prog X.w) k f fd ps (spR c.toGc false n fn)) (hr : RmG k X.A) (hg : Gl X x) (hm : X.mg x = some (.ref f)) (hk : PySem.W.keepIn X.K (.ref f) = true) (hb : Binds X.K fd ps []) (tk : Takes X W)
    (h0 : PE X e (tVar i)) (ha : PA X es (tMs c W ms)) (hn : ms.length = n := by rfl) (hdb : (x == ("__debug__" : Str)) = false := by decide) (he : starEach (e :: es) X.env = (false, eval e X.env) :: starEach es X.env := by rfl) (hpl : (backTo pos (starEach es X.env)).any (·.1) = false := by rfl) :
    PE X (.Call (.Name x p) (e :: es) [] pos) (tE c W (mCallR fn i ms)) :=
  (pe_callG (E := WE W) Fo hr hg hm hk hb (fun σ => passAt tk σ) (pa_cons h0 ha he) hdb he hpl).imp fun σ H Q q => callR_ok hn q
theorem re_callRF {i : Nat} (Fo : FnG X.prog X.w X.K X.mg X.base (L2.CX X.prog X.w) k f fd ps (spR c.toGc true n fn)) (hr : RmG k X.A) (hg : Gl X x) (hm : X.mg x = some (.ref f)) (hk : PySem.W.keepIn X.K (.ref f) = true) (hb : Binds X.K fd ps []) (tk : Takes X W)
    (h0 : PE X e (tVar i)) (ha : PA X es (tMs c W ms)) (hn : ms.length = n := by rfl) (hdb : (x == ("__debug__" : Str)) = false := by decide) (he : starEach (e :: es) X.env = (false, eval e X.env) :: starEach es X.env := by rfl) (hpl : (backTo pos (starEach es X.env)).any (·.1) = false := by rfl) :
    PE X (.Call (.Name x p) (e :: es) [] pos) (tF c W (mCallR fn i ms)) :=
  (pe_callG (E := WE W) Fo hr hg hm hk hb (fun σ => passAt tk σ) (pa_cons h0 ha he) hdb he hpl).imp fun σ H Q q => callRF_ok hn q
end
end PV

namespace PV
open PySem PySem.Spec PyProof.Rows L2
section
variable {c : Cn} {W : WX} {X : Cx} {env : En} {σ : L2.St} {H F : Hp}
/-- an own container is written -/
theorem SR.wr (S : SR c env σ H F) {i : Nat} {a : Addr} {o o' : HO} {d0 d0' : D} (h : ownV env i = some d0) (ow : Own env σ i a) (ho : H a = some o) (hF : F a = none) (r : RepO c.toGc F d0 o) (r' : RepO c.toGc F d0' o') (ns : nslf d0 = true := by rfl) : SR c (setV env i d0') σ (upd H a o') F := by
  refine S.chg h ow ⟨⟨fun b u e => ?_, fun b u e t => ?_, S.wf.nt, Tabs_put S.wf.tab ho r.ntbl (r.next ns) (no_of r'.ntup)⟩, Same.refl _, fun b u e _ hb => ?_, fun _ _ => rfl⟩ upd_there upd_same hF r'
  · rw [upd_ne fun z => by rw [z, hF] at e; cases e]
    exact S.wf.sub _ _ e
  · by_cases hb : b = a
    · subst hb
      rw [upd_same] at e
      rw [← Option.some.inj e, r'.ntup] at t
      cases t
    · rw [upd_ne hb] at e
      exact S.wf.tup _ _ e t
  · rw [upd_ne fun z => hb (by rw [z])]
    exact e
def isLst : Option D → Bool
  | some (.lst _) => true
  | _ => false
theorem SR.tyL (S : SR c env σ H F) {i : Nat} (hK : c.K = X.K) (h : isLst (PV.val env i) = true) : ∃ v, σ[i]? = some (some v) ∧ tyV X.K "list" v H := by
  cases q : PV.val env i with
  | none =>
    rw [q] at h
    cases h
  | some d =>
    rw [q] at h
    cases d with
    | lst xs =>
      obtain ⟨v, h1, h2⟩ := S.val q
      obtain ⟨a, vs, rfl, h3, h4⟩ := h2.lst_ S.wf
      exact ⟨_, h1, .inl ⟨rfl, vs, SqL.of h3⟩⟩
    | _ => cases h
/-! ### methods of an own list -/
/-- m: the argument; k: what becomes of the list and the argument -/
def mOwn (i : Nat) (m : En → R D) (k : List D → D → Option (D × List D)) : En → R D := fun env => if isLst (val env i) = true then (m env).bind fun d e => match ownV e i with
  | some (.lst xs) => (match k xs d with
    | some (v, ys) => .ok v (setV e i (.lst ys))
    | none => .no)
  | _ => .no else .no
def kAppend (xs : List D) (d : D) : Option (D × List D) := if xs.length < lim then some (.non, xs ++ [d]) else none
def kPopAt (xs : List D) (d : D) : Option (D × List D) := match d with
  | .int i => if lim < xs.length then none else (ixN xs.length i).bind fun j => (xs[j]?).map fun v => (v, xs.eraseIdx j)
  | _ => none
def kExtend (xs : List D) (d : D) : Option (D × List D) := match d with
  | .lst ys => if xs.length + ys.length ≤ lim then some (.non, xs ++ ys) else none
  | _ => none
theorem own_ok {i : Nat} {m : En → R D} {k : List D → D → Option (D × List D)} {r : V → List V → Hp → VK → Prop} (hK : c.K = X.K)
    (hr : ∀ {F H : Hp} {a : Addr} {xs ys : List D} {vs : List V} {d v : D} {y : V} {Q : VK}, WF c.toGc F H → H a = some (.lst vs) → F a = none → Reps c.toGc F xs vs → Rep c.toGc F d y → k xs d = some (v, ys) →
      (∀ u ws, Rep c.toGc F v u → Reps c.toGc F ys ws → Q u (upd H a (.lst ws))) → r (.ref a) [y] H Q)
    {Q : VK} (q : tE c W (mOwn i m k) σ H Q) : tBM X.K "list" r (tVar i) (tMs c W [m]) σ H Q := by
  obtain ⟨env, F, S, q⟩ := q
  unfold mOwn at q
  split at q
  · rename_i hl
    obtain ⟨v, g1, g2⟩ := S.tyL hK hl
    refine ⟨v, g1, g2, ?_⟩
    refine tM_bind S q fun d e y H1 F1 S1 s1 r1 h1 => ?_
    split at h1
    · rename_i xs z
      obtain ⟨a, o, ow, k1, k2, k3, k4⟩ := S1.own_at z
      have ev : v = .ref a := by
        have e1 := ow.1
        rw [g1] at e1
        cases e1
        rfl
      subst ev
      have k3' := k3
      cases k3 with
      | lst rx =>
        split at h1
        · rename_i v' ys hk
          exact hr S1.wf k1 k2 rx r1 hk fun u ws ru rw' => h1 u _ F1 (S1.wr z ow k1 k2 k3' (.lst rw')) (Same.refl _) ru
        · exact h1.elim
    · exact h1.elim
  · exact q.elim
variable {x : Str} {p apos pos : Pos} {a e : Expr} {i : Nat} {m : En → R D}
theorem re_append (hK : c.K = X.K) (ho : PE X a (tVar i)) (he : PE X e (tE c W m)) (hbase : attributeBase a "append" X.env (eval a X.env) = eval a X.env := by rfl)
    (hfew : ((backTo pos (starEach [e] X.env)).all (fun x => !x.1) && (backToKw pos (keywordEach [] X.env)).all (fun x => x.1.isSome) && decide ([e].length + ([] : List Keyword).length + (if ([] : List Keyword).isEmpty then 0 else 1) < 30)) = true := by rfl)
    (hline : (apos.endLine == pos.line) = true := by rfl) (hs : starEach [e] X.env = (false, eval e X.env) :: starEach [] X.env := by rfl) (hplain : (backTo pos (starEach [] X.env)).any (·.1) = false := by rfl) :
    PE X (.Call (.Attribute a "append" apos) [e] [] pos) (tE c W (mOwn i m kAppend)) :=
  (pe_bm PySem.F.plainAttrs_list PySem.F.slot_list_append PySem.F.type_list_append mt_append ho (pa_cons he pa_nil hs) hbase hfew hline hs hplain).imp fun σ H Q q => own_ok (r := rAppend) hK (fun w h1 h2 r1 r2 hk kk => by
    unfold kAppend at hk
    split at hk
    · rename_i hz
      cases hk
      exact ⟨_, _, _, rfl, rfl, h1, lim_lt (by rw [← r1.length]; exact hz), kk _ _ .non (r1.append (.cons r2 .nil))⟩
    · cases hk) q
theorem Reps.erase {g : Gc} {F : Hp} : ∀ {ds : List D} {vs : List V} (j : Nat), Reps g F ds vs → Reps g F (ds.eraseIdx j) (vs.eraseIdx j)
  | _, _, _, .nil => .nil
  | _, _, 0, .cons _ t => t
  | _, _, j + 1, .cons h t => .cons h (Reps.erase j t)
theorem re_popAt (hK : c.K = X.K) (ho : PE X a (tVar i)) (he : PE X e (tE c W m)) (hbase : attributeBase a "pop" X.env (eval a X.env) = eval a X.env := by rfl)
    (hfew : ((backTo pos (starEach [e] X.env)).all (fun x => !x.1) && (backToKw pos (keywordEach [] X.env)).all (fun x => x.1.isSome) && decide ([e].length + ([] : List Keyword).length + (if ([] : List Keyword).isEmpty then 0 else 1) < 30)) = true := by rfl)
    (hline : (apos.endLine == pos.line) = true := by rfl) (hs : starEach [e] X.env = (false, eval e X.env) :: starEach [] X.env := by rfl) (hplain : (backTo pos (starEach [] X.env)).any (·.1) = false := by rfl) :
    PE X (.Call (.Attribute a "pop" apos) [e] [] pos) (tE c W (mOwn i m kPopAt)) :=
  (pe_bm PySem.F.plainAttrs_list PySem.F.slot_list_pop PySem.F.type_list_pop mt_popAt ho (pa_cons he pa_nil hs) hbase hfew hline hs hplain).imp fun σ H Q q => own_ok (r := rPopAt) hK (fun {F H a xs ys vs d v y Q} w h1 h2 r1 r2 hk kk => by
    unfold kPopAt at hk
    cases r2 with
    | int =>
      rename_i n
      have hk0 : (if lim < xs.length then none else (ixN xs.length n).bind (fun j => (xs[j]?).map fun v => (v, xs.eraseIdx j))) = some (v, ys) := hk
      split at hk0
      · cases hk0
      · rename_i hz
        have hk' : (ixN xs.length n).bind (fun j => (xs[j]?).map fun v => (v, xs.eraseIdx j)) = some (v, ys) := hk0
        cases q1 : ixN xs.length n with
        | none =>
          rw [q1] at hk'
          cases hk'
        | some j =>
          rw [q1] at hk'
          have hk2 : (xs[j]?).map (fun v => (v, xs.eraseIdx j)) = some (v, ys) := hk'
          cases q2 : xs[j]? with
          | none =>
            rw [q2] at hk2
            cases hk2
          | some u =>
            rw [q2] at hk2
            cases hk2
            obtain ⟨b1, b2, b3, b4⟩ := ixN_seq q1
            obtain ⟨w', c1, c2⟩ := r1.get q2
            have hl : xs.length ≤ 1000000 := Nat.le_of_not_lt hz
            exact ⟨a, vs, n, j, w', rfl, rfl, h1, by omega, by omega, by rw [← r1.length]; exact b1, c1, kk _ _ c2 (r1.erase j)⟩
    | _ => cases hk) q
theorem re_extend (hK : c.K = X.K) (ho : PE X a (tVar i)) (he : PE X e (tE c W m)) (hbase : attributeBase a "extend" X.env (eval a X.env) = eval a X.env := by rfl)
    (hfew : ((backTo pos (starEach [e] X.env)).all (fun x => !x.1) && (backToKw pos (keywordEach [] X.env)).all (fun x => x.1.isSome) && decide ([e].length + ([] : List Keyword).length + (if ([] : List Keyword).isEmpty then 0 else 1) < 30)) = true := by rfl)
    (hline : (apos.endLine == pos.line) = true := by rfl) (hs : starEach [e] X.env = (false, eval e X.env) :: starEach [] X.env := by rfl) (hplain : (backTo pos (starEach [] X.env)).any (·.1) = false := by rfl) :
    PE X (.Call (.Attribute a "extend" apos) [e] [] pos) (tE c W (mOwn i m kExtend)) :=
  (pe_bm PySem.F.plainAttrs_list PySem.F.slot_list_extend PySem.F.type_list_extend mt_extend ho (pa_cons he pa_nil hs) hbase hfew hline hs hplain).imp fun σ H Q q => own_ok (r := rExtend) hK (fun {F H a xs ys vs d v y Q} w h1 h2 r1 r2 hk kk => by
    unfold kExtend at hk
    cases r2 with
    | @lst b zs ws h3 r3 =>
      have hk' : (if xs.length + zs.length ≤ lim then some (D.non, xs ++ zs) else none) = some (v, ys) := hk
      split at hk'
      · rename_i hz
        cases hk'
        exact ⟨_, _, _, _, rfl, rfl, h1, w.sub _ _ h3, lim_line (by rw [← r1.length, ← r3.length]; exact hz), kk _ _ .non (r1.append r3)⟩
      · cases hk'
    | _ => cases hk) q
/-! ### x[k] = e, x an own list -/
def kSetIx (xs : List D) (k d : D) : Option (List D) := match k with
  | .int i => (ixN xs.length i).map fun j => xs.set j d
  | _ => none
def sSetIx (i : Nat) (mk me : En → R D) : En → Rs := fun env => (me env).bs fun d e => match val e i with
  | none => .no
  | some _ => (mk e).bs fun k e' => match ownV e' i with
    | some (.lst xs) => (match kSetIx xs k d with
      | some ys => .nx (setV e' i (.lst ys))
      | none => .no)
    | _ => .no
theorem Reps.set {g : Gc} {F : Hp} {d : D} {v : V} (r : Rep g F d v) : ∀ {ds : List D} {vs : List V} (j : Nat), Reps g F ds vs → Reps g F (ds.set j d) (vs.set j v)
  | _, _, _, .nil => .nil
  | _, _, 0, .cons _ t => .cons r t
  | _, _, j + 1, .cons h t => .cons h (Reps.set r j t)
theorem setIx_ok {Z : Ends} {mk me : En → R D} (q : tS c W (sSetIx i mk me) Z σ H) : tAsg (tE c W me) (gSub (tVar i) (tE c W mk) rSetL) Z σ H := by
  obtain ⟨env, F, S, q⟩ := q
  refine tM_bs S q fun d e v H1 F1 S1 s1 r1 h1 => ?_
  split at h1
  · exact h1.elim
  · rename_i d' hv
    obtain ⟨u, g1, _⟩ := S1.val hv
    refine ⟨u, g1, ?_⟩
    refine tM_bs S1 h1 fun k e2 y H2 F2 S2 s2 r2 h2 => ?_
    split at h2
    · rename_i xs z
      obtain ⟨a, o, ow, k1, k2, k3, k4⟩ := S2.own_at z
      have ev : u = .ref a := by
        have e1 := ow.1
        rw [g1] at e1
        cases e1
        rfl
      subst ev
      have k3' := k3
      cases k3 with
      | @lst _ vs rx =>
        split at h2
        · rename_i ys hk
          unfold kSetIx at hk
          cases r2 with
          | @int n =>
            have hk' : (ixN xs.length n).map (fun j => xs.set j d) = some ys := hk
            cases q1 : ixN xs.length n with
            | none =>
              rw [q1] at hk'
              cases hk'
            | some j =>
              rw [q1] at hk'
              cases hk'
              exact ⟨a, vs, n, j, rfl, rfl, k1, by rw [← rx.length]; exact q1, h2 σ _ F2 (S2.wr z ow k1 k2 k3' (.lst (rx.set (r1.mono s2) j))) (Same.refl _)⟩
          | _ => cases hk
        · exact h2.elim
    · exact h2.elim
theorem rs_setIx {idx : Expr} {mk me : En → R D} {pos' : Pos} (ho : PE X a (tVar i)) (hi : PE X idx (tE c W mk)) (he : PE X e (tE c W me))
    (ha : ∀ v, assign (.Subscript a idx pos') X.env v = (do
      let ov ← holding [v] (eval a X.env)
      let iv ← holding [v, ov] (eval idx X.env)
      standAt pos'
      holding [v, ov, iv] (setItem ov iv v)
      release [v, ov, iv] []) := by intro _; rfl)
    (hs : swapsWithSole [.Subscript a idx pos'] e pos.line X.env = pure false := by rfl) (hw : swappedStores [.Subscript a idx pos'] e X.env = pure none := by rfl)
    (h1 : (assignEach [.Subscript a idx pos'] X.env).map (·.2) = [assign (.Subscript a idx pos') X.env] := by rfl) : PS X (.Assign [.Subscript a idx pos'] e pos) (tS c W (sSetIx i mk me)) :=
  (ps_asg he (pg_sub ho hi set_list ha) hs hw h1).imp fun Z σ H q => setIx_ok q
/-! ### x op= e, ints -/
def sAug (i : Nat) (f : List D → Option D) (m : En → R D) : En → Rs := fun env => match env[i]? with
  | some (.fz x) => (m env).bs fun d e => match f [x, d] with
    | some y => if free e i = true then .nx (e.set i (.fz y)) else .no
    | none => .no
  | _ => .no
theorem rs_aug {op : Operator} {r : R2} {f : List D → Option D} {pos' : Pos} (hN : X.N.Nodup) (hi : X.N[i]? = some x) (hx : Loc X.env.scope x) (ho : OpR X (inplaceOp op) r) (hf' : OpA c.toGc (r2 r) f) (he : PE X e (tE c W m)) (hf : X.fn x = true ∨ X.env.scope.names.lookup x = some .local := by first | exact .inl rfl | exact .inr rfl) :
    PS X (.AugAssign (.Name x pos') op e pos) (tS c W (sAug i f m)) := (ps_aug hN hi hx he ho hf).imp fun Z σ H ⟨env, F, S, q⟩ => by
  unfold sAug at q
  split at q
  · rename_i d0 z
    obtain ⟨v, h1, h2⟩ := S.fz i d0 z
    refine ⟨v, h1, ?_⟩
    refine tM_bs S q fun d e y H1 F1 S1 s1 r1 h3 => ?_
    split at h3
    · rename_i y' hy
      split at h3
      · rename_i hfr
        exact hf' [d0, d] [v, y] y' F1 H1 _ S1.wf (.cons (.st (h2.mono s1)) (.cons (.st r1) .nil)) hy fun u H2 F2 g2 ru => h3 _ H2 F2 ((S1.go g2).set hfr ru) g2.gr.f
      · exact h3.elim
    · exact h3.elim
  · exact q.elim
/-! ### several targets -/
def sAsg (T : Tg) (m : En → R D) : En → Rs := fun env => (m env).bs fun d e => match bindT T d e with
  | some e' => .nx e'
  | none => .no
theorem rs_asg {tg : Expr} {T : Tg} (he : PE X e (tE c W m)) (hg : PG X tg (tG c T)) (hs : swapsWithSole [tg] e pos.line X.env = pure false := by rfl) (hw : swappedStores [tg] e X.env = pure none := by rfl)
    (h1 : (assignEach [tg] X.env).map (·.2) = [assign tg X.env] := by rfl) : PS X (.Assign [tg] e pos) (tS c W (sAsg T m)) := (ps_asg he hg hs hw h1).imp fun Z σ H ⟨env, F, S, q⟩ => by
  refine tM_bs S q fun d e v H1 F1 S1 s1 r1 h1 => ?_
  refine ⟨e, F1, d, S1, r1, ?_⟩
  cases z : bindT T d e with
  | none =>
    rw [z] at h1
    exact h1
  | some e2 =>
    rw [z] at h1
    exact fun σ' H' F' S' s' _ => h1 σ' H' F' S' s'
/-- what is stored: kept, or new -/
inductive Oe where
  | st (m : En → R D) | fr (m : En → R D)
def Oe.ev : Oe → En → R D
  | .st m => m
  | .fr m => m
def Oe.t (c : Cn) (W : WX) : Oe → TE
  | .st m => tE c W m
  | .fr m => tF c W m
def Oe.sl : Oe → D → Sl
  | .st _, d => .fz d
  | .fr _, d => .ow d
/-- a, b = e1, e2 -/
def sPar (i j : Nat) (o1 o2 : Oe) : En → Rs := fun env => (o1.ev env).bs fun d1 e1 => (o2.ev e1).bs fun d2 e2 => if free e2 i = true ∧ free e2 j = true ∧ i ≠ j then .nx ((e2.set i (o1.sl d1)).set j (o2.sl d2)) else .no
theorem own_set {e : En} {i k : Nat} {s : Sl} {v : V} {a : Addr} (hi : i < e.length) (hs : i < σ.length) (h : Own (e.set i s) (σ.set i (some v)) k a) : (k = i ∧ v = .ref a ∧ ∃ d, s = .ow d ∨ s = .rf d) ∨ (k ≠ i ∧ Own e σ k a) := by
  obtain ⟨h1, d, h2⟩ := h
  by_cases hk : k = i
  · subst hk
    rw [List.getElem?_set_self hs] at h1
    rw [List.getElem?_set_self hi] at h2
    have e1 := Option.some.inj (Option.some.inj h1)
    refine .inl ⟨rfl, e1, d, ?_⟩
    rcases h2 with h2 | h2
    · exact .inl (Option.some.inj h2)
    · exact .inr (Option.some.inj h2)
  · rw [List.getElem?_set_ne (Ne.symm hk)] at h1 h2
    exact .inr ⟨hk, h1, d, h2⟩
theorem free_lt {e : En} {i : Nat} (hf : free e i = true) : i < e.length := by
  unfold free at hf
  by_cases h : i < e.length
  · exact h
  · rw [List.getElem?_eq_none (by omega)] at hf
    cases hf
theorem free_set {e : En} {i j : Nat} {s : Sl} (hij : i ≠ j) (h : free e j = true) : free (e.set i s) j = true := by
  unfold free at h ⊢
  rw [List.getElem?_set_ne hij]
  exact h
theorem rlF_set (S : SR c env σ H F) {i : Nat} {d : D} {v w : V} {s : Sl} (hi : i < env.length) (r : rlF c env σ F H d v) (ns : ∀ a, v = .ref a → w = .ref a → (∃ d, s = .ow d ∨ s = .rf d) → False) : rlF c (env.set i s) (σ.set i (some w)) F H d v := by
  obtain ⟨a, o, ev, h1, h2, h3, hr, h4, h5⟩ := r
  refine ⟨a, o, ev, h1, h2, h3, hr, fun k hk => ?_, h5⟩
  rcases own_set hi (S.len ▸ hi) hk with ⟨_, e2, e3⟩ | ⟨_, e2⟩
  · exact ns a ev e2 e3
  · exact h4 k e2
def Oe.tk (c : Cn) (W : WX) (o : Oe) : TE := fun σ H Q => ∃ H0, o.t (c.kp H0) W σ H Q
theorem par_ok {Z : Ends} {i j : Nat} {o1 o2 : Oe} (q : tS c W (sPar i j o1 o2) Z σ H) : tPar i j (tCons (o1.t c W) (tCons (o2.tk c W) tNil)) Z σ H := by
  obtain ⟨env, F, S, q⟩ := q
  unfold sPar at q
  cases o1 with
  | st m1 =>
    refine tM_bs S q fun d1 e1 v1 H1 F1 S1 s1 r1 h1 => ?_
    cases o2 with
    | st m2 =>
      refine ⟨c.H0, tM_bs S1 h1 fun d2 e2 v2 H2 F2 S2 s2 r2 h2 => ?_⟩
      split at h2
      · rename_i hf
        obtain ⟨f1, f2, f3⟩ := hf
        exact ⟨v1, v2, rfl, h2 _ H2 F2 ((S2.set f1 (r1.mono s2)).set (free_set f3 f2) r2) (Same.refl _)⟩
      · exact h2.elim
    | fr m2 =>
      refine ⟨c.H0, tM_bs S1 h1 fun d2 e2 v2 H2 F2 S2 s2 r2 h2 => ?_⟩
      split at h2
      · rename_i hf
        obtain ⟨f1, f2, f3⟩ := hf
        exact ⟨v1, v2, rfl, h2 _ H2 F2 ((S2.set f1 (r1.mono s2)).setO (free_set f3 f2) (rlF_set S2 (free_lt f1) r2 fun a _ _ ⟨d, z⟩ => by rcases z with z | z <;> cases z)) (Same.refl _)⟩
      · exact h2.elim
  | fr m1 =>
    refine tM_bs S q fun d1 e1 v1 H1 F1 S1 s1 r1 h1 => ?_
    obtain ⟨a1, u1, ev, b1, b2, b3, hr1, b4, b5⟩ := r1
    subst ev
    have f01 : c.F0 a1 = none := S1.gr.f.free b2
    have K1 := S1.keep b1 b2 b3 b4
    have back : ∀ {e : En} {H2 F2 : Hp}, SR (c.kp (upd c.H0 a1 u1)) e σ H2 F2 → Same F1 F2 → SR c e σ H2 F2 ∧ rlF c e σ F2 H2 d1 (.ref a1) := fun {e H2 F2} S2 s2 => by
      obtain ⟨k1, k2, k3⟩ := S2.kept b5.ntbl hr1 f01
      exact ⟨S2.unkeep b3 hr1, a1, u1, rfl, k1, k2, b3, hr1, k3, b5.mono s2⟩
    cases o2 with
    | st m2 =>
      refine ⟨upd c.H0 a1 u1, e1, F1, K1, ?_⟩
      cases z : m2 e1 with
      | ok d2 e2 =>
        have h1' : OkS c W F1 Z ((m2 e1).bs fun d2 e2 => if free e2 i = true ∧ free e2 j = true ∧ i ≠ j then .nx ((e2.set i (.ow d1)).set j (.fz d2)) else .no) := h1
        rw [z] at h1'
        have h2 : OkS c W F1 Z (if free e2 i = true ∧ free e2 j = true ∧ i ≠ j then .nx ((e2.set i (.ow d1)).set j (.fz d2)) else .no) := h1'
        intro v2 H2 F2 S2 s2 r2
        obtain ⟨S3, rl⟩ := back S2 s2
        split at h2
        · rename_i hf
          obtain ⟨f1, f2, f3⟩ := hf
          exact ⟨.ref a1, v2, rfl, h2 _ H2 F2 ((S3.setO f1 rl).set (free_set f3 f2) r2) s2⟩
        · exact h2.elim
      | er x e2 =>
        have h1' : OkS c W F1 Z ((m2 e1).bs fun d2 e2 => if free e2 i = true ∧ free e2 j = true ∧ i ≠ j then .nx ((e2.set i (.ow d1)).set j (.fz d2)) else .no) := h1
        rw [z] at h1'
        intro cls dx H2 F2 S2 s2 rx
        exact h1' cls dx σ H2 F2 (back S2 s2).1 s2 rx
      | no =>
        have h1' : OkS c W F1 Z ((m2 e1).bs fun d2 e2 => if free e2 i = true ∧ free e2 j = true ∧ i ≠ j then .nx ((e2.set i (.ow d1)).set j (.fz d2)) else .no) := h1
        rw [z] at h1'
        exact h1'.elim
    | fr m2 =>
      refine ⟨upd c.H0 a1 u1, e1, F1, K1, ?_⟩
      cases z : m2 e1 with
      | ok d2 e2 =>
        have h1' : OkS c W F1 Z ((m2 e1).bs fun d2 e2 => if free e2 i = true ∧ free e2 j = true ∧ i ≠ j then .nx ((e2.set i (.ow d1)).set j (.ow d2)) else .no) := h1
        rw [z] at h1'
        have h2 : OkS c W F1 Z (if free e2 i = true ∧ free e2 j = true ∧ i ≠ j then .nx ((e2.set i (.ow d1)).set j (.ow d2)) else .no) := h1'
        intro v2 H2 F2 S2 s2 r2
        obtain ⟨S3, rl⟩ := back S2 s2
        obtain ⟨a2, u2, ev2, q1, q2, q3, q4, q5, q6⟩ := r2
        have n21 : a2 ≠ a1 := fun z => by
          subst z
          have q3' : upd c.H0 a2 u1 a2 = none := q3
          rw [upd_same] at q3'
          cases q3'
        have q3' : c.H0 a2 = none := by
          have q3' : upd c.H0 a1 u1 a2 = none := q3
          rw [upd_ne n21] at q3'
          exact q3'
        split at h2
        · rename_i hf
          obtain ⟨f1, f2, f3⟩ := hf
          refine ⟨.ref a1, v2, rfl, h2 _ H2 F2 ((S3.setO f1 rl).setO (free_set f3 f2) (rlF_set S3 (free_lt f1) ⟨a2, u2, ev2, q1, q2, q3', q4, q5, q6⟩ fun a e1 e2 _ => ?_)) s2⟩
          rw [ev2] at e1
          cases e1
          cases e2
          exact n21 rfl
        · exact h2.elim
      | er x e2 =>
        have h1' : OkS c W F1 Z ((m2 e1).bs fun d2 e2 => if free e2 i = true ∧ free e2 j = true ∧ i ≠ j then .nx ((e2.set i (.ow d1)).set j (.ow d2)) else .no) := h1
        rw [z] at h1'
        intro cls dx H2 F2 S2 s2 rx
        exact h1' cls dx σ H2 F2 (back S2 s2).1 s2 rx
      | no =>
        have h1' : OkS c W F1 Z ((m2 e1).bs fun d2 e2 => if free e2 i = true ∧ free e2 j = true ∧ i ≠ j then .nx ((e2.set i (.ow d1)).set j (.ow d2)) else .no) := h1
        rw [z] at h1'
        exact h1'.elim
theorem PEk {b : Expr} {o : Oe} (h : ∀ H0, PE X b (o.t (c.kp H0) W)) : PE X b (o.tk c W) := ⟨fun pins s σ H Q I ⟨H0, q⟩ => (h H0).run pins s σ H Q I q⟩
theorem rs_par {i j : Nat} {x y : Str} {a b : Expr} {o1 o2 : Oe} {px py pt : Pos} {kt k2 pt2} (hc : X.calm = true) (hN : X.N.Nodup) (hi : X.N[i]? = some x) (hj : X.N[j]? = some y) (hij : i ≠ j)
    (hx : X.env.scope.names.lookup x = some .local) (hy : X.env.scope.names.lookup y = some .local) (ha : PE X a (o1.t c W)) (hb : ∀ H0, PE X b (o2.t (c.kp H0) W)) (hs1 : starEach [a, b] X.env = (false, eval a X.env) :: starEach [b] X.env := by rfl) (hs2 : starEach [b] X.env = (false, eval b X.env) :: starEach [] X.env := by rfl)
    (hw : swappedStores [.Tuple [.Name x px, .Name y py] kt pt] (.Tuple [a, b] k2 pt2) X.env = pure (some [x, y]) := by rfl)
    (hs : swapsWithSole [.Tuple [.Name x px, .Name y py] kt pt] (.Tuple [a, b] k2 pt2) pos.line X.env = pure false := by rfl) :
    PS X (.Assign [.Tuple [.Name x px, .Name y py] kt pt] (.Tuple [a, b] k2 pt2) pos) (tS c W (sPar i j o1 o2)) :=
  (ps_par hc hN hi hj hij hx hy (pa_cons ha (pa_cons (PEk hb) pa_nil hs2) hs1) hw hs).imp fun Z σ H q => par_ok q
/-! ### what is never reached -/
def sNo : En → Rs := fun _ => .no
theorem rs_no {st : Stmt} : PS X st (tS c W sNo) := ps_never.imp fun Z σ H ⟨_, _, _, q⟩ => q
/-! ### slices -/
def cutD (xs : List D) (lo hi : Option Int) : List D := (xs.drop (HT.sIx xs.length 0 lo)).take (HT.sIx xs.length xs.length hi - HT.sIx xs.length 0 lo)
theorem Reps.cut {g : Gc} {F : Hp} {ds : List D} {vs : List V} (lo hi : Option Int) (r : Reps g F ds vs) : Reps g F (cutD ds lo hi) (cutV vs lo hi) := by
  unfold cutD cutV
  rw [r.length]
  exact r.slice _ _
theorem cut_all {α : Type} {xs : List α} {lo hi : Option Int} (h : HT.sIx xs.length 0 lo = 0 ∧ HT.sIx xs.length xs.length hi = xs.length) : (xs.drop (HT.sIx xs.length 0 lo)).take (HT.sIx xs.length xs.length hi - HT.sIx xs.length 0 lo) = xs := by
  rw [h.1, h.2, List.drop_zero, Nat.sub_zero]
  exact List.take_of_length_le (Nat.le_refl _)
/-- by values: the base, the ends -/
def oSl (lo hi : Option Int) : D → Option D
  | .tup xs => some (.tup (cutD xs lo hi))
  | .lst xs => some (.lst (cutD xs lo hi))
  | _ => none
def oSlF (lo hi : Option Int) : D → Option D
  | .lst xs => some (.lst (cutD xs lo hi))
  | _ => none
def rSlX (K : PySem.W.Frag) : V → Option Int → Option Int → Hp → VK → Prop := fun x lo hi H Q => rSlA K x lo hi H Q ∨ rSlL K x lo hi H Q
theorem sl_x : SlR X (rSlX X.K) := sl_tupA.or sl_list
/-- an end: none, or computed -/
def evO : Option (En → R D) → En → R (Option Int)
  | none, e => .ok none e
  | some m, e => (m e).bind fun d e' => match d with
    | .int i => .ok (some i) e'
    | _ => .no
def mSl (o : Od) (lo hi : Option (En → R D)) : En → R D := fun env => match o with
  | .m f => (f env).bind fun d e => (evO lo e).bind fun l e1 => (evO hi e1).bind fun h e2 => match oSl l h d with
    | some y => .ok y e2
    | none => .no
  | .s i => match val env i with
    | none => .no
    | some _ => (evO lo env).bind fun l e1 => (evO hi e1).bind fun h e2 => match (val e2 i).bind (oSl l h) with
      | some y => .ok y e2
      | none => .no
end
end PV

namespace PV
open PySem PySem.Spec PyProof.Rows L2
section
variable {c : Cn} {W : WX} {X : Cx} {env : En} {σ : L2.St} {H F : Hp}
/-! ### slices -/
inductive PoOk (X : Cx) (c : Cn) (W : WX) : Option Expr → Option (En → R D) → Prop
  | none : PoOk X c W none none
  | some {e m} : PE X e (tE c W m) → PoOk X c W (some e) (some m)
def tO (c : Cn) (W : WX) : Option (En → R D) → TO
  | none => tNoPart
  | some m => tPart (tE c W m)
theorem PoOk.po {e : Option Expr} {m : Option (En → R D)} (h : PoOk X c W e m) : PO X e (tO c W m) := by
  cases h with
  | none => exact po_none
  | some h => exact po_some h
theorem evO_ok {α β : Type} {rl : Rl α β} {Q : β → Hp → Prop} {m : Option (En → R D)} {f : Option Int → En → R α} {K : Option Int → Hp → Prop} (S : SR c env σ H F) (h : Okp c W σ F rl Q ((evO m env).bind f))
    (k : ∀ o e H1 F1, SR c e σ H1 F1 → Same F F1 → Okp c W σ F1 rl Q (f o e) → K o H1) : tO c W m σ H K := by
  cases m with
  | none => exact k none env H F S (Same.refl _) h
  | some m =>
    have e : (evO (some m) env).bind f = (m env).bind fun d e' => (match d with | .int i => R.ok (some i) e' | _ => .no : R (Option Int)).bind f := by
      unfold evO
      rw [R.bind_assoc] <;> rfl
    rw [e] at h
    refine tM_bind (rl := rlE c) S h fun d e' v H1 F1 S1 s1 r1 h1 => ?_
    cases r1 with
    | int => exact ⟨_, rfl, k _ e' H1 F1 S1 s1 h1⟩
    | _ => exact h1.elim
theorem sl_of {d y : D} {x : V} {lo hi : Option Int} {Q : VK} (w : WF c.toGc F H) (hK : c.K = X.K) (r : Rep1 c.toGc F H d x) (e : oSl lo hi d = some y) (k : ∀ v H' F', Go c.toGc F H F' H' → Rep c.toGc F' y v → Q v H') : rSlX X.K x lo hi H Q := by
  unfold oSl at e
  split at e
  · rename_i xs
    cases e
    obtain ⟨a, vs, rfl, h1, h2, h3⟩ := r.tup_ w
    rw [← hK]
    refine .inl ⟨a, vs, rfl, h1, fun hw => ?_, fun hw p n => ?_⟩
    · rw [← h3.length] at hw
      have ec : cutD xs lo hi = xs := cut_all hw
      rw [ec] at k
      exact k _ H F (Go.refl w) (.tup h2 h3)
    · have g2 := Go.frz w n (o := .tup (cutV vs lo hi)) (fun ps z => by cases z)
      exact k _ _ _ g2 (.tup (SqT.of upd_same) ((h3.cut lo hi).mono g2.gr.f))
  · rename_i xs
    cases e
    obtain ⟨a, vs, rfl, h1, h3⟩ := r.lst_ w
    refine .inr ⟨a, vs, rfl, SqL.of h1, fun p n => ?_⟩
    have g2 := Go.frz w n (o := .lst (cutV vs lo hi)) (fun ps z => by cases z)
    exact k _ _ _ g2 (.lst upd_same ((h3.cut lo hi).mono g2.gr.f))
  · cases e
theorem sl_ok {o : Od} {lo hi : Option (En → R D)} (hK : c.K = X.K) {Q : VK} (q : tE c W (mSl o lo hi) σ H Q) : tSl (rSlX X.K) (o.t c W) (tO c W lo) (tO c W hi) σ H Q := by
  obtain ⟨env, F, S, q⟩ := q
  unfold mSl at q
  cases o with
  | m f =>
    refine tM_bind S q fun d e v H1 F1 S1 s1 r1 h1 => ?_
    refine evO_ok S1 h1 fun l e1 H2 F2 S2 s2 h2 => ?_
    refine evO_ok S2 h2 fun h e2 H3 F3 S3 s3 h3 => ?_
    split at h3
    · rename_i y hy
      exact sl_of S3.wf hK (.st ((r1.mono s2).mono s3)) hy fun u H4 F4 g4 ru => h3 u H4 F4 (S3.go g4) g4.gr.f ru
    · exact h3.elim
  | s i =>
    have q' : Okp c W σ F (rlE c) Q (match val env i with
      | none => .no
      | some _ => (evO lo env).bind fun l e1 => (evO hi e1).bind fun h e2 => match (val e2 i).bind (oSl l h) with
        | some y => .ok y e2
        | none => .no) := q
    split at q'
    · exact q'.elim
    · rename_i d hv
      obtain ⟨v, g1, _⟩ := S.val hv
      refine ⟨v, g1, ?_⟩
      refine evO_ok S q' fun l e1 H2 F2 S2 s2 h2 => ?_
      refine evO_ok S2 h2 fun h e2 H3 F3 S3 s3 h3 => ?_
      split at h3
      · rename_i y hy
        cases z : val e2 i with
        | none =>
          rw [z] at hy
          cases hy
        | some d' =>
          rw [z] at hy
          obtain ⟨v', g3, g4⟩ := S3.val z
          rw [g1] at g3
          cases g3
          exact sl_of S3.wf hK g4 hy fun u H4 F4 g4 ru => h3 u H4 F4 (S3.go g4) g4.gr.f ru
      · exact h3.elim
theorem re_sl {e : Expr} {o : Od} {lo hi : Option Expr} {ml mh : Option (En → R D)} {p2 pos : Pos} (hK : c.K = X.K) (he : PE X e (o.t c W)) (hl : PoOk X c W lo ml) (hh : PoOk X c W hi mh) : PE X (.Subscript e (.Slice lo hi none p2) pos) (tE c W (mSl o ml mh)) :=
  (pe_slice sl_x he hl.po hh.po).imp fun σ H Q q => sl_ok hK q
/-! ### what is walked -/
def iRange1 : List D → Option (List D)
  | [.int n] => if -1000000 ≤ n ∧ n ≤ 1000000 then some ((List.range n.toNat).map fun k => .int (k : Nat)) else none
  | _ => none
def iRange2 : List D → Option (List D)
  | [.int a, .int b] => if (-1000000 ≤ a ∧ a ≤ 1000000) ∧ -1000000 ≤ b ∧ b ≤ 1000000 then some ((List.range (b - a).toNat).map fun k => .int (a + (k : Nat))) else none
  | _ => none
def mIt (f : List D → Option (List D)) (ms : List (En → R D)) : En → R (List D) := fun env => (evS ms env).bind fun ds e => match f ds with
  | some xs => .ok xs e
  | none => .no
theorem itS_rng {g : Gc} {F : Hp} (lo : Int) (n : Nat) : ItS g F (Itr lo n) ((List.range n).map fun k => D.int (lo + (k : Nat))) := by
  refine ⟨fun i d F' H' e s w => ?_, fun F' H' s w => ?_⟩
  · rw [List.getElem?_map] at e
    cases q : (List.range n)[i]? with
    | none =>
      rw [q] at e
      cases e
    | some k =>
      rw [q] at e
      cases e
      obtain ⟨hk, ek⟩ := List.getElem?_eq_some_iff.mp q
      rw [List.length_range] at hk
      have : k = i := by rw [← ek]; simp
      subst this
      refine ⟨hk, fun x H'' ⟨e1, e2⟩ => ?_⟩
      subst e1 e2
      exact ⟨F', Go.refl w, .int⟩
  · show n ≤ _
    simp
/-- a walk by values -/
def OpI (g : Gc) (r : List V → Hp → (It → Hp → Prop) → Prop) (f : List D → Option (List D)) : Prop := ∀ (ds : List D) (vs : List V) (xs : List D) (F H : Hp) (Q : It → Hp → Prop), WF g F H → Reps g F ds vs → f ds = some xs →
  (∀ J H' F', Go g F H F' H' → ItS g F' J xs → Q J H') → r vs H Q
theorem tIt_ok {r : List V → Hp → (It → Hp → Prop) → Prop} {f : List D → Option (List D)} {ms : List (En → R D)} (ho : OpI c.toGc r f) {Q : It → Hp → Prop} (h : tI c W (mIt f ms) σ H Q) : tMs c W ms σ H fun vs H1 => r vs H1 Q := by
  obtain ⟨env, F, S, h⟩ := h
  refine tMsA ms S h fun ds e vs H1 F1 S1 s1 r1 _ h1 => ?_
  cases q : f ds with
  | none =>
    rw [q] at h1
    exact h1.elim
  | some d =>
    rw [q] at h1
    exact ho ds vs d F1 H1 Q S1.wf r1 q fun J H2 F2 g2 rv => h1 J H2 F2 (S1.go g2) g2.gr.f rv
theorem oi_range1 {g : Gc} : OpI g (fun vs H1 R => ∃ j : Int, vs = [.int j] ∧ -(2 ^ 62) ≤ j ∧ j < 2 ^ 62 ∧ R (Itr 0 j.toNat) H1) iRange1 := fun ds vs xs F H Q w R e k => by
  unfold iRange1 at e
  split at e
  · rename_i n
    split at e
    · rename_i hz
      cases e
      obtain rfl : vs = [.int n] := by
        cases R with
        | cons a b =>
          cases a
          cases b
          rfl
      refine ⟨n, rfl, by omega, by omega, k _ H F (Go.refl w) ?_⟩
      have := itS_rng (g := g) (F := F) 0 n.toNat
      simpa using this
    · cases e
  · cases e
theorem oi_range2 {g : Gc} : OpI g (fun vs H1 R => ∃ i j : Int, vs = [.int i, .int j] ∧ (-(2 ^ 62) ≤ i ∧ i < 2 ^ 62 ∧ -(2 ^ 62) ≤ j ∧ j < 2 ^ 62) ∧ R (Itr i (j - i).toNat) H1) iRange2 := fun ds vs xs F H Q w R e k => by
  unfold iRange2 at e
  split at e
  · rename_i a b
    split at e
    · rename_i hz
      cases e
      obtain rfl : vs = [.int a, .int b] := by
        cases R with
        | cons x y =>
          cases y with
          | cons z t =>
            cases x
            cases z
            cases t
            rfl
      exact ⟨a, b, rfl, ⟨by omega, by omega, by omega, by omega⟩, k _ H F (Go.refl w) (itS_rng a (b - a).toNat)⟩
    · cases e
  · cases e
theorem ri_range1 {tg a : Expr} {m : En → R D} {p pos : Pos} (hg : Gl X "range") (hm : X.mg "range" = none) (ha : PE X a (tE c W m)) (hs0 : starEach [a] X.env = (false, eval a X.env) :: starEach [] X.env := by rfl) (hs : starEach [a] X.env = [(false, eval a X.env)] := by rfl) : PI X tg (.Call (.Name "range" p) [a] [] pos) (tI c W (mIt iRange1 [m])) :=
  (pi_range1 hg hm (pa_cons ha pa_nil hs0) hs).imp fun σ H R q => tIt_ok (ms := [m]) oi_range1 q
theorem ri_range2 {tg a b : Expr} {m1 m2 : En → R D} {p pos : Pos} (hg : Gl X "range") (hm : X.mg "range" = none) (ha : PE X a (tE c W m1)) (hb : PE X b (tE c W m2)) (hs0 : starEach [a, b] X.env = (false, eval a X.env) :: starEach [b] X.env := by rfl) (hs1 : starEach [b] X.env = (false, eval b X.env) :: starEach [] X.env := by rfl)
    (hs : starEach [a, b] X.env = [(false, eval a X.env), (false, eval b X.env)] := by rfl) (hs2 : starEach [b] X.env = [(false, eval b X.env)] := by rfl) : PI X tg (.Call (.Name "range" p) [a, b] [] pos) (tI c W (mIt iRange2 [m1, m2])) :=
  (pi_range2 hg hm (pa_cons ha (pa_cons hb pa_nil hs1) hs0) hs hs2).imp fun σ H R q => tIt_ok (ms := [m1, m2]) oi_range2 q
theorem _root_.L2.PI.or {X : Cx} {tg e : Expr} {t t' : TI} (h : PI X tg e t) (h' : PI X tg e t') : PI X tg e (fun σ H R => t σ H R ∨ t' σ H R) := ⟨fun pins s σ H R I q => q.elim (h.run pins s σ H R I) (h'.run pins s σ H R I)⟩
/-- a list or a tuple that is kept -/
def iSeq (m : En → R D) : En → R (List D) := fun env => (m env).bind fun d e => match seqD d with
  | some xs => .ok xs e
  | none => .no
theorem itS_lst {g : Gc} {F : Hp} {a : Addr} {vs : List V} {ds : List D} (h : F a = some (.lst vs)) (r : Reps g F ds vs) : ItS g F (Itl g.K a) ds := by
  refine ⟨fun i d F' H' e s w => ?_, fun F' H' s w => ⟨vs, SqL.of (w.sub _ _ (s _ _ h)), by rw [r.length]; exact Nat.le_refl _⟩⟩
  obtain ⟨v, hv, rv⟩ := r.get e
  have hs : SqL g.K H' a vs := SqL.of (w.sub _ _ (s _ _ h))
  refine ⟨⟨vs, v, hs, hv⟩, fun x H'' y => ?_⟩
  obtain ⟨e1, e2⟩ := y
  subst e1
  have := e2 vs hs
  rw [hv] at this
  cases this
  exact ⟨F', Go.refl w, rv.mono s⟩
theorem itS_sq {g : Gc} {F : Hp} {a : Addr} {vs : List V} {ds : List D} (h : SqL g.K F a vs) (r : Reps g F ds vs) : ItS g F (Itl g.K a) ds := by
  refine ⟨fun i d F' H' e s w => ?_, fun F' H' s w => ⟨vs, w.sub.seq (s.seq h), by rw [r.length]; exact Nat.le_refl _⟩⟩
  obtain ⟨v, hv, rv⟩ := r.get e
  have hs : SqL g.K H' a vs := w.sub.seq (s.seq h)
  refine ⟨⟨vs, v, hs, hv⟩, fun x H'' y => ?_⟩
  obtain ⟨e1, e2⟩ := y
  subst e1
  have := e2 vs hs
  rw [hv] at this
  cases this
  exact ⟨F', Go.refl w, rv.mono s⟩
theorem itS_tup {g : Gc} {F : Hp} {a : Addr} {vs : List V} {ds : List D} (h : SqT g.K F a vs) (r : Reps g F ds vs) : ItS g F (Itt g.K a) ds := by
  refine ⟨fun i d F' H' e s w => ?_, fun F' H' s w => ⟨vs, sqT_mono w.sub (sqT_mono s h), by rw [r.length]; exact Nat.le_refl _⟩⟩
  obtain ⟨v, hv, rv⟩ := r.get e
  have hs : SqT g.K H' a vs := sqT_mono w.sub (sqT_mono s h)
  refine ⟨⟨vs, v, hs, hv⟩, fun x H'' y => ?_⟩
  obtain ⟨e1, e2⟩ := y
  subst e1
  have := e2 vs hs
  rw [hv] at this
  cases this
  exact ⟨F', Go.refl w, rv.mono s⟩
theorem seq_ok {m : En → R D} (hK : c.K = X.K) {Q : It → Hp → Prop} (q : tI c W (iSeq m) σ H Q) : iList X.K (tE c W m) σ H Q ∨ iTup X.K (tE c W m) σ H Q := by
  obtain ⟨env, F, S, q⟩ := q
  rw [← hK]
  cases z : m env with
  | ok d e1 =>
    have q' : Okp c W σ F (rlI c) Q (match seqD d with | some xs => .ok xs e1 | none => .no) := by
      unfold iSeq at q
      rw [z] at q
      exact q
    cases d with
    | lst xs =>
      refine .inl ⟨env, F, S, ?_⟩
      rw [z]
      intro v H1 F1 S1 s1 rv
      cases rv with
      | @lst a _ vs h r =>
        exact ⟨a, rfl, ⟨vs, SqL.of (S1.wf.sub _ _ h)⟩, q' _ H1 F1 S1 s1 (itS_lst h r)⟩
    | ro xs =>
      refine .inl ⟨env, F, S, ?_⟩
      rw [z]
      intro v H1 F1 S1 s1 rv
      cases rv with
      | @ro a _ vs h r =>
        exact ⟨a, rfl, ⟨vs, S1.wf.sub.seq h⟩, q' _ H1 F1 S1 s1 (itS_sq h r)⟩
    | tup xs =>
      refine .inr ⟨env, F, S, ?_⟩
      rw [z]
      intro v H1 F1 S1 s1 rv
      cases rv with
      | @tup a _ vs h r =>
        exact ⟨a, rfl, ⟨vs, sqT_mono S1.wf.sub h⟩, q' _ H1 F1 S1 s1 (itS_tup h r)⟩
    | _ => exact q'.elim
  | er x e1 =>
    refine .inl ⟨env, F, S, ?_⟩
    unfold iSeq at q
    rw [z] at q ⊢
    exact q
  | no =>
    unfold iSeq at q
    rw [z] at q
    exact q.elim
theorem ri_seq {tg e : Expr} {m : En → R D} (hK : c.K = X.K) (he : PE X e (tE c W m)) : PI X tg e (tI c W (iSeq m)) := ((pi_list he).or (pi_tup he)).imp fun σ H Q q => seq_ok hK q
/-! ### zip of two lists, of two tuples -/
def zipD : List D → List D → List D
  | x :: xs, y :: ys => .tup [x, y] :: zipD xs ys
  | _, _ => []
theorem zipD_get : ∀ {xs ys : List D} {i : Nat} {d : D}, (zipD xs ys)[i]? = some d → ∃ x y, xs[i]? = some x ∧ ys[i]? = some y ∧ d = .tup [x, y]
  | [], _, _, _, h => by unfold zipD at h; simp at h
  | _ :: _, [], _, _, h => by unfold zipD at h; simp at h
  | x :: xs, y :: ys, 0, d, h => by
    unfold zipD at h
    exact ⟨x, y, rfl, rfl, (Option.some.inj h).symm⟩
  | x :: xs, y :: ys, i + 1, d, h => by
    unfold zipD at h
    exact zipD_get (xs := xs) (ys := ys) (i := i) h
theorem zipD_len : ∀ (xs ys : List D), xs.length ≤ (zipD xs ys).length ∨ ys.length ≤ (zipD xs ys).length
  | [], _ => .inl (Nat.zero_le _)
  | _ :: _, [] => .inr (Nat.zero_le _)
  | x :: xs, y :: ys => by
    unfold zipD
    rcases zipD_len xs ys with h | h
    · exact .inl (Nat.succ_le_succ h)
    · exact .inr (Nat.succ_le_succ h)
def iZip2 : List D → Option (List D)
  | [.tup xs, .tup ys] => some (zipD xs ys)
  | [.lst xs, .lst ys] => some (zipD xs ys)
  | _ => none
theorem pair_new {g : Gc} {F H : Hp} {x y : D} {v w : V} {T : Addr} (wf : WF g F H) (n : H T = none) (rx : Rep g F x v) (ry : Rep g F y w) : ∃ F'', Go g F H F'' (upd H T (.tup [v, w])) ∧ Rep g F'' (.tup [x, y]) (.ref T) := by
  have g2 := Go.frz wf n (o := .tup [v, w]) (fun ps z => by cases z)
  exact ⟨_, g2, .tup (SqT.of upd_same) (.cons (rx.mono g2.gr.f) (.cons (ry.mono g2.gr.f) .nil))⟩
theorem oi_zip {g : Gc} : OpI g (fun vs H1 R => ∃ a b xs ys, vs = [.ref a, .ref b] ∧ ((SqL g.K H1 a xs ∧ SqL g.K H1 b ys ∧ R (Itz g.K a b) H1) ∨ (SqT g.K H1 a xs ∧ SqT g.K H1 b ys ∧ R (RZ.ItzT g.K a b) H1))) iZip2 := fun ds vs zs F H Q w R e k => by
  unfold iZip2 at e
  split at e
  · rename_i xs ys
    cases e
    match vs, R with
    | _, .cons (@Rep.tup _ _ a _ ws fa ra) (.cons (@Rep.tup _ _ b _ us fb rb) .nil) =>
      refine ⟨a, b, ws, us, rfl, .inr ⟨sqT_mono w.sub fa, sqT_mono w.sub fb, k _ H F (Go.refl w) ⟨fun i d F' H' e s wf => ?_, fun F' H' s wf => ?_⟩⟩⟩
      · obtain ⟨x, y, ex, ey, rfl⟩ := zipD_get e
        obtain ⟨v, hv, rv⟩ := ra.get ex
        obtain ⟨u, hu, ru⟩ := rb.get ey
        have qa : SqT g.K H' a ws := sqT_mono wf.sub (sqT_mono s fa)
        have qb : SqT g.K H' b us := sqT_mono wf.sub (sqT_mono s fb)
        refine ⟨⟨ws, us, v, u, qa, qb, hv, hu⟩, fun z H'' ⟨T, v', u', e1, n, e2, q1, q2⟩ => ?_⟩
        have e3 := q1 ws qa
        rw [hv] at e3
        cases e3
        have e4 := q2 us qb
        rw [hu] at e4
        cases e4
        subst e1 e2
        exact pair_new wf n (rv.mono s) (ru.mono s)
      · have qa : SqT g.K H' a ws := sqT_mono wf.sub (sqT_mono s fa)
        have qb : SqT g.K H' b us := sqT_mono wf.sub (sqT_mono s fb)
        refine ⟨ws, us, qa, qb, ?_⟩
        rw [← ra.length, ← rb.length]
        exact zipD_len xs ys
  · rename_i xs ys
    cases e
    match vs, R with
    | _, .cons (@Rep.lst _ _ a _ ws fa ra) (.cons (@Rep.lst _ _ b _ us fb rb) .nil) =>
      refine ⟨a, b, ws, us, rfl, .inl ⟨SqL.of (w.sub _ _ fa), SqL.of (w.sub _ _ fb), k _ H F (Go.refl w) ⟨fun i d F' H' e s wf => ?_, fun F' H' s wf => ?_⟩⟩⟩
      · obtain ⟨x, y, ex, ey, rfl⟩ := zipD_get e
        obtain ⟨v, hv, rv⟩ := ra.get ex
        obtain ⟨u, hu, ru⟩ := rb.get ey
        have qa : SqL g.K H' a ws := SqL.of (wf.sub _ _ (s _ _ fa))
        have qb : SqL g.K H' b us := SqL.of (wf.sub _ _ (s _ _ fb))
        refine ⟨⟨ws, us, v, u, qa, qb, hv, hu⟩, fun z H'' ⟨T, v', u', e1, n, e2, q1, q2⟩ => ?_⟩
        have e3 := q1 ws qa
        rw [hv] at e3
        cases e3
        have e4 := q2 us qb
        rw [hu] at e4
        cases e4
        subst e1 e2
        exact pair_new wf n (rv.mono s) (ru.mono s)
      · have qa : SqL g.K H' a ws := SqL.of (wf.sub _ _ (s _ _ fa))
        have qb : SqL g.K H' b us := SqL.of (wf.sub _ _ (s _ _ fb))
        refine ⟨ws, us, qa, qb, ?_⟩
        rw [← ra.length, ← rb.length]
        exact zipD_len xs ys
  · cases e
theorem ri_zip {a b : Expr} {m1 m2 : En → R D} {elts : List Expr} {kk : Nat} {p pos tpos : Pos} (hK : c.K = X.K) (hg : Gl X "zip") (hm : X.mg "zip" = none) (ha : PE X a (tE c W m1)) (hb : PE X b (tE c W m2))
    (hs0 : starEach [a, b] X.env = (false, eval a X.env) :: starEach [b] X.env := by rfl) (hs1 : starEach [b] X.env = (false, eval b X.env) :: starEach [] X.env := by rfl) (hpl : (backTo pos (starEach [b] X.env)).any (·.1) = false := by rfl) :
    PI X (.Tuple elts kk tpos) (.Call (.Name "zip" p) [a, b] [] pos) (tI c W (mIt iZip2 [m1, m2])) :=
  (RZ.pi_zipA hg hm (pa_cons ha (pa_cons hb pa_nil hs1) hs0) hs0 hpl).imp fun σ H R q => by
    rw [← hK]
    exact tIt_ok (ms := [m1, m2]) oi_zip q
/-! ### isinstance, a built-in type -/
def tyN : D → Option String
  | .non => some "NoneType"
  | .bl _ => some "bool"
  | .int _ => some "int"
  | .str _ => some "str"
  | .tup _ => some "tuple"
  | .lst _ => some "list"
  | .dik _ => some "dict"
  | _ => none
def subN (a n : String) : Bool := a == n || (a == "bool" && n == "int")
def mIsi (n : String) (m : En → R D) : En → R D := fun env => (m env).bind fun d e => match tyN d with
  | some a => if ["bool", "int", "str", "tuple", "list", "dict"].contains n = true then .ok (.bl (subN a n)) e else .no
  | none => .no
theorem kit_of {K : PySem.W.Frag} {d : D} {a n : String} (h : tyN d = some a) (hn : ["bool", "int", "str", "tuple", "list", "dict"].contains n = true) : PySem.W.kitOne K (.type a) (.type n) = some (subN a n) := by
  have ha : a = "NoneType" ∨ a = "bool" ∨ a = "int" ∨ a = "str" ∨ a = "tuple" ∨ a = "list" ∨ a = "dict" := by
    cases d <;> first | (cases h; simp) | cases h
  have hn' : n = "bool" ∨ n = "int" ∨ n = "str" ∨ n = "tuple" ∨ n = "list" ∨ n = "dict" := by simpa using hn
  refine kit_ty ?_
  rcases ha with rfl | rfl | rfl | rfl | rfl | rfl | rfl <;> rcases hn' with rfl | rfl | rfl | rfl | rfl | rfl <;> decide +kernel
theorem ty_of {g : Gc} {F H : Hp} {d : D} {v : V} {a : String} (w : WF g F H) (r : Rep g F d v) (h : tyN d = some a) : TyX g.K H v (.type a) := by
  cases r with
  | non => cases h; exact .base .non
  | bl => cases h; exact .base (.bl _)
  | int => cases h; exact .base (.int _)
  | str => cases h; exact .base (.str _)
  | tup q _ =>
    cases h
    rcases sqT_mono w.sub q with (q | ⟨o, q⟩) | ⟨o, its, n, q, cl, _⟩
    · exact .base (.tup q)
    · exact .fTuple q
    · exact .kTuple q cl
  | lst q _ => cases h; exact .base (.lst (w.sub _ _ q))
  | dik q _ => cases h; exact .fDict (w.sub _ _ q)
  | _ => cases h
theorem re_isi {e : Expr} {x : Str} {nm : String} {m : En → R D} {p p2 pos : Pos} (hK : c.K = X.K) (hg : Gl X "isinstance") (hm : X.mg "isinstance" = none) (hv : bootBuiltins "isinstance" = some (.builtin "isinstance")) (hg2 : Gl X x) (hm2 : X.mg x = none) (hv2 : bootBuiltins x = some (.type nm)) (he : PE X e (tE c W m))
    (hx : x ≠ "__name__" := by decide) (hdx : (x == ("__debug__" : Str)) = false := by decide) (hs0 : starEach [e, .Name x p2] X.env = (false, eval e X.env) :: starEach [.Name x p2] X.env := by rfl) (hs1 : starEach [.Name x p2] X.env = (false, eval (.Name x p2) X.env) :: starEach [] X.env := by rfl)
    (hpl : (backTo pos (starEach [.Name x p2] X.env)).any (·.1) = false := by rfl) : PE X (.Call (.Name "isinstance" p) [e, .Name x p2] [] pos) (tE c W (mIsi nm m)) :=
  (pe_callB call_isi hg hm hv (pa_cons he (pa_cons (pe_bltn (v := .ty nm) hg2 hm2 hv2 rfl hx hdx) pa_nil hs1) hs0) (by decide) (by decide) hs0 hpl).imp fun σ H Q ⟨env, F, S, q⟩ => by
    unfold mIsi at q
    refine tM_bind S q fun d e v H1 F1 S1 s1 r1 h1 => ?_
    split at h1
    · rename_i a ha
      split at h1
      · rename_i hn
        refine ⟨v, .ty nm, .type a, .type nm, subN a nm, rfl, .ty nm, ?_, kit_of ha hn, h1 _ H1 F1 S1 (Same.refl _) .bl⟩
        rw [← hK]
        exact ty_of S1.wf r1 ha
      · exact h1.elim
    · exact h1.elim
/-! ### list(range(..)), tuple(range(..)) -/
theorem rg_vals (a b : Int) : Reps c.toGc F ((List.range (b - a).toNat).map fun k => D.int (a + (k : Nat))) (rgV a b) := by
  unfold rgV
  generalize (b - a).toNat = n
  have : ∀ l : List Nat, Reps c.toGc F (l.map fun k => D.int (a + (k : Nat))) (l.map fun k => V.int (a + (k : Nat))) := by
    intro l
    induction l with
    | nil => exact .nil
    | cons x r ih => exact .cons .int ih
  exact this _
def oRngL (k : List D → D) : List D → Option D := fun ds => (iRange1 ds).map k
theorem rng1_ok {m : En → R D} {k : List D → D} {σ : L2.St} {H : Hp} {Q : VK} (q : tE c W (mOp (oRngL k) [.m m]) σ H Q) {K : Int → Int → Hp → Prop}
    (hk : ∀ n e H1 F1, SR c e σ H1 F1 → RgOk 0 n → (∀ v H2 F2, SR c e σ H2 F2 → Same F1 F2 → Rep c.toGc F2 (k ((List.range n.toNat).map fun i => .int (i : Nat))) v → Q v H2) → K 0 n H1) : tRg1 (tE c W m) σ H K := by
  obtain ⟨env, F, S, q⟩ := q
  have q' : Okp c W σ F (rlE c) Q ((m env).bind fun d e => match oRngL k [d] with | some y => .ok y e | none => .no) := by
    have e : mOp (oRngL k) [.m m] env = (m env).bind fun d e => match oRngL k [d] with | some y => .ok y e | none => .no := by
      unfold mOp evA evP
      cases m env with
      | ok d e => rfl
      | er x e => rfl
      | no => rfl
    rw [← e]
    exact q
  refine tM_bind (rl := rlE c) S q' fun d e v H1 F1 S1 s1 r1 h1 => ?_
  split at h1
  · rename_i y hy
    unfold oRngL iRange1 at hy
    cases r1 with
    | @int n =>
      have hy' : (if -1000000 ≤ n ∧ n ≤ 1000000 then some ((List.range n.toNat).map fun i => D.int (i : Nat)) else none).map k = some y := hy
      split at hy'
      · rename_i hz
        cases hy'
        exact ⟨n, rfl, hk n e H1 F1 S1 ⟨by omega, by omega, by omega, by omega, by omega⟩ fun v H2 F2 S2 s2 rv => h1 v H2 F2 S2 s2 rv⟩
      · cases hy'
    | _ => cases hy
  · exact h1.elim
theorem re_listRg {a : Expr} {m : En → R D} {p p2 pos pos2 : Pos} (hc : X.calm = true) (hg : Gl X "list") (hm : X.mg "list" = none) (hg2 : Gl X "range") (hm2 : X.mg "range" = none) (ha : PE X a (tE c W m)) (na : starEach [a] X.env = (false, eval a X.env) :: starEach [] X.env := by rfl)
    (nb : starEach [.Call (.Name "range" p2) [a] [] pos2] X.env = (false, eval (.Call (.Name "range" p2) [a] [] pos2) X.env) :: starEach [] X.env := by rfl) : PE X (.Call (.Name "list" p) [.Call (.Name "range" p2) [a] [] pos2] [] pos) (tE c W (mOp (oRngL .lst) [.m m])) :=
  (pe_listRg hc hg hm (prg_1 hg2 hm2 ha na) nb).imp fun σ H Q q => rng1_ok q fun n e H1 F1 S1 ho kk => ⟨ho, fun p np => by
    have g2 := Go.frz S1.wf np (o := .lst (rgV 0 n)) (fun ps z => by cases z)
    have rv := rg_vals (c := c) (F := upd F1 p (.lst (rgV 0 n))) 0 n
    simp only [Int.sub_zero, Int.zero_add] at rv
    exact kk _ _ _ (S1.go g2) g2.gr.f (.lst upd_same rv)⟩
theorem re_tupRg {a : Expr} {m : En → R D} {p p2 pos pos2 : Pos} (hc : X.calm = true) (hg : Gl X "tuple") (hm : X.mg "tuple" = none) (hg2 : Gl X "range") (hm2 : X.mg "range" = none) (ha : PE X a (tE c W m)) (na : starEach [a] X.env = (false, eval a X.env) :: starEach [] X.env := by rfl)
    (nb : starEach [.Call (.Name "range" p2) [a] [] pos2] X.env = (false, eval (.Call (.Name "range" p2) [a] [] pos2) X.env) :: starEach [] X.env := by rfl) : PE X (.Call (.Name "tuple" p) [.Call (.Name "range" p2) [a] [] pos2] [] pos) (tE c W (mOp (oRngL .tup) [.m m])) :=
  (pe_tupRg hc hg hm (prg_1 hg2 hm2 ha na) nb).imp fun σ H Q q => rng1_ok q fun n e H1 F1 S1 ho kk => ⟨ho, fun p np => by
    have g2 := Go.frz S1.wf np (o := .tup (rgV 0 n)) (fun ps z => by cases z)
    have rv := rg_vals (c := c) (F := upd F1 p (.tup (rgV 0 n))) 0 n
    simp only [Int.sub_zero, Int.zero_add] at rv
    exact kk _ _ _ (S1.go g2) g2.gr.f (.tup (SqT.of upd_same) rv)⟩
/-- n.bit_length() -/
theorem re_bits {a : Expr} {o : Od} {apos pos : Pos} (ha : PE X a (o.t c W)) (hbase : attributeBase a "bit_length" X.env (eval a X.env) = eval a X.env := by rfl) (hline : (apos.endLine == pos.line) = true := by rfl) : PE X (.Call (.Attribute a "bit_length" apos) [] [] pos) (tE c W (mOp oBits [o])) :=
  (pe_bits ha hbase hline).imp fun σ H Q q => tOp_ok (os := [o]) (f := oBits) (r := r1 fun x H Q => ∃ i, x = .int i ∧ Q (.int (Builtin.Int.intBits i : Nat)) H) (fun ds vs d F H Q w R e k => by
    unfold oBits o1I at e
    split at e
    · rename_i i
      cases e
      obtain ⟨x, rfl, h1⟩ := R.one
      exact ⟨i, h1.int_, k _ H F (Go.refl w) .int⟩
    · cases e) q
end
end PV

/-! ### t[::-1] of a tuple -/
namespace HT
open PySem PyProof.Rows L2 HT
section
variable {prog : Program} {w : World} {A : Around} {E : Value → Shared → Prop} {s : Shared}
theorem pv_adjust (n : Nat) : Builtin.Slice.sliceAdjust none none (-1) (n : Int) = ((n : Int) - 1, -1) := by
  unfold Builtin.Slice.sliceAdjust
  simp
theorem pv_places (n : Nat) : Builtin.Slice.slicePlaces ((n : Int) - 1) (-1) (-1) = n := by
  unfold Builtin.Slice.slicePlaces
  have h1 : ¬ ((-1 : Int) > 0) := by decide
  simp only [h1, if_false]
  by_cases h : (n : Int) - 1 > -1
  · simp only [h, if_true]
    have e : ((n : Int) - 1 - -1 - 1) / (- -1) = (n : Int) - 1 := by
      rw [show (- -1 : Int) = 1 by decide, Int.ediv_one]
      omega
    rw [e]
    omega
  · simp only [h, if_false]
    omega
theorem pv_applied {sl : Addr} {vl vu vs : Value} {n : Nat} {Q : Int × Int × Nat → Shared → Prop} (hs : s.heap.IsSliceOf sl vl vu vs) (pl : IsPart vl none) (pu : IsPart vu none) (ps : IsPart vs (some (-1)))
    (h : Q ((n : Int) - 1, -1, n) s) : wpAny (model prog w) A (Builtin.Slice.sliceApplied (.ref sl) (pure (n : Int))) Q E s := by
  obtain ⟨os, hos, hcs, hds⟩ := id hs
  unfold Builtin.Slice.sliceApplied Builtin.Slice.sliceFields
  refine wpAny_bind (wpAny_bind (wpAny_field hos hds (x := vl) rfl (wpAny_bind (wpAny_field hos hds (x := vu) rfl (wpAny_bind (wpAny_field hos hds (x := vs) rfl (wpAny_pure ?_)))))))
  refine wpAny_bind (slicePart_ ps ?_)
  show wpAny _ _ (if ((-1 : Int) == 0) = true then _ else _) _ _ s
  rw [if_neg (by decide)]
  refine wpAny_bind (slicePart_ pl (wpAny_bind (slicePart_ pu (wpAny_bind (wpAny_pure ?_)))))
  show wpAny _ _ (match Builtin.Slice.sliceAdjust none none (-1) (n : Int) with | (lo, hi) => pure (lo, (-1 : Int), Builtin.Slice.slicePlaces lo hi (-1))) _ _ s
  rw [pv_adjust n]
  show wpAny _ _ (pure ((n : Int) - 1, (-1 : Int), Builtin.Slice.slicePlaces ((n : Int) - 1) (-1) (-1))) _ _ s
  rw [pv_places]
  exact wpAny_pure h
theorem pv_fm {α β : Type} {f g : α → Option β} : ∀ l : List α, (∀ x ∈ l, f x = g x) → l.filterMap f = l.filterMap g
  | [], _ => rfl
  | a :: l, h => by
    rw [List.filterMap_cons, List.filterMap_cons, h a (List.mem_cons_self ..), pv_fm l fun x hx => h x (List.mem_cons_of_mem _ hx)]
theorem pv_pick (xs : Array Value) : ((List.range xs.size).filterMap fun (m : Nat) => xs[((xs.size : Int) - 1 + (m : Int) * -1).toNat]?).toArray = xs.toList.reverse.toArray := by
  have e : (List.range xs.size).filterMap (fun (m : Nat) => xs[((xs.size : Int) - 1 + (m : Int) * -1).toNat]?) = ((List.range xs.size).map fun k => xs.size - 1 - k).filterMap (xs[·]?) := by
    rw [List.filterMap_map]
    refine pv_fm _ fun m hm => ?_
    have := List.mem_range.mp hm
    show xs[((xs.size : Int) - 1 + (m : Int) * -1).toNat]? = xs[xs.size - 1 - m]?
    congr 1
    omega
  rw [e, PySem.W.krv_range, List.filterMap_reverse, PySem.W.krv_all]
theorem pv_rev {t sl : Addr} {items : Array Value} {vl vu vs : Value} {Q : Value → Shared → Prop} (ht : IsTup s.heap t items) (hs : s.heap.IsSliceOf sl vl vu vs) (pl : IsPart vl none) (pu : IsPart vu none) (ps : IsPart vs (some (-1)))
    (h : Q (.ref s.heap.objs.size) { s with heap := s.heap.push { cls := .type "tuple", data := .seq items.toList.reverse.toArray } })
    (hsz : items.size ≤ sizeLine) : wpAny (model prog w) A (getItem (.ref t) (.ref sl)) Q E s := by
  have htake : sizeOk (.seq items.toList.reverse.toArray) := by
    show items.toList.reverse.toArray.size ≤ sizeLine
    rw [List.size_toArray, List.length_reverse, Array.length_toList]
    exact hsz
  obtain ⟨os, hos, hcs, hds⟩ := id hs
  have hTs : s.TypeIs (.ref sl) "slice" := ⟨os, hos, hcs⟩
  unfold getItem
  try with_reducible refine wpAny_holding ?_
  first | refine wpAny_bind (wpAny_pure ?_) | skip
  refine wpAny_bind (wpAny_sequenceKey ht.typeIs (by decide) ?_)
  refine wpAny_bind (wpAny_callSpecial?_slot (name := Str.ofString "__getitem__") ht.typeIs PyProof.Rows.slot_tuple_getitem
    (wpAny_call_entry PyProof.Rows.slot_tuple_getitem ht.typeIs entry_tuple_getitem ?_ (args_tuple_getitem _ _)))
  show wpAny _ _ (Builtin.Tuple.tupleItemsOf (.ref t) >>= _) _ _ s
  refine wpAny_bind (tupleItemsOf_ ht ?_)
  refine wpAny_bind (wpAny_typeOf hTs ?_)
  rw [if_pos (by decide)]
  refine wpAny_bind (pv_applied hs pl pu ps ?_)
  show wpAny _ _ (if (((items.size : Int) - 1) == 0 && (-1 : Int) == 1 && items.size == items.size) = true then _ else _) _ _ s
  rw [if_neg (by rw [show ((-1 : Int) == 1) = false from by decide, Bool.and_false, Bool.false_and]; exact Bool.false_ne_true), pv_pick]
  first
    | exact wpAny_bind (m := Builtin.Tuple.tupleExact _) (wpAny_newObj_type (wpAny_pure ⟨_, rfl, wpAny_pure h⟩) htake)
    | exact wpAny_bind (m := Builtin.Tuple.tupleExact _) (wpAny_newObj_type (wpAny_bind (wpAny_pure (wpAny_pure ⟨_, rfl, wpAny_pure h⟩))) htake)
    | exact wpAny_bind (wpAny_bind (m := Builtin.Tuple.tupleExact _) (wpAny_newObj_type (wpAny_pure (wpAny_pure ⟨_, rfl, wpAny_pure h⟩)) htake))
    | exact wpAny_bind (wpAny_bind (m := Builtin.Tuple.tupleExact _) (wpAny_newObj_type (wpAny_pure ⟨_, rfl, wpAny_pure h⟩) htake))
end
end HT
namespace PV
open PySem PySem.Spec PyProof.Rows L2
section
variable {X : Cx} {e : Expr} {te : TE} {k : Nat} {p1 p2 p3 pos : Pos}
def tRevT (K : PySem.W.Frag) (te : TE) : TE := fun σ H Q => te σ H fun x H1 => ∃ a xs, x = .ref a ∧ SqT K H1 a xs ∧ ∀ p, H1 p = none → Q (.ref p) (upd H1 p (.tup xs.reverse))
theorem pe_revT (he : PE X e te) : PE X (.Subscript e (.Slice none none (some (.UnaryOp .USub (.Constant (.int 1) k p1) p2)) p3) pos) (tRevT X.K te) := by
  refine ⟨fun pins s σ H Q I h => ?_⟩
  refine Subscript_ (thn (he.run pins s σ H _ I h) fun v s1 ⟨x, H1, I1, r1, q1⟩ => ?_)
  obtain ⟨a, xs, ex, hx, q⟩ := q1
  subst ex
  cases r1
  have hst : PO X (some (.UnaryOp .USub (.Constant (.int 1) k p1) p2)) (tPart (tUn (rU fun i => .int (-i)) (tC (.int 1)))) := po_some (pe_un un_neg pe_int)
  refine wpAny_Slice (thn (po_none.run pins s1 σ H1 (fun o H2 => o = none ∧ H2 = H1) I1 ⟨rfl, rfl⟩) fun vl s2 ⟨l, H2, I2, pl, el, e2⟩ => ?_)
  subst el e2
  refine thn (po_none.run pins s2 σ H2 (fun o H3 => o = none ∧ H3 = H2) I2 ⟨rfl, rfl⟩) fun vu s3 ⟨u, H3, I3, pu, eu, e3⟩ => ?_
  subst eu e3
  refine thn (hst.run pins s3 σ H3 (fun o H4 => o = some (-1) ∧ H4 = H3) I3 ⟨1, rfl, -1, rfl, rfl, rfl⟩) fun vs s4 ⟨o, H4, I4, ps, eo, e4⟩ => ?_
  subst eo e4
  have I5 : Inv X pins σ H4 { s4 with heap := s4.heap.push { cls := .type "slice", data := .fields #[vl, vu, vs] } } := I4.kept (t' := s4.toks) fun b ob q => Heap.get?_push_of_some _ q
  obtain ⟨its, r, ht, hz⟩ := I5.tuple hx
  have hlen := r.length
  show wpAny (model X.prog X.w) X.A (subscriptTail e (.Slice none none (some (.UnaryOp .USub (.Constant (.int 1) k p1) p2)) p3) (.ref a) (.ref s4.heap.objs.size)) (EP X pins σ Q) X.xe { s4 with heap := s4.heap.push { cls := .type "slice", data := .fields #[vl, vu, vs] } }
  refine tail_any (ops := [.ref a, .ref s4.heap.objs.size]) ht.typeIs PyProof.Rows.slot_tuple_getitem.lookup ?_ (by with_unfolding_all rfl)
  refine HT.pv_rev ht (Heap.IsSliceOf.new _ vl vu vs) pl pu ps ?_ (by rw [List.size_toArray]; omega)
  refine ⟨.ref _, _, I5.laid (t' := s4.toks) (o := .tup xs.reverse) (fun b ob q => Heap.get?_push_of_some _ q) (Nat.le_refl _) ?_, rfl, q _ (I5.hok.fresh (Nat.le_refl _))⟩
  exact ⟨by rw [List.length_reverse]; exact hz, _, r.reverse, IsTup.new _ _⟩
end
theorem _root_.L2.PE.or {X : Cx} {e : Expr} {t t' : TE} (h : PE X e t) (h' : PE X e t') : PE X e (fun σ H Q => t σ H Q ∨ t' σ H Q) := ⟨fun pins s σ H Q I q => by
  rcases q with q | q
  · exact h.run pins s σ H Q I q
  · exact h'.run pins s σ H Q I q⟩
theorem _root_.L2.PS.or {X : Cx} {e : Stmt} {t t' : TS} (h : PS X e t) (h' : PS X e t') : PS X e (fun D σ H => t D σ H ∨ t' D σ H) := ⟨fun pins s σ H D I q => by
  rcases q with q | q
  · exact h.run pins s σ H D I q
  · exact h'.run pins s σ H D I q⟩
section
variable {c : Cn} {W : WX} {X : Cx} {env : En} {σ : L2.St} {H F : Hp}
/-- by cases of what the operands are -/
theorem mOp_or {f f1 f2 : List D → Option D} (hf : ∀ ds, f ds = f1 ds ∨ f ds = f2 ds) {os : List Od} {Q : VK} (q : tE c W (mOp f os) σ H Q) : tE c W (mOp f1 os) σ H Q ∨ tE c W (mOp f2 os) σ H Q := by
  obtain ⟨env, F, S, q⟩ := q
  unfold mOp at q
  cases z : evA os env with
  | ok ds e =>
    rw [z] at q
    have q' : Okp c W σ F (rlE c) Q (match f ds with | some d => R.ok d e | none => .no) := q
    rcases hf ds with h | h
    · rw [h] at q'
      refine .inl ⟨env, F, S, ?_⟩
      unfold mOp
      rw [z]
      exact q'
    · rw [h] at q'
      refine .inr ⟨env, F, S, ?_⟩
      unfold mOp
      rw [z]
      exact q'
  | er x e =>
    rw [z] at q
    refine .inl ⟨env, F, S, ?_⟩
    unfold mOp
    rw [z]
    exact q
  | no =>
    rw [z] at q
    exact q.elim
theorem Reps.rev {g : Gc} {F : Hp} : ∀ {ds : List D} {vs : List V}, Reps g F ds vs → Reps g F ds.reverse vs.reverse
  | _, _, .nil => .nil
  | _, _, .cons h t => by
    rw [List.reverse_cons, List.reverse_cons]
    exact (Reps.rev t).append (.cons h .nil)
def oRevT : List D → Option D
  | [.tup xs] => some (.tup xs.reverse)
  | _ => none
def oRevL : List D → Option D
  | [d] => (lstD d).map fun xs => .lst xs.reverse
  | _ => none
/-- x[::-1] -/
def oRev : List D → Option D
  | [.tup xs] => some (.tup xs.reverse)
  | ds => oRevL ds
theorem re_rev {e : Expr} {o : Od} {k : Nat} {p1 p2 p3 pos : Pos} (hK : c.K = X.K) (he : PE X e (o.t c W)) : PE X (.Subscript e (.Slice none none (some (.UnaryOp .USub (.Constant (.int 1) k p1) p2)) p3) pos) (tE c W (mOp oRev [o])) :=
  ((pe_revT he).or (pe_revL he)).imp fun σ H Q q => by
    rw [← hK]
    have q := mOp_or (f1 := oRevT) (f2 := oRevL) (fun ds => by
      unfold oRev
      split
      · exact .inl rfl
      · exact .inr rfl) q
    rcases q with q | q
    · refine .inl (tOp_ok (os := [o]) (r := r1 fun x H1 Q => ∃ a xs, x = .ref a ∧ SqT c.K H1 a xs ∧ ∀ p, H1 p = none → Q (.ref p) (upd H1 p (.tup xs.reverse))) (fun ds vs d F H Q w R e k => ?_) q)
      unfold oRevT at e
      split at e
      · rename_i xs
        cases e
        obtain ⟨x, rfl, h1⟩ := R.one
        obtain ⟨a, vs, rfl, h2, h3, h4⟩ := h1.tup_ w
        refine ⟨a, vs, rfl, h2, fun p n => ?_⟩
        have g2 := Go.frz w n (o := .tup vs.reverse) (fun ps z => by cases z)
        exact k _ _ _ g2 (.tup (SqT.of upd_same) (h4.rev.mono g2.gr.f))
      · cases e
    · refine .inr (tOp_ok (os := [o]) (r := r1 fun x H1 Q => ∃ a xs, x = .ref a ∧ SqL c.K H1 a xs ∧ ∀ p, H1 p = none → Q (.ref p) (upd H1 p (.lst xs.reverse))) (fun ds vs d F H Q w R e k => ?_) q)
      unfold oRevL at e
      split at e
      · rename_i d1
        obtain ⟨x, rfl, h1⟩ := R.one
        cases q1 : lstD d1 with
        | none =>
          rw [q1] at e
          cases e
        | some xs =>
          rw [q1] at e
          cases e
          obtain ⟨a, vs, rfl, h2, h4⟩ := h1.list_ w q1
          refine ⟨a, vs, rfl, h2, fun p n => ?_⟩
          have g2 := Go.frz w n (o := .lst vs.reverse) (fun ps z => by cases z)
          exact k _ _ _ g2 (.lst upd_same (h4.rev.mono g2.gr.f))
      · cases e
/-! ### an own container given up: taken, or frozen -/
theorem SR.drop (S : SR c env σ H F) {i : Nat} (hi : i < env.length) : SR c (env.set i .no) σ H F := by
  have own : ∀ j b, Own (env.set i .no) σ j b → j ≠ i ∧ Own env σ j b := fun j b ⟨g1, d, g2⟩ => by
    by_cases hj : j = i
    · subst hj
      rw [List.getElem?_set_self hi] at g2
      rcases g2 with g2 | g2 <;> cases g2
    · rw [List.getElem?_set_ne (Ne.symm hj)] at g2
      exact ⟨hj, g1, d, g2⟩
  refine ⟨S.gr, S.there, S.rt, by simpa using S.len, fun j d e => ?_, fun j d e => ?_, fun j d e => ?_, fun j k b g1 g2 => S.apart j k b (own j b g1).2 (own k b g2).2⟩
  · by_cases hj : j = i
    · subst hj
      rw [List.getElem?_set_self hi] at e
      cases e
    · rw [List.getElem?_set_ne (Ne.symm hj)] at e
      exact S.fz j d e
  · by_cases hj : j = i
    · subst hj
      rw [List.getElem?_set_self hi] at e
      cases e
    · rw [List.getElem?_set_ne (Ne.symm hj)] at e
      exact S.ow j d e
  · by_cases hj : j = i
    · subst hj
      rw [List.getElem?_set_self hi] at e
      cases e
    · rw [List.getElem?_set_ne (Ne.symm hj)] at e
      exact S.rf j d e
theorem SR.drop_own (S : SR c env σ H F) {i : Nat} {d : D} {a : Addr} (hd : env[i]? = some (.ow d)) (ha : σ[i]? = some (some (.ref a))) : ∀ j, ¬ Own (env.set i .no) σ j a := fun j ⟨g1, d', g2⟩ => by
  have hi : i < env.length := by
    by_cases h : i < env.length
    · exact h
    · rw [List.getElem?_eq_none (by omega)] at hd
      cases hd
  by_cases hj : j = i
  · subst hj
    rw [List.getElem?_set_self hi] at g2
    rcases g2 with g2 | g2 <;> cases g2
  · rw [List.getElem?_set_ne (Ne.symm hj)] at g2
    exact hj (S.apart j i a ⟨g1, d', g2⟩ ⟨ha, d, .inl hd⟩)
def mTake (i : Nat) : En → R D := fun env => match env[i]? with
  | some (.ow d) => .ok d (env.set i .no)
  | _ => .no
theorem lt_of_get {e : En} {i : Nat} {s : Sl} (h : e[i]? = some s) : i < e.length := by
  by_cases hi : i < e.length
  · exact hi
  · rw [List.getElem?_eq_none (by omega)] at h
    cases h
theorem re_take {i : Nat} {e : Expr} (h : PE X e (tVar i)) : PE X e (tF c W (mTake i)) := h.imp fun σ H Q ⟨env, F, S, q⟩ => by
  unfold mTake at q
  split at q
  · rename_i d z
    obtain ⟨a, o, h1, h2, h3, h4, h5⟩ := S.ow i d z
    refine ⟨_, h1, q _ H F (S.drop (lt_of_get z)) (Same.refl _) ⟨a, o, rfl, h2, h3, h4, fun z => S.rt a z h4, S.drop_own z h1, h5⟩⟩
  · exact q.elim
/-- from here on the own container is kept as it stands -/
def sFz (i : Nat) (m : En → Rs) : En → Rs := fun env => match env[i]? with
  | some (.ow d) => m (env.set i (.fz d))
  | some (.fz _) => m env
  | _ => .no
theorem set_self {σ : L2.St} {i : Nat} {x : Option V} (h : σ[i]? = some x) : σ.set i x = σ := by
  apply List.ext_getElem?
  intro j
  by_cases hj : j = i
  · subst hj
    have : j < σ.length := by
      by_cases hi : j < σ.length
      · exact hi
      · rw [List.getElem?_eq_none (by omega)] at h
        cases h
    rw [List.getElem?_set_self this, h]
  · rw [List.getElem?_set_ne (Ne.symm hj)]
theorem rss_fz {i : Nat} {sts : List Stmt} {m : En → Rs} (h : PSs X sts (tS c W m)) : PSs X sts (tS c W (sFz i m)) := ⟨fun pins s σ H Z I q => by
  obtain ⟨env, F, S, q⟩ := q
  unfold sFz at q
  split at q
  · rename_i d z
    obtain ⟨a, o, h1, h2, h3, h4, h5⟩ := S.ow i d z
    have hi := lt_of_get z
    have S1 := S.drop hi
    have no := S.drop_own z h1
    have fr : free (env.set i .no) i = true := by
      unfold free
      rw [List.getElem?_set_self hi]
    cases hl : lockO d with
    | false =>
      obtain ⟨S2, s2⟩ := S1.freeze h2 h3 h4 no h5
      have S3 := S2.set fr ((h5.mono s2).rep hl upd_same)
      rw [set_self h1, List.set_set] at S3
      exact h.run pins s σ H Z I ⟨_, _, S3, OkS.mono q s2⟩
    | true =>
      obtain ⟨od, I2⟩ := I.lock h2 h5.mut
      obtain ⟨S2, s2⟩ := S1.lock (od := od) h2 h3 h4 no h5 (nslf_of hl)
      have S3 := S2.set fr ((h5.mono s2).repL hl upd_same)
      rw [set_self h1, List.set_set] at S3
      exact h.run pins s σ _ Z I2 ⟨_, _, S3, OkS.mono q s2⟩
  · exact h.run pins s σ H Z I ⟨env, F, S, q⟩
  · exact q.elim⟩
end
end PV

namespace PV
open PySem PySem.Spec PyProof.Rows L2
/-! ### strictly ascending lists -/
def insU (x : Int) : List Int → List Int
  | [] => [x]
  | y :: r => if x < y then x :: y :: r else if x = y then y :: r else y :: insU x r
def srtU : List Int → List Int
  | [] => []
  | x :: r => insU x (srtU r)
theorem insU_mem (x k : Int) : ∀ l : List Int, k ∈ insU x l ↔ k = x ∨ k ∈ l
  | [] => by unfold insU; simp
  | y :: r => by
    unfold insU
    split
    · simp
    · split
      · rename_i h
        subst h
        simp
      · rw [List.mem_cons, insU_mem x k r, List.mem_cons]
        constructor
        · rintro (h | h | h)
          · exact .inr (.inl h)
          · exact .inl h
          · exact .inr (.inr h)
        · rintro (h | h | h)
          · exact .inr (.inl h)
          · exact .inl h
          · exact .inr (.inr h)
theorem insU_srt (x : Int) : ∀ {l : List Int}, l.Pairwise (· < ·) → (insU x l).Pairwise (· < ·)
  | [], _ => by unfold insU; simp
  | y :: r, h => by
    unfold insU
    rw [List.pairwise_cons] at h
    split
    · rename_i hx
      refine List.pairwise_cons.mpr ⟨fun z hz => ?_, List.pairwise_cons.mpr h⟩
      rcases List.mem_cons.mp hz with e | hz
      · rw [e]; exact hx
      · exact Int.lt_trans hx (h.1 z hz)
    · split
      · exact List.pairwise_cons.mpr h
      · rename_i hx hn
        refine List.pairwise_cons.mpr ⟨fun z hz => ?_, insU_srt x h.2⟩
        rcases (insU_mem x z r).mp hz with e | hz
        · rw [e]; omega
        · exact h.1 z hz
theorem srtU_mem (k : Int) : ∀ l : List Int, k ∈ srtU l ↔ k ∈ l
  | [] => by unfold srtU; simp
  | x :: r => by
    unfold srtU
    rw [insU_mem, srtU_mem k r, List.mem_cons]
theorem srtU_srt : ∀ l : List Int, (srtU l).Pairwise (· < ·)
  | [] => by unfold srtU; exact .nil
  | x :: r => by
    unfold srtU
    exact insU_srt x (srtU_srt r)
theorem srt_uniq : ∀ {a b : List Int}, a.Pairwise (· < ·) → b.Pairwise (· < ·) → (∀ k, k ∈ a ↔ k ∈ b) → a = b
  | [], [], _, _, _ => rfl
  | [], y :: s, _, _, h => absurd ((h y).mpr (List.mem_cons_self ..)) (by simp)
  | x :: r, [], _, _, h => absurd ((h x).mp (List.mem_cons_self ..)) (by simp)
  | x :: r, y :: s, ha, hb, h => by
    rw [List.pairwise_cons] at ha hb
    have e : x = y := by
      rcases List.mem_cons.mp ((h x).mp (List.mem_cons_self ..)) with e | e
      · exact e
      · rcases List.mem_cons.mp ((h y).mpr (List.mem_cons_self ..)) with e2 | e2
        · exact e2.symm
        · have h1 := hb.1 x e
          have h2 := ha.1 y e2
          omega
    subst e
    congr 1
    refine srt_uniq ha.2 hb.2 fun k => ?_
    constructor
    · intro hk
      rcases List.mem_cons.mp ((h k).mp (List.mem_cons_of_mem _ hk)) with e | e
      · have := ha.1 k hk
        omega
      · exact e
    · intro hk
      rcases List.mem_cons.mp ((h k).mpr (List.mem_cons_of_mem _ hk)) with e | e
      · have := hb.1 k hk
        omega
      · exact e
theorem srtU_self {l : List Int} : srtU l = l ↔ l.Pairwise (· < ·) := ⟨fun h => h ▸ srtU_srt l, fun h => srt_uniq (srtU_srt l) h (fun k => srtU_mem k l)⟩
/-! ### sorted(set(x)), x a tuple of ints, fewer than 64 -/
section
variable {X : Cx}
def rSetI (K : PySem.W.Frag) (w : World) : List V → Hp → VK → Prop := fun xs H Q => ∃ (p : Addr) (ns : List Int), xs = [.ref p] ∧ SqT K H p (ns.map V.int) ∧ ns.length ≤ 1000 ∧
  ∀ (a : Addr) (n : Nat), H a = none → n ≤ ns.length → Q (.ref a) (upd H a (SetO w a (fun j => decide (j ∈ ns)) n))
theorem cr_setI (hc : X.calm = true) : CallR X (.type "set") (rSetI X.K X.w) := by
  intro pins s σ H xs us Q I r h
  obtain ⟨p, ns, rfl, hq, hl, q⟩ := h
  rw [Vals.ref1 r]
  obtain ⟨its, rv, pt, hz⟩ := I.tuple hq
  have hi : IntsAre its.toArray.toList ns := ints_of_vals rv
  refine call_set_tupI ns (I.ok.hd hc) (show s.heap.IsTuple p its.toArray from pt) hi (by unfold scanBound; omega) fun h' tk n R1 hn k => ?_
  exact ⟨.ref s.heap.objs.size, _, I.laid (t' := tk) k (Nat.le_refl _) (setO_new R1), rfl, q _ n (I.hok.fresh (Nat.le_refl _)) hn⟩
end
section
variable {c : Cn} {W : WX} {X : Cx} {env : En} {σ : L2.St} {H F : Hp}
def oSrtSet : List D → Option D
  | [.tup xs] => (intsD xs).bind fun ns => if ns.length < 64 then some (.lst ((srtU ns).map D.int)) else none
  | _ => none
theorem re_srtSet {e : Expr} {o : Od} {p p2 pos pos2 : Pos} (hK : c.K = X.K) (hc : X.calm = true) (hg : Gl X "sorted") (hm : X.mg "sorted" = none) (hg2 : Gl X "set") (hm2 : X.mg "set" = none) (he : PE X e (o.t c W))
    (h1 : starEach [.Call (.Name "set" p2) [e] [] pos2] X.env = (false, eval (.Call (.Name "set" p2) [e] [] pos2) X.env) :: starEach [] X.env := by rfl) (h2 : starEach [e] X.env = (false, eval e X.env) :: starEach [] X.env := by rfl)
    (hpl : (backTo pos (starEach [] X.env)).any (·.1) = false := by rfl) (hpl2 : (backTo pos2 (starEach [] X.env)).any (·.1) = false := by rfl) :
    PE X (.Call (.Name "sorted" p) [.Call (.Name "set" p2) [e] [] pos2] [] pos) (tF c W (mOp oSrtSet [o])) :=
  (pe_callB (cr_sortedSet hc) hg hm PyProof.Rows.boot_sorted (pa_cons (pe_callTy (cr_setI hc) hg2 hm2 PyProof.Rows.boot_set (pa_cons he pa_nil h2) (by decide) (by decide) h2 hpl2) pa_nil h1) (by decide) (by decide) h1 hpl).imp fun σ H Q q => by
    rw [← hK]
    obtain ⟨env, F, S, q⟩ := q
    show tOds c W [o] σ H fun vs H1 => rSetI c.K X.w vs H1 (fun y H2 => rSortedSet X.w [y] H2 Q)
    refine tOdsA (os := [o]) S q fun ds e vs H1 F1 S1 s1 r1 h1 => ?_
    unfold oSrtSet at h1
    split at h1
    · rename_i d q1
      split at q1
      · rename_i xs
        cases q2 : intsD xs with
        | none =>
          rw [q2] at q1
          cases q1
        | some ns =>
          rw [q2] at q1
          have q3 : (if ns.length < 64 then some (D.lst ((srtU ns).map D.int)) else none) = some d := q1
          split at q3
          · rename_i hl
            cases q3
            obtain ⟨x, rfl, h2⟩ := r1.one
            obtain ⟨a, vs, rfl, h3, h4, h5⟩ := h2.tup_ S1.wf
            rw [h5.ints q2] at h3
            refine ⟨a, ns, rfl, h3, by omega, fun b n nb hn => ?_⟩
            refine ⟨b, _, n, rfl, upd_same, by omega, fun ms p hp hm hn2 np => ?_⟩
            have e : ms = srtU ns := srt_uniq hp (srtU_srt ns) fun k => by rw [hm k, srtU_mem]; simp
            subst e
            have S2 := S1.fresh (o := SetO X.w b (fun j => decide (j ∈ ns)) n) nb rfl
            exact h1 _ _ F1 (S2.fresh np rfl) (Same.refl _) (S2.newF np (.lst (Reps.ofInts _)))
          · cases q3
      · cases q1
    · exact h1.elim
/-! ### comprehensions kept as they are, on one line -/
theorem tE_tF {m : En → R D} {Q : VK} (hl : ∀ env d e, m env = .ok d e → lockO d = false) (q : tE c W m σ H Q) : tF c W m σ H Q := by
  obtain ⟨env, F, S, q⟩ := q
  refine ⟨env, F, S, ?_⟩
  cases z : m env with
  | ok d e1 =>
    rw [z] at q
    intro v H1 F1 S1 s1 ⟨a, o, ev, h1, h2, h3, _, h4, h5⟩
    subst ev
    obtain ⟨S2, s2⟩ := S1.freeze h1 h2 h3 h4 h5
    exact q _ H1 _ S2 (s1.trans s2) ((h5.mono s2).rep (hl _ _ _ z) upd_same)
  | er x e1 =>
    rw [z] at q
    exact q
  | no =>
    rw [z] at q
    exact q
theorem mLc_lst {mi : En → R (List D)} {T : Tg} {t : En → R Bool} {m : En → R D} {vs : List Nat} (env : En) (d : D) (e : En) (h : mLc mi T t m vs env = .ok d e) : lockO d = false := by
  unfold mLc at h
  cases z : mi env with
  | ok ds e1 =>
    rw [z] at h
    have h' : (if ds.length ≤ lim then (lcL T t m vs ds (wipeE e1 vs)).bind fun ys e' => R.ok (D.lst ys) (backE e1 e' vs) else .no) = .ok d e := h
    split at h'
    · cases z2 : lcL T t m vs ds (wipeE e1 vs) with
      | ok ys e2 =>
        rw [z2] at h'
        cases h'
        rfl
      | er x e2 =>
        rw [z2] at h'
        cases h'
      | no =>
        rw [z2] at h'
        cases h'
    · cases h'
  | er x e1 =>
    rw [z] at h
    cases h
  | no =>
    rw [z] at h
    cases h
theorem rs_lcZ {i : Nat} {y : Str} {py : Pos} {elt tg iter : Expr} {ifs : List Expr} {scope : Scope} {pos spos : Pos} {mi : En → R (List PV.D)} {T : Tg} {t : En → R Bool} {m : En → R PV.D} {own : List (Str × Nat)} (hc : X.calm = true) (hN : X.N.Nodup) (hy : X.N[i]? = some y) (hyl : X.env.scope.names.lookup y = some .local)
    (hsw : swapsWith (.ListComp elt [⟨tg, iter, ifs, 0⟩] scope pos) (some (.Name y py)) spos.line X.env = pure true) (ok : BlkOk X.N X.env.scope scope own) (hT : okT (own.map (·.2)) T = true) (hi : PI X tg iter (tI c W mi))
    (hg : ∀ (s : Shared) (H : Hp) (C : Addr) (cl : List (Str × Addr)) (fp : List Addr), PG (X.blk s H scope (compEnvC scope cl C X.env) fp) tg (tGx c T)) (ht : ∀ (s : Shared) (H : Hp) (C : Addr) (cl : List (Str × Addr)) (fp : List Addr), PTs (X.blk s H scope (compEnvC scope cl C X.env) fp) ifs (tTx c t))
    (he : ∀ (s : Shared) (H : Hp) (C : Addr) (cl : List (Str × Addr)) (fp : List Addr), PE (X.blk s H scope (compEnvC scope cl C X.env) fp) elt (tEx c m)) (hs : ∀ x, foldedSetIterable iter X.env x = pure x := by intro _; rfl) :
    PS X (.Assign [.Name y py] (.ListComp elt [⟨tg, iter, ifs, 0⟩] scope pos) spos) (tS c W (sSet i (mLc mi T t m (own.map (·.2))))) := (ps_setLc hc hN hy hyl hsw hi ok hg ht he hs).imp fun Z σ H q =>
  lc_ok hT (tE_tF mLc_lst (set_ok q))
end
end PV

namespace PV
open PySem PySem.Spec PyProof.Rows L2
/-! ### dicts by data -/
def keyD : D → Option Key
  | .int i => some (.inl i)
  | .str s => some (.inr s)
  | _ => none
def dKey : Key → D
  | .inl i => .int i
  | .inr s => .str s
def valD (kvs : List (Key × D)) (k : Key) : Option D := match kvs with
  | [] => none
  | (j, d) :: r => if j = k then some d else valD r k
def hasD (kvs : List (Key × D)) (k : Key) : Bool := (valD kvs k).isSome
def putD (kvs : List (Key × D)) (k : Key) (d : D) : List (Key × D) := if (valD kvs k).isSome = true then kvs.map (fun kv => if kv.1 = k then (kv.1, d) else kv) else kvs ++ [(k, d)]
section
variable {g : Gc} {F H : Hp}
theorem RepK.val (k : Key) : ∀ {kvs : List (Key × D)} {vs : List (Key × V)}, RepK g F kvs vs → (∀ d, valD kvs k = some d → ∃ v, valV vs k = some v ∧ Rep g F d v) ∧ (valD kvs k = none → valV vs k = none)
  | _, _, .nil => ⟨fun d e => (by unfold valD at e; cases e), fun _ => rfl⟩
  | _, _, @RepK.cons _ _ j x xs v vs h t => by
    obtain ⟨h1, h2⟩ := RepK.val k t
    by_cases e : j = k
    · refine ⟨fun d z => ?_, fun z => ?_⟩
      · unfold valD at z
        rw [if_pos e] at z
        cases z
        exact ⟨v, valV_pos e, h⟩
      · unfold valD at z
        rw [if_pos e] at z
        cases z
    · refine ⟨fun d z => ?_, fun z => ?_⟩
      · unfold valD at z
        rw [if_neg e] at z
        rw [valV_neg (p := (j, v)) e]
        exact h1 d z
      · unfold valD at z
        rw [if_neg e] at z
        rw [valV_neg (p := (j, v)) e]
        exact h2 z
theorem RepK.some_eq {k : Key} {kvs : List (Key × D)} {vs : List (Key × V)} (r : RepK g F kvs vs) : (valV vs k).isSome = (valD kvs k).isSome := by
  obtain ⟨h1, h2⟩ := r.val k
  cases q : valD kvs k with
  | none =>
    rw [h2 q]
    rfl
  | some d =>
    obtain ⟨v, e, _⟩ := h1 d q
    rw [e]
    rfl
theorem RepK.put {k : Key} {d : D} {v : V} (rv : Rep g F d v) {kvs : List (Key × D)} {vs : List (Key × V)} (r : RepK g F kvs vs) : RepK g F (putD kvs k d) (putK vs k v) := by
  have mp : ∀ {kvs : List (Key × D)} {vs : List (Key × V)}, RepK g F kvs vs → RepK g F (kvs.map fun kv => if kv.1 = k then (kv.1, d) else kv) (vs.map fun kv => if kv.1 = k then (kv.1, v) else kv) := by
    intro kvs
    induction kvs with
    | nil =>
      intro vs r
      cases r
      exact .nil
    | cons p kvs ih =>
      intro vs r
      cases r with
      | @cons j x _ u us h t =>
        rw [List.map_cons, List.map_cons]
        by_cases e : j = k
        · rw [if_pos e, if_pos e]
          exact .cons rv (ih t)
        · rw [if_neg e, if_neg e]
          exact .cons h (ih t)
  have ap : ∀ {kvs : List (Key × D)} {vs : List (Key × V)}, RepK g F kvs vs → RepK g F (kvs ++ [(k, d)]) (vs ++ [(k, v)]) := by
    intro kvs
    induction kvs with
    | nil =>
      intro vs r
      cases r
      exact .cons rv .nil
    | cons p kvs ih =>
      intro vs r
      cases r with
      | cons h t => exact .cons h (ih t)
  unfold putD putK
  rw [valV_any, r.some_eq]
  split
  · exact mp r
  · exact ap r
theorem keyD_ok {d : D} {k : Key} {v : V} (e : keyD d = some k) (h : Rep1 g F H d v) : v = kV k := by
  unfold keyD at e
  split at e
  · cases e
    rw [h.int_]
    rfl
  · cases e
    rw [h.str_]
    rfl
  · cases e
theorem dKey_ok {k : Key} : Rep g F (dKey k) (kV k) := by
  cases k with
  | inl i => exact .int
  | inr s => exact .str
end
/-! ### x[k] of all kinds -/
def oDIx : List D → Option D
  | [.dik kvs, k] => (keyD k).bind (valD kvs)
  | _ => none
def oIxx : List D → Option D
  | [.dik kvs, k] => (keyD k).bind (valD kvs)
  | ds => oIx ds
section
variable {c : Cn} {W : WX} {X : Cx} {env : En} {σ : L2.St} {H F : Hp}
theorem re_ixx {a b : Expr} {o1 o2 : Od} {pos : Pos} (hK : c.K = X.K) (hu : X.A.units + 64 < cLine) (ha : PE X a (o1.t c W)) (hb : PE X b (o2.t c W)) (hs : PlainIx b) (hs2 : NoSl b) : PE X (.Subscript a b pos) (tE c W (mOp oIxx [o1, o2])) :=
  ((pe_dget (by omega) ha hb hs2).or (pe_ix ix_seq ha hb hs)).imp fun σ H Q q => by
    have q := mOp_or (f1 := oDIx) (f2 := oIx) (fun ds => by
      unfold oIxx
      split
      · exact .inl rfl
      · exact .inr rfl) q
    rcases q with q | q
    · refine .inl (tOp_ok (os := [o1, o2]) (r := r2 fun x y H2 Q => ∃ a v, x = .ref a ∧ DGet H2 a y (some v) ∧ Q v H2) (fun ds vs d F H Q w R e k => ?_) q)
      unfold oDIx at e
      split at e
      · rename_i kvs kd
        obtain ⟨x, y, rfl, h1, h2⟩ := R.two
        cases q1 : keyD kd with
        | none =>
          rw [q1] at e
          cases e
        | some ky =>
          rw [q1] at e
          obtain ⟨a, vs, rfl, h3, h4⟩ := h1.dik_ w
          obtain ⟨v, h5, h6⟩ := (h4.val ky).1 d e
          exact ⟨a, v, rfl, .inl ⟨vs, ky, h3, keyD_ok q1 h2, h5.symm⟩, k v H F (Go.refl w) h6⟩
      · cases e
    · exact .inr (tOp_ok (r := r2 (rIx X.K)) (by rw [← hK]; exact oa_ix) q)
/-! ### in -/
def rDIn (neg : Bool) : R2 := fun y x H Q => ∃ a o, x = .ref a ∧ DGet H a y o ∧ Q (.bl (if neg then !o.isSome else o.isSome)) H
theorem or_din (hu : X.A.units + 64 < cLine) : OpR X (compareOp .In) (rDIn false) := by
  intro pins s σ H y x u v Q I ry rx h
  obtain ⟨a, o, rfl, g, q⟩ := h
  cases rx
  exact d_in (by omega) I g ry fun s3 I3 => ⟨.bl o.isSome, H, I3, rfl, q⟩
theorem or_dnotin (hu : X.A.units + 64 < cLine) : OpR X (compareOp .NotIn) (rDIn true) := by
  intro pins s σ H y x u v Q I ry rx h
  obtain ⟨a, o, rfl, g, q⟩ := h
  cases rx
  exact d_notIn (by omega) I g ry fun s3 I3 => ⟨.bl (!o.isSome), H, I3, rfl, q⟩
def rInX (K : PySem.W.Frag) (neg : Bool) : R2 := fun x y H Q => rIn K neg x y H Q ∨ rDIn neg x y H Q
def inX (neg : Bool) : List D → Option D
  | [k, .dik kvs] => (keyD k).map fun k => .bl (if neg then !(valD kvs k).isSome else (valD kvs k).isSome)
  | ds => inD neg ds
theorem oa_inX {g : Gc} (neg : Bool) : OpA g (r2 (rInX g.K neg)) (inX neg) := fun ds vs d F H Q w R e k => by
  unfold inX at e
  split at e
  · rename_i kd kvs
    obtain ⟨x, y, rfl, h1, h2⟩ := R.two
    cases q1 : keyD kd with
    | none =>
      rw [q1] at e
      cases e
    | some ky =>
      rw [q1] at e
      cases e
      obtain ⟨a, vs, rfl, h3, h4⟩ := h2.dik_ w
      refine .inr ⟨a, valV vs ky, rfl, .inl ⟨vs, ky, h3, keyD_ok q1 h1, rfl⟩, ?_⟩
      rw [h4.some_eq]
      exact k _ H F (Go.refl w) .bl
  · have h := oa_in (g := g) neg ds vs d F H Q w R e k
    match vs, h with
    | [x, y], h => exact .inl h
/-! ### d.get(k, x) -/
def mGet (o : Od) (ms : List (En → R D)) (f : List (Key × D) → List D → Option D) : En → R D := fun env => match o with
  | .m h => (h env).bind fun d e => (match d with
    | .dik kvs => (evS ms e).bind fun ds e' => (match f kvs ds with
        | some y => .ok y e'
        | none => .no)
    | _ => .no)
  | .s i => match val env i with
    | some (.dik _) => (evS ms env).bind fun ds e' => (match val e' i with
      | some (.dik kvs) => (match f kvs ds with
        | some y => .ok y e'
        | none => .no)
      | _ => .no)
    | _ => .no
theorem get_ok {o : Od} {ms : List (En → R D)} {f : List (Key × D) → List D → Option D} {r : Addr → List V → Hp → VK → Prop}
    (hr : ∀ {F H : Hp} {a : Addr} {kvs : List (Key × D)} {vs : List (Key × V)} {ds : List D} {ys : List V} {y : D} {Q : VK}, WF c.toGc F H → Rd H a (.dK vs) → RepK c.toGc F kvs vs → Reps c.toGc F ds ys → f kvs ds = some y →
      (∀ v, Rep c.toGc F y v → Q v H) → r a ys H Q)
    {Q : VK} (q : tE c W (mGet o ms f) σ H Q) : o.t c W σ H fun x H1 => ∃ a, x = .ref a ∧ IsD H1 a ∧ tMs c W ms σ H1 fun ys H2 => r a ys H2 Q := by
  obtain ⟨env, F, S, q⟩ := q
  unfold mGet at q
  cases o with
  | m h =>
    refine tM_bind S q fun d e v H1 F1 S1 s1 r1 h1 => ?_
    split at h1
    · rename_i kvs
      cases r1 with
      | @dik a od _ vs ha rk =>
        refine ⟨a, rfl, .inl ⟨vs, .inr ⟨od, S1.wf.sub _ _ ha⟩⟩, ?_⟩
        refine tMsA ms S1 h1 fun ds e' ys H2 F2 S2 s2 r2 hl h2 => ?_
        split at h2
        · rename_i y hy
          exact hr S2.wf (.inr ⟨od, S2.wf.sub _ _ (s2 _ _ ha)⟩) (rk.mono s2) r2 hy fun v rv => h2 v H2 F2 S2 (Same.refl _) rv
        · exact h2.elim
    · exact h1.elim
  | s i =>
    have q : Okp c W σ F (rlE c) Q (match val env i with
    | some (.dik _) => (evS ms env).bind fun ds e' => (match val e' i with
      | some (.dik kvs) => (match f kvs ds with
        | some y => .ok y e'
        | none => .no)
      | _ => .no)
    | _ => .no) := q
    split at q
    · rename_i kvs0 hv
      obtain ⟨v, g1, g2⟩ := S.val hv
      obtain ⟨a, vs0, rfl, g3, _⟩ := g2.dik_ S.wf
      refine ⟨_, g1, a, rfl, .inl ⟨vs0, g3⟩, ?_⟩
      refine tMsA ms S q fun ds e' ys H2 F2 S2 s2 r2 hl h2 => ?_
      split at h2
      · rename_i kvs hv2
        split at h2
        · rename_i y hy
          obtain ⟨v2, k1, k2⟩ := S2.val hv2
          obtain ⟨b, vs, rfl, k3, k4⟩ := k2.dik_ S2.wf
          rw [g1] at k1
          cases k1
          exact hr S2.wf k3 k4 r2 hy fun v rv => h2 v H2 F2 S2 (Same.refl _) rv
        · exact h2.elim
      · exact h2.elim
    · exact q.elim
def fGet2 (kvs : List (Key × D)) : List D → Option D
  | [k, x] => (keyD k).map fun k => (valD kvs k).getD x
  | _ => none
def fGet1 (kvs : List (Key × D)) : List D → Option D
  | [k] => (keyD k).map fun k => (valD kvs k).getD .non
  | _ => none
theorem valD_get {g : Gc} {F : Hp} {kvs : List (Key × D)} {vs : List (Key × V)} {k : Key} {x : D} {y : V} (r : RepK g F kvs vs) (rx : Rep g F x y) : Rep g F ((valD kvs k).getD x) ((valV vs k).getD y) := by
  obtain ⟨h1, h2⟩ := r.val k
  cases q : valD kvs k with
  | none =>
    rw [h2 q]
    exact rx
  | some d =>
    obtain ⟨v, e, rv⟩ := h1 d q
    rw [e]
    exact rv
theorem re_get2 {o e f : Expr} {od : Od} {m1 m2 : En → R D} {apos cpos : Pos} (hu : X.A.units + 64 < cLine) (ho : PE X o (od.t c W)) (he : PE X e (tE c W m1)) (hf : PE X f (tE c W m2)) (m : M2 X o "get" apos e f cpos := by exact ⟨rfl, rfl, rfl, rfl⟩) :
    PE X (.Call (.Attribute o "get" apos) [e, f] [] cpos) (tE c W (mGet od [m1, m2] fGet2)) := (pe_dget2 (by omega) ho he hf m).imp fun σ H Q q =>
  get_ok (r := fun a ys H2 Q => match ys with
    | [y, z] => ∃ o, DGet H2 a y o ∧ Q (o.getD z) H2
    | _ => False) (fun {F H a kvs vs ds ys y Q} w h1 h2 h3 h4 k => by
    unfold fGet2 at h4
    split at h4
    · rename_i kd x
      cases q1 : keyD kd with
      | none =>
        rw [q1] at h4
        cases h4
      | some ky =>
        rw [q1] at h4
        cases h4
        match ys, h3 with
        | [u, z], .cons r1 (.cons r2 .nil) => exact ⟨valV vs ky, .inl ⟨vs, ky, h1, keyD_ok q1 (.st r1 : Rep1 _ F H _ _), rfl⟩, k _ (valD_get h2 r2)⟩
    · cases h4) q
theorem re_get1 {o e : Expr} {od : Od} {m1 : En → R D} {apos cpos : Pos} (hu : X.A.units + 64 < cLine) (ho : PE X o (od.t c W)) (he : PE X e (tE c W m1)) (m : M1 X o "get" apos e cpos := by exact ⟨rfl, rfl, rfl, rfl⟩) :
    PE X (.Call (.Attribute o "get" apos) [e] [] cpos) (tE c W (mGet od [m1] fGet1)) := (pe_dget1 (by omega) ho he m).imp fun σ H Q q =>
  get_ok (r := fun a ys H2 Q => match ys with
    | [y] => ∃ o, DGet H2 a y o ∧ Q (o.getD .non) H2
    | _ => False) (fun {F H a kvs vs ds ys y Q} w h1 h2 h3 h4 k => by
    unfold fGet1 at h4
    split at h4
    · rename_i kd
      cases q1 : keyD kd with
      | none =>
        rw [q1] at h4
        cases h4
      | some ky =>
        rw [q1] at h4
        cases h4
        match ys, h3 with
        | [u], .cons r1 .nil => exact ⟨valV vs ky, .inl ⟨vs, ky, h1, keyD_ok q1 (.st r1 : Rep1 _ F H _ _), rfl⟩, k _ (valD_get h2 .non)⟩
    · cases h4) q
/-! ### {} -/
theorem re_dnew {pos : Pos} : PE X (.Dict [] [] pos) (tF c W (mK (.dik []))) := pe_dnewK.imp fun σ H Q ⟨env, F, S, q⟩ => fun p n => q _ _ F (S.fresh n rfl) (Same.refl _) (S.newF n (.dik .nil))
theorem re_dnewT {pos : Pos} : PE X (.Dict [] [] pos) (tF c W (mK (.dit []))) := pe_dnewT.imp fun σ H Q ⟨env, F, S, q⟩ => fun p n => q _ _ F (S.fresh n rfl) (Same.refl _) (S.newF n (.dit .nil))
/-! ### x[k] = e, x an own list or dict -/
def kSub (x k d : D) : Option D := match x with
  | .lst xs => (kSetIx xs k d).map .lst
  | .dik kvs => if kvs.length < lim then (keyD k).map fun k => .dik (putD kvs k d) else none
  | _ => none
def sSub (i : Nat) (mk me : En → R D) : En → Rs := fun env => (me env).bs fun d e => match val e i with
  | none => .no
  | some _ => (mk e).bs fun k e' => match ownV e' i with
    | some x => (match kSub x k d with
      | some y => .nx (setV e' i y)
      | none => .no)
    | none => .no
/-- .. a dict -/
def sSubD (i : Nat) (mk me : En → R D) : En → Rs := fun env => (me env).bs fun d e => match val e i with
  | none => .no
  | some _ => (mk e).bs fun k e' => match ownV e' i with
    | some (.dik kvs) => (match kSub (.dik kvs) k d with
      | some y => .nx (setV e' i y)
      | none => .no)
    | _ => .no
theorem subD_ok {Z : Ends} {i : Nat} {mk me : En → R D} (q : tS c W (sSubD i mk me) Z σ H) : sDPut (tVar i) (tE c W mk) (tE c W me) Z σ H := by
  obtain ⟨env, F, S, q⟩ := q
  refine tM_bs S q fun d e v H1 F1 S1 s1 r1 h1 => ?_
  split at h1
  · exact h1.elim
  · rename_i d' hv
    obtain ⟨u, g1, _⟩ := S1.val hv
    refine ⟨u, g1, ?_⟩
    refine tM_bs S1 h1 fun k e2 y H2 F2 S2 s2 r2 h2 => ?_
    split at h2
    · rename_i kvs z
      obtain ⟨a, o, ow, k1, k2, k3, k4⟩ := S2.own_at z
      have ev : u = .ref a := by
        have e1 := ow.1
        rw [g1] at e1
        cases e1
        rfl
      subst ev
      have k3' := k3
      cases k3 with
      | @dik _ vs rx =>
        split at h2
        · rename_i ys hk
          unfold kSub at hk
          have hk' : (if kvs.length < lim then (keyD k).map fun k => D.dik (putD kvs k d) else none) = some ys := hk
          split at hk'
          · rename_i hl
            cases q1 : keyD k with
            | none =>
              rw [q1] at hk'
              cases hk'
            | some ky =>
              rw [q1] at hk'
              cases hk'
              exact ⟨a, _, rfl, .inl ⟨vs, ky, k1, keyD_ok q1 (.st r2 : Rep1 _ F2 H2 _ _), lim_lt (by rw [← rx.length]; exact hl), rfl⟩, h2 σ _ F2 (S2.wr z ow k1 k2 k3' (.dik (rx.put (r1.mono s2)))) (Same.refl _)⟩
          · cases hk'
        · exact h2.elim
    · exact h2.elim
theorem sub_or {i : Nat} {mk me : En → R D} (env : En) : sSub i mk me env = sSetIx i mk me env ∨ sSub i mk me env = sSubD i mk me env := by
  unfold sSub sSetIx sSubD
  cases me env with
  | ok d e =>
    show (match val e i with | none => Rs.no | some _ => _) = (match val e i with | none => Rs.no | some _ => _) ∨ (match val e i with | none => Rs.no | some _ => _) = (match val e i with | none => Rs.no | some _ => _)
    cases val e i with
    | none => exact .inl rfl
    | some _ =>
      cases mk e with
      | ok k e' =>
        show (match ownV e' i with | some x => _ | none => Rs.no) = (match ownV e' i with | some (.lst xs) => _ | _ => Rs.no) ∨ (match ownV e' i with | some x => _ | none => Rs.no) = (match ownV e' i with | some (.dik xs) => _ | _ => Rs.no)
        cases ownV e' i with
        | none => exact .inl rfl
        | some x =>
          cases x with
          | lst xs =>
            refine .inl ?_
            unfold kSub
            show (match (kSetIx xs k d).map D.lst with | some y => Rs.nx (setV e' i y) | none => Rs.no) = (match kSetIx xs k d with | some ys => Rs.nx (setV e' i (D.lst ys)) | none => Rs.no)
            cases kSetIx xs k d <;> rfl
          | dik kvs => exact .inr rfl
          | _ => exact .inl rfl
      | er x e => exact .inl rfl
      | no => exact .inl rfl
  | er x e => exact .inl rfl
  | no => exact .inl rfl
theorem rs_sub {i : Nat} {a e idx : Expr} {mk me : En → R D} {pos pos' : Pos} (hu : X.A.units + 64 < cLine) (ho : PE X a (tVar i)) (hi : PE X idx (tE c W mk)) (he : PE X e (tE c W me))
    (ha : ∀ v, assign (.Subscript a idx pos') X.env v = (do
      let ov ← holding [v] (eval a X.env)
      let iv ← holding [v, ov] (eval idx X.env)
      standAt pos'
      holding [v, ov, iv] (setItem ov iv v)
      release [v, ov, iv] []) := by intro _; rfl)
    (hs : swapsWithSole [.Subscript a idx pos'] e pos.line X.env = pure false := by rfl) (hw : swappedStores [.Subscript a idx pos'] e X.env = pure none := by rfl)
    (h1 : (assignEach [.Subscript a idx pos'] X.env).map (·.2) = [assign (.Subscript a idx pos') X.env] := by rfl) (hs2 : swapsWith e (some (.Subscript a idx pos')) pos.line X.env = pure false := by rfl) : PS X (.Assign [.Subscript a idx pos'] e pos) (tS c W (sSub i mk me)) :=
  ((rs_setIx (c := c) (W := W) ho hi he ha hs hw h1).or (ps_dput (by omega) ho hi he hs2)).imp fun Z σ H ⟨env, F, S, q⟩ => by
    rcases sub_or (i := i) (mk := mk) (me := me) env with h | h
    · rw [h] at q
      exact .inl ⟨env, F, S, q⟩
    · rw [h] at q
      exact .inr (subD_ok ⟨env, F, S, q⟩)
end
end PV

namespace PV
open PySem PySem.Spec PyProof.Rows L2
section
variable {c : Cn} {W : WX} {X : Cx} {env : En} {σ : L2.St} {H F : Hp}
/-! ### what is walked: a list, a tuple, a kept dict, a text -/
def itD : D → Option (List D)
  | .dik kvs => some (kvs.map fun kv => dKey kv.1)
  | .str z => if z.length ≤ lim then some (z.cps.toList.map fun ch => .str ⟨#[ch]⟩) else none
  | d => seqD d
def iAny (m : En → R D) : En → R (List D) := fun env => (m env).bind fun d e => match itD d with
  | some xs => .ok xs e
  | none => .no
theorem RepK.get {g : Gc} {F : Hp} : ∀ {kvs : List (Key × D)} {vs : List (Key × V)} {i : Nat} {k : Key} {d : D}, RepK g F kvs vs → kvs[i]? = some (k, d) → ∃ v, vs[i]? = some (k, v) ∧ Rep g F d v
  | _, _, _, _, _, .nil, e => by simp at e
  | _, _, 0, _, _, .cons h t, e => by
    cases Option.some.inj e
    exact ⟨_, rfl, h⟩
  | _, _, i + 1, _, _, .cons h t, e => RepK.get (i := i) t e
theorem itS_keys {g : Gc} {F : Hp} {a : Addr} {o : Obj} {kvs : List (Key × D)} {vs : List (Key × V)} (h : F a = some (.frz o (.dK vs))) (r : RepK g F kvs vs) : ItS g F (Itk a o vs) (kvs.map fun kv => dKey kv.1) := by
  refine ⟨fun i d F' H' e s w => ?_, fun F' H' s w => ⟨w.sub _ _ (s _ _ h), by rw [List.length_map, r.length]; exact Nat.le_refl _⟩⟩
  rw [List.getElem?_map] at e
  cases q : kvs[i]? with
  | none =>
    rw [q] at e
    cases e
  | some kv =>
    obtain ⟨k, x⟩ := kv
    rw [q] at e
    cases e
    obtain ⟨v, hv, rv⟩ := r.get q
    refine ⟨⟨w.sub _ _ (s _ _ h), (List.getElem?_eq_some_iff.mp hv).1⟩, fun x H'' y => ?_⟩
    obtain ⟨e1, k2, v2, e2, e3⟩ := y
    subst e1 e3
    rw [hv] at e2
    cases e2
    exact ⟨F', Go.refl w, dKey_ok⟩
theorem itS_str {g : Gc} {F : Hp} {z : Str} : ItS g F (Its z) (z.cps.toList.map fun ch => .str ⟨#[ch]⟩) := by
  refine ⟨fun i d F' H' e s w => ?_, fun F' H' s w => ?_⟩
  · rw [List.getElem?_map, Array.getElem?_toList] at e
    cases q : z.cps[i]? with
    | none =>
      rw [q] at e
      cases e
    | some ch =>
      rw [q] at e
      cases e
      refine ⟨(Array.getElem?_eq_some_iff.mp q).1, fun x H'' ⟨e1, c2, e2, e3⟩ => ?_⟩
      subst e1 e3
      rw [q] at e2
      cases e2
      exact ⟨F', Go.refl w, .str⟩
  · show z.cps.size ≤ _
    simp
theorem any_ok {m : En → R D} (hK : c.K = X.K) {Q : It → Hp → Prop} (q : tI c W (iAny m) σ H Q) : ((iList X.K (tE c W m) σ H Q ∨ iTup X.K (tE c W m) σ H Q) ∨ iKeys (tE c W m) σ H Q) ∨ iStr (tE c W m) σ H Q := by
  obtain ⟨env, F, S, q⟩ := q
  cases z : m env with
  | ok d e1 =>
    have q' : Okp c W σ F (rlI c) Q (match itD d with | some xs => .ok xs e1 | none => .no) := by
      unfold iAny at q
      rw [z] at q
      exact q
    cases d with
    | dik kvs =>
      refine .inl (.inr ⟨env, F, S, ?_⟩)
      rw [z]
      intro v H1 F1 S1 s1 rv
      cases rv with
      | @dik a o _ vs h r =>
        exact ⟨a, o, rfl, .inl ⟨vs, S1.wf.sub _ _ h, q' _ H1 F1 S1 s1 (itS_keys h r)⟩⟩
    | str x =>
      refine .inr ⟨env, F, S, ?_⟩
      rw [z]
      intro v H1 F1 S1 s1 rv
      cases rv
      have q2 : Okp c W σ F (rlI c) Q (match (if x.length ≤ lim then some (x.cps.toList.map fun ch => D.str ⟨#[ch]⟩) else none) with | some xs => .ok xs e1 | none => .no) := q'
      split at q2
      · rename_i xs hx
        split at hx
        · cases hx
          exact ⟨x, rfl, q2 _ H1 F1 S1 s1 itS_str⟩
        · cases hx
      · exact q2.elim
    | _ =>
      refine .inl (.inl (seq_ok (c := c) (W := W) hK ⟨env, F, S, ?_⟩))
      unfold iSeq
      rw [z]
      exact q'
  | er x e1 =>
    refine .inl (.inl (seq_ok (c := c) (W := W) hK ⟨env, F, S, ?_⟩))
    unfold iSeq
    unfold iAny at q
    rw [z] at q ⊢
    exact q
  | no =>
    unfold iAny at q
    rw [z] at q
    exact q.elim
theorem ri_any {tg e : Expr} {m : En → R D} (hK : c.K = X.K) (he : PE X e (tE c W m)) : PI X tg e (tI c W (iAny m)) := ((((pi_list he).or (pi_tup he)).or (pi_keys he)).or (pi_str he)).imp fun σ H Q q => any_ok hK q
end
end PV

namespace PV
open PySem PySem.Spec PyProof.Rows L2
theorem tk0 {X : Cx} : Takes X W0 := fun u s' ⟨_, _, _, _, _, _, _, _, _, _, _, _, _, _, _, _, w⟩ => w.elim
/-! ### names of built-ins -/
theorem bt_len : bootBuiltins "len" = some (.builtin "len") := by decide +kernel
theorem bt_sum : bootBuiltins "sum" = some (.builtin "sum") := by decide +kernel
theorem bt_all : bootBuiltins "all" = some (.builtin "all") := by decide +kernel
theorem bt_any : bootBuiltins "any" = some (.builtin "any") := by decide +kernel
theorem bt_abs : bootBuiltins "abs" = some (.builtin "abs") := by decide +kernel
theorem bt_max : bootBuiltins "max" = some (.builtin "max") := by decide +kernel
theorem bt_min : bootBuiltins "min" = some (.builtin "min") := by decide +kernel
theorem bt_sorted : bootBuiltins "sorted" = some (.builtin "sorted") := by decide +kernel
theorem bt_isinstance : bootBuiltins "isinstance" = some (.builtin "isinstance") := by decide +kernel
theorem bt_int : bootBuiltins "int" = some (.type "int") := by decide +kernel
theorem bt_bool : bootBuiltins "bool" = some (.type "bool") := by decide +kernel
theorem bt_str : bootBuiltins "str" = some (.type "str") := by decide +kernel
theorem bt_tuple : bootBuiltins "tuple" = some (.type "tuple") := by decide +kernel
theorem bt_list : bootBuiltins "list" = some (.type "list") := by decide +kernel
theorem bt_dict : bootBuiltins "dict" = some (.type "dict") := by decide +kernel
section
variable {c : Cn} {W : WX} {X : Cx} {env : En} {σ : L2.St} {H F : Hp}
theorem op_inX (hu : X.A.units + 64 < cLine) : OpR X (compareOp .In) (rInX X.K false) := op_in_seq.or (or_din hu)
theorem op_notinX (hu : X.A.units + 64 < cLine) : OpR X (compareOp .NotIn) (rInX X.K true) := op_notIn_seq.or (or_dnotin hu)
/-! ### in place -/
abbrev oAddI : List D → Option D := o2I (fun _ _ => true) fun i j => .int (i + j)
theorem oa_addI {g : Gc} : OpA g (r2 (rI0 fun i j => .int (i + j))) oAddI := oa_rI0 fun _ _ _ => .int
/-- a + b, a * b: a new list -/
theorem re_opF {op : Operator} {r : R2} {f : List D → Option D} {a b : Expr} {o1 o2 : Od} {pos : Pos} (ho : OpR X (binaryOp op) r) (hf : OpF c.toGc (r2 r) f) (ha : PE X a (o1.t c W)) (hb : PE X b (o2.t c W)) : PE X (.BinOp a op b pos) (tF c W (mOp f [o1, o2])) :=
  (pe_op ho ha hb).imp fun _ _ _ q => tOpF_ok hf q
theorem cx_no {P : Program} {w : World} {H : Hp} {s : Shared} {e : Value} {s' : Shared} (h : L2.CX P w [] H s (fun _ _ _ => False) e s') : False := by
  obtain ⟨_, _, _, _, _, _, _, _, _, _, _, _, q⟩ := h
  exact q
end
end PV

namespace PV
open PySem PySem.Spec PyProof.Rows L2
section
variable {c : Cn} {W : WX} {X : Cx} {env : En} {σ : L2.St} {H F : Hp}
/-! ### several values at once, kept or new, into names (no swapped stores) -/
def RO (c : Cn) (e : En) (σ : L2.St) (F H : Hp) : Oe → D → V → Prop
  | .st _, d, v => Rep c.toGc F d v
  | .fr _, d, v => rlF c e σ F H d v
def noFr (v : V) : List Oe → List V → Prop
  | .fr _ :: os, w :: vs => w ≠ v ∧ noFr v os vs
  | .st _ :: os, _ :: vs => noFr v os vs
  | _, _ => True
inductive ROs (c : Cn) (e : En) (σ : L2.St) (F H : Hp) : List Oe → List D → List V → Prop
  | nil : ROs c e σ F H [] [] []
  | cons {o os d ds v vs} : RO c e σ F H o d v → ROs c e σ F H os ds vs → (∀ m, o = .fr m → noFr v os vs) → ROs c e σ F H (o :: os) (d :: ds) (v :: vs)
def evOe : List Oe → En → R (List D)
  | [], e => .ok [] e
  | o :: r, e => (o.ev e).bind fun d e1 => (evOe r e1).bind fun ds e2 => .ok (d :: ds) e2
def tOesK (c : Cn) (W : WX) : List Oe → TA
  | [] => tNil
  | o :: r => tCons (o.tk c W) (tOesK c W r)
theorem tOesK_kp (c : Cn) (W : WX) (H0 : Hp) : ∀ os : List Oe, tOesK (c.kp H0) W os = tOesK c W os
  | [] => rfl
  | o :: r => by
    show tCons (o.tk (c.kp H0) W) (tOesK (c.kp H0) W r) = _
    rw [tOesK_kp c W H0 r]
    rfl
theorem ROs.of_kp {e : En} {a : Addr} {u : HO} (h0 : c.H0 a = none) : ∀ {os : List Oe} {ds : List D} {vs : List V}, ROs (c.kp (upd c.H0 a u)) e σ F H os ds vs → ROs c e σ F H os ds vs ∧ noFr (.ref a) os vs
  | _, _, _, .nil => ⟨.nil, trivial⟩
  | _, _, _, @ROs.cons _ _ _ _ _ o os d ds v vs h t n => by
    obtain ⟨t1, t2⟩ := ROs.of_kp h0 t
    cases o with
    | st m => exact ⟨.cons h t1 (fun _ z => by cases z), t2⟩
    | fr m =>
      obtain ⟨b, w, ev, q1, q2, q3, q4, q5, q6⟩ := h
      have nb : b ≠ a := fun z => by
        subst z
        have q3' : upd c.H0 b u b = none := q3
        rw [upd_same] at q3'
        cases q3'
      have q3' : c.H0 b = none := by
        have q3' : upd c.H0 a u b = none := q3
        rw [upd_ne nb] at q3'
        exact q3'
      refine ⟨.cons ⟨b, w, ev, q1, q2, q3', q4, q5, q6⟩ t1 n, ?_, t2⟩
      intro z
      rw [ev] at z
      cases z
      exact nb rfl
theorem oes_ok : ∀ (os : List Oe) {c : Cn} {env : En} {H F : Hp} {K : List V → Hp → Prop} (S : SR c env σ H F)
    (h : ∀ ds e vs H1 F1, evOe os env = .ok ds e → SR c e σ H1 F1 → Same F F1 → ROs c e σ F1 H1 os ds vs → K vs H1) (hno : evOe os env ≠ .no)
    (her : ∀ x e, evOe os env = .er x e → ∀ cls dx H' F', SR c e σ H' F' → Same F F' → RepX c.toGc F' x cls dx → W cls dx σ H'), tOesK c W os σ H K
  | [], c, env, H, F, K, S, h, hno, her => h [] env [] H F rfl S (Same.refl _) .nil
  | o :: r, c, env, H, F, K, S, h, hno, her => by
    have e0 : evOe (o :: r) env = (o.ev env).bind fun d e1 => (evOe r e1).bind fun ds e2 => .ok (d :: ds) e2 := rfl
    rw [e0] at h hno her
    cases o with
    | st m =>
      refine ⟨c.H0, env, F, S, ?_⟩
      show Okp c W σ F (rlE c) _ (m env)
      change ∀ ds e vs H1 F1, (m env).bind _ = _ → _ at h
      change (m env).bind _ ≠ _ at hno
      change ∀ x e, (m env).bind _ = _ → _ at her
      cases z : m env with
      | ok d e1 =>
        rw [z] at h hno her
        intro v H1 F1 S1 s1 r1
        refine oes_ok r S1 (fun ds e vs H2 F2 z2 S2 s2 ro => h (d :: ds) e (v :: vs) H2 F2 ?_ S2 (s1.trans s2) (.cons (show Rep c.toGc F2 d v from Rep.mono s2 r1) ro fun _ z => by cases z)) (fun z2 => hno ?_) (fun x e z2 cls dx H' F' S' s' rx => her x e ?_ cls dx H' F' S' (s1.trans s') rx)
        · show (evOe r e1).bind _ = _
          rw [z2]
          rfl
        · show (evOe r e1).bind _ = _
          rw [z2]
          rfl
        · show (evOe r e1).bind _ = _
          rw [z2]
          rfl
      | er x e1 =>
        rw [z] at her
        exact her x e1 rfl
      | no =>
        rw [z] at hno
        exact absurd rfl hno
    | fr m =>
      refine ⟨c.H0, env, F, S, ?_⟩
      show Okp c W σ F (rlF c) _ (m env)
      change ∀ ds e vs H1 F1, (m env).bind _ = _ → _ at h
      change (m env).bind _ ≠ _ at hno
      change ∀ x e, (m env).bind _ = _ → _ at her
      cases z : m env with
      | ok d e1 =>
        rw [z] at h hno her
        intro v H1 F1 S1 s1 r1
        obtain ⟨a1, u1, ev, b1, b2, b3, hr1, b4, b5⟩ := r1
        subst ev
        have f01 : c.F0 a1 = none := S1.gr.f.free b2
        have K1 := S1.keep b1 b2 b3 b4
        have back : ∀ {e : En} {H2 F2 : Hp}, SR (c.kp (upd c.H0 a1 u1)) e σ H2 F2 → Same F1 F2 → SR c e σ H2 F2 ∧ rlF c e σ F2 H2 d (.ref a1) := fun {e H2 F2} S2 s2 => by
          obtain ⟨k1, k2, k3⟩ := S2.kept b5.ntbl hr1 f01
          exact ⟨S2.unkeep b3 hr1, a1, u1, rfl, k1, k2, b3, hr1, k3, b5.mono s2⟩
        have hh := oes_ok (K := fun vs H2 => K (.ref a1 :: vs) H2) r K1 (fun ds e vs H2 F2 z2 S2 s2 ro => by
          obtain ⟨S3, rl⟩ := back S2 s2
          obtain ⟨ro1, ro2⟩ := ro.of_kp b3
          refine h (d :: ds) e (.ref a1 :: vs) H2 F2 ?_ S3 (s1.trans s2) (.cons rl ro1 fun _ _ => ro2)
          show (evOe r e1).bind _ = _
          rw [z2]
          rfl) (fun z2 => hno (by
          show (evOe r e1).bind _ = _
          rw [z2]
          rfl)) (fun x e z2 cls dx H' F' S' s' rx => her x e (by
          show (evOe r e1).bind _ = _
          rw [z2]
          rfl) cls dx H' F' (back S' s').1 (s1.trans s') rx)
        rw [tOesK_kp] at hh
        exact hh
      | er x e1 =>
        rw [z] at her
        exact her x e1 rfl
      | no =>
        rw [z] at hno
        exact absurd rfl hno
/-! the names -/
def setsV : L2.St → List Nat → List V → L2.St
  | σ, i :: is, v :: vs => setsV (σ.set i (some v)) is vs
  | σ, _, _ => σ
def gNs (is : List Nat) : TGs := fun vs σ H Q => vs.length = is.length ∧ Q (setsV σ is vs) H
theorem rgn_nil : PGs X [] (gNs []) := pgs_nil.imp fun v σ H Q ⟨h1, h2⟩ => by
  cases v with
  | nil => exact ⟨rfl, h2⟩
  | cons a b => cases h1
theorem rgn_cons {i : Nat} {is : List Nat} {x : Str} {pos : Pos} {es : List Expr} (hN : X.N.Nodup) (hi : X.N[i]? = some x) (hx : Loc X.env.scope x) (h2 : PGs X es (gNs is)) (hf : X.fn x = true ∨ X.env.scope.names.lookup x = some .local := by first | exact .inl rfl | exact .inr rfl)
    (hs : (assignEach (.Name x pos :: es) X.env).map (·.2) = assign (.Name x pos) X.env :: (assignEach es X.env).map (·.2) := by rfl) : PGs X (.Name x pos :: es) (gNs (i :: is)) := (pgs_cons (pg_name hN hi hx hf) h2 hs).imp fun vs σ H Q ⟨h1, h2⟩ => by
  cases vs with
  | nil => cases h1
  | cons v vs => exact ⟨v, vs, rfl, Nat.succ.inj h1, h2⟩
def okIs (e : En) : List Nat → Bool
  | [] => true
  | i :: r => free e i && !r.contains i && okIs e r
def setAll : En → List Nat → List Oe → List D → En
  | e, i :: is, o :: os, d :: ds => setAll (e.set i (o.sl d)) is os ds
  | e, _, _, _ => e
def sMul (is : List Nat) (os : List Oe) : En → Rs := fun env => (evOe os env).bs fun ds e => if okIs e is = true ∧ is.length = os.length then .nx (setAll e is os ds) else .no
theorem ROs.len {e : En} : ∀ {os : List Oe} {ds : List D} {vs : List V}, ROs c e σ F H os ds vs → vs.length = os.length
  | _, _, _, .nil => rfl
  | _, _, _, .cons _ t _ => by simp [ROs.len t]
theorem okIs_set {e : En} {i : Nat} {s : Sl} : ∀ {is : List Nat}, i ∉ is → okIs e is = true → okIs (e.set i s) is = true
  | [], _, _ => rfl
  | j :: r, h, k => by
    unfold okIs at k ⊢
    rw [Bool.and_eq_true, Bool.and_eq_true] at k ⊢
    rw [List.mem_cons, not_or] at h
    exact ⟨⟨free_set h.1 k.1.1, k.1.2⟩, okIs_set h.2 k.2⟩
theorem RO.set {e : En} (S : SR c e σ H F) {i : Nat} {o o' : Oe} {d d' : D} {v w : V} (hi : i < e.length) (h : RO c e σ F H o' d' w) (hn : (∃ m, o = .fr m) → ∀ m, o' = .fr m → w ≠ v) : RO c (e.set i (o.sl d)) (σ.set i (some v)) F H o' d' w := by
  cases o' with
  | st m => exact h
  | fr m =>
    refine rlF_set S hi h fun a e1 e2 ⟨d2, e3⟩ => ?_
    have : ∃ m, o = .fr m := by
      cases o with
      | st m => rcases e3 with z | z <;> cases z
      | fr m => exact ⟨m, rfl⟩
    exact hn this m rfl (e1.trans e2.symm)
theorem ROs.set {e : En} (S : SR c e σ H F) {i : Nat} {o : Oe} {d : D} {v : V} (hi : i < e.length) : ∀ {os : List Oe} {ds : List D} {vs : List V}, ROs c e σ F H os ds vs → ((∃ m, o = .fr m) → noFr v os vs) → ROs c (e.set i (o.sl d)) (σ.set i (some v)) F H os ds vs
  | _, _, _, .nil, _ => .nil
  | _, _, _, @ROs.cons _ _ _ _ _ o' os d' ds w vs h t n, k => by
    refine .cons (RO.set S hi h fun z m e2 => ?_) (ROs.set S hi t fun z => ?_) n
    · have := k z
      subst e2
      exact this.1
    · have := k z
      cases o' with
      | st m => exact this
      | fr m => exact this.2
theorem setAll_ok : ∀ (is : List Nat) {os : List Oe} {ds : List D} {vs : List V} {e : En} {σ : L2.St}, SR c e σ H F → ROs c e σ F H os ds vs → okIs e is = true → is.length = os.length → SR c (setAll e is os ds) (setsV σ is vs) H F
  | [], _, _, _, e, σ, S, r, _, hl => by
    cases r with
    | nil => exact S
    | cons _ _ _ => cases hl
  | i :: is, _, _, _, e, σ, S, .nil, _, hl => by cases hl
  | i :: is, _, _, _, e, σ, S, @ROs.cons _ _ _ _ _ o os d ds v vs h t n, hk, hl => by
    unfold okIs at hk
    rw [Bool.and_eq_true, Bool.and_eq_true] at hk
    have hi := free_lt hk.1.1
    have nin : i ∉ is := by
      have := hk.1.2
      simpa using this
    have S1 : SR c (e.set i (o.sl d)) (σ.set i (some v)) H F := by
      cases o with
      | st m => exact S.set hk.1.1 h
      | fr m => exact S.setO hk.1.1 h
    exact setAll_ok is S1 (t.set S hi fun ⟨m, z⟩ => n m z) (okIs_set nin hk.2) (Nat.succ.inj hl)
theorem RO.new {e : En} {p : Addr} {u : HO} (n : H p = none) (nt : ∀ ps, u ≠ .tbl ps) {o : Oe} {d : D} {v : V} (h : RO c e σ F H o d v) (hF : F p = none) : RO c e σ (upd F p u) (upd H p u) o d v := by
  cases o with
  | st m => exact (show Rep c.toGc F d v from h).mono (Same_upd hF)
  | fr m =>
    obtain ⟨a, w, ev, q1, q2, q3, q4, q5, q6⟩ := h
    have na : a ≠ p := fun z => by
      subst z
      rw [n] at q1
      cases q1
    exact ⟨a, w, ev, by rw [upd_ne na]; exact q1, by rw [upd_ne na]; exact q2, q3, q4, q5, q6.mono (Same_upd hF)⟩
theorem ROs.new {e : En} {p : Addr} {u : HO} (n : H p = none) (nt : ∀ ps, u ≠ .tbl ps) (hF : F p = none) : ∀ {os : List Oe} {ds : List D} {vs : List V}, ROs c e σ F H os ds vs → ROs c e σ (upd F p u) (upd H p u) os ds vs
  | _, _, _, .nil => .nil
  | _, _, _, .cons h t k => .cons (RO.new n nt h hF) (ROs.new n nt hF t) k
theorem mul_ok {Z : Ends} {is : List Nat} {os : List Oe} (hK : c.K = X.K) (hl : os.length ≤ lim) (q : tS c W (sMul is os) Z σ H) : tAsg (tTup (tOesK c W os)) (gTup X.K is.length (gNs is)) Z σ H := by
  obtain ⟨env, F, S, q⟩ := q
  unfold sMul at q
  refine oes_ok os S (fun ds e vs H1 F1 z S1 s1 ro => ?_) (fun z => ?_) (fun x e z cls dx H' F' S' s' rx => ?_)
  · rw [z] at q
    have q : OkS c W F Z (if okIs e is = true ∧ is.length = os.length then .nx (setAll e is os ds) else .no) := q
    split at q
    · rename_i hk
      refine ⟨lim_line (by rw [ro.len]; exact hl), fun p n => ?_⟩
      have g2 := Go.frz S1.wf n (o := .tup vs) (fun ps z => by cases z)
      have hF := S1.wf.sub.free n
      refine ⟨p, vs, rfl, SqT.of upd_same, by rw [ro.len, hk.2], by rw [ro.len, hk.2], ?_⟩
      exact q _ _ _ (setAll_ok is (S1.go g2) (ro.new n (fun ps z => by cases z) hF) hk.1 hk.2) (s1.trans g2.gr.f)
    · exact q.elim
  · rw [z] at q
    exact q.elim
  · rw [z] at q
    exact q cls dx σ H' F' S' s' rx
theorem rok_nil : PA X [] (tOesK c W []) := pa_nil
theorem rok_cons {e : Expr} {es : List Expr} {o : Oe} {os : List Oe} (ha : ∀ H0, PE X e (o.t (c.kp H0) W)) (hr : PA X es (tOesK c W os)) (hs : starEach (e :: es) X.env = (false, eval e X.env) :: starEach es X.env := by rfl) : PA X (e :: es) (tOesK c W (o :: os)) := pa_cons (PEk ha) hr hs
theorem rs_mul {is : List Nat} {os : List Oe} {ts es : List Expr} {k1 k2 : Nat} {p1 p2 pos : Pos} (hK : c.K = X.K) (hc : X.calm = true) (ha : PA X es (tOesK c W os)) (hg : PGs X ts (gNs is)) (hl : os.length ≤ lim := by decide) (hst : (assignEach ts X.env).findIdx? (·.1) = none := by rfl) (hlen : (assignEach ts X.env).length = is.length := by rfl)
    (hs : swapsWithSole [.Tuple ts k1 p1] (.Tuple es k2 p2) pos.line X.env = pure false := by rfl) (hw : swappedStores [.Tuple ts k1 p1] (.Tuple es k2 p2) X.env = pure none := by rfl)
    (h1 : (assignEach [.Tuple ts k1 p1] X.env).map (·.2) = [assign (.Tuple ts k1 p1) X.env] := by rfl) : PS X (.Assign [.Tuple ts k1 p1] (.Tuple es k2 p2) pos) (tS c W (sMul is os)) :=
  (ps_asg (pe_tup ha) (pg_tup (n := is.length) hc hg hlen hst) hs hw h1).imp fun Z σ H q => mul_ok hK hl q
end
end PV

/-! ### enumerate of a tuple -/
namespace PV
open PySem PySem.Spec PyProof.Rows L2
theorem enum_new1 {v : Value} {o : Obj} {H : Heap → Prop} (B : Begins v o H) :
    Meets (Builtin.«enumerate.__new__» ⟨[.type "enumerate", v], []⟩) (fun _ R s => H s.heap ∧
      R (.ok (.ret (.ref (s.heap.push o).objs.size))) { s with heap := (s.heap.push o).push { cls := .type "enumerate", data := .fields #[.none, .bool false, .ref s.heap.objs.size, rawInt 0, .none, .none] } }) :=
  .of_wp fun prog w A R s h => by
    obtain ⟨hp, g, d, tk, os⟩ := s
    obtain ⟨h1, h⟩ := h
    have hsub := sub_enumerate
    have q1 : ∀ {A' : Around} {E : Value → Shared → Prop} {Q : Value → Shared → Prop}, Q (.ref hp.objs.size) ⟨hp.push o, g, d, tk, os⟩ → wpAny (model prog w) A' (pyIter v) Q E ⟨hp, g, d, tk, os⟩ :=
      fun q => B.iter prog w _ _ ⟨hp, g, d, tk, os⟩ _ h1 q
    wp_walk using q1
    refine wpAny_stack_any fun st => wpAny_pure ?_
    split
    · rename_i c _ _ _ _ _
      cases (c == Value.type "enumerate")
      · wp_walk using q1
        exact ⟨_, rfl, h⟩
      · wp_walk using q1
        exact ⟨_, rfl, h⟩
    · wp_walk using q1
      exact ⟨_, rfl, h⟩
section
variable {prog : Program} {w : World} {A : Around} {E : Value → Shared → Prop} {s : Shared}
theorem enum_tup {l : Addr} {items : Array Value} {Q : Value → Shared → Prop} (hL : s.heap.IsTuple l items)
    (h : ∀ h', IsEnum h' (s.heap.objs.size + 1) s.heap.objs.size 0 .none → h'.IsTupleIter s.heap.objs.size l 0 →
      (∀ b o, s.heap.get? b = some o → h'.get? b = some o) → Q (.ref (s.heap.objs.size + 1)) { s with heap := h' }) :
    wpAny (model prog w) A (call (.type "enumerate") [.ref l]) Q E s := by
  refine callType_new F.called_enumerate (by decide) (F.typeCall_enumerate_1 _) (F.newCall_enumerate_1 _) (fun obj => F.args_object_init_2 obj _) F.entry_enumerate_new
    (enum_new1 (begins_tuple l items)) ⟨hL, ?_⟩
  have hz : (s.heap.push { cls := .type "tuple_iterator", data := .fields #[.ref l, .int 0 0] }).objs.size = s.heap.objs.size + 1 := Heap.size_push ..
  show _ ∧ _
  rw [hz]
  have he : IsEnum ((s.heap.push { cls := .type "tuple_iterator", data := .fields #[.ref l, .int 0 0] }).push
      { cls := .type "enumerate", data := .fields #[.none, .bool false, .ref s.heap.objs.size, rawInt 0, .none, .none] }) (s.heap.objs.size + 1) s.heap.objs.size 0 .none := by
    have := Heap.get?_push_size (s.heap.push { cls := .type "tuple_iterator", data := .fields #[.ref l, .int 0 0] })
      (o := { cls := .type "enumerate", data := .fields #[.none, .bool false, .ref s.heap.objs.size, rawInt 0, .none, .none] }) rfl
    rw [hz] at this
    exact this
  exact ⟨⟨_, he, rfl⟩, h _ he ⟨_, Heap.get?_push_of_some _ (Heap.get?_push_size _ rfl), rfl, rfl⟩ fun b o x => Heap.get?_push_of_some _ (Heap.get?_push_of_some _ x)⟩
end
/-- the tuple at a, each item in a new pair -/
def IteT (K : PySem.W.Frag) (a : Addr) : It :=
  ⟨fun i H => ∃ (xs : List V) (x : V), SqT K H a xs ∧ xs[i]? = some x, fun i H v H' => ∃ T x, v = .ref T ∧ H T = none ∧ H' = upd H T (.tup [.int (i : Nat), x]) ∧ ∀ xs, SqT K H a xs → xs[i]? = some x, fun i H => ∃ xs : List V, SqT K H a xs ∧ xs.length = i⟩
theorem turn_enumT {P : Program} {w : World} {K : PySem.W.Frag} {elts : List Expr} {kk : Nat} {tpos : Pos} (a e it : Addr) (ne : a ≠ it) (nae : a ≠ e) :
    Turn P w K (.Tuple elts kk tpos) (IteT K a) [e, it] e (fun i h => (∃ old, IsEnum h e it ((i : Nat) : Int) old) ∧ h.IsTupleIter it a i ∧ e ≠ it) where
  mem := by simp
  obj := fun i h st b hb => by
    obtain ⟨⟨old, he⟩, ⟨o, ho, hc, hd⟩, _⟩ := st
    have e' : b = e ∨ b = it := by simpa using hb
    rcases e' with z | z
    · rw [z]; exact ⟨_, he, fun v q => nomatch q⟩
    · rw [z]; exact ⟨o, ho, fun v q => by rw [hd] at q; cases q⟩
  keep := fun i h h' st k => let ⟨⟨old, he⟩, hi, hne⟩ := st; ⟨⟨old, k e (by simp) _ he⟩, hi.at fun o q => k it (by simp) o q, hne⟩
  item := by
    intro X hP hw hK hc i pins s σ H E I hf st hg
    subst hP hw hK
    obtain ⟨⟨old, he⟩, hit, hne⟩ := st
    obtain ⟨xs, x, hq, hx⟩ := hg
    obtain ⟨its, rv, p, hz⟩ := I.tuple hq
    obtain ⟨u, hu, ru⟩ := rv.get hx
    have hel : e < s.heap.objs.size := Heap.lt_size he
    have hil : it < s.heap.objs.size := by obtain ⟨_, q, _⟩ := hit; exact Heap.lt_size q
    have hlt : i < its.toArray.size := by
      have := (List.getElem?_eq_some_iff.mp hu).1
      simpa using this
    refine wpAny_pyNext_enum_itemD (Draws.tuple (A := X.A.in1) (I.ok.hd hc) it a ne its.toArray) he ⟨hit, p⟩ hlt hne (by simp [hne, Ne.symm nae]) fun x' h' tk hP' ho hst' hT hsz hk => ?_
    have eu : x' = u := by
      have h1 : its.toArray[i]? = some x' := hP'
      have h2 : its.toArray[i]? = some u := by simpa using hu
      rw [h2] at h1
      exact (Option.some.inj h1).symm
    subst eu
    obtain ⟨hit', _⟩ := hst'
    refine ⟨_, rfl, wpAny_letOwnedTupleGo_enum (s := { s with heap := h', toks := tk + 1 }) ho fun h'' he' sb => ?_⟩
    have hT2 : h''.get? s.heap.objs.size = some { cls := .type "tuple", data := .seq #[.int i tk, x'] } := (sb.2 _ (Nat.ne_of_gt hel)).trans hT
    have new : ObjOk X.prog X.w (upd H s.heap.objs.size (.tup [.int (i : Nat), x])) h'' s.heap.objs.size (.tup [.int (i : Nat), x]) :=
      ⟨by show 2 ≤ sizeLine; decide, [.int i tk, x'], .cons ⟨_, rfl⟩ (.cons ru .nil), ⟨_, hT2, rfl, _, rfl⟩⟩
    have I1 : Inv X pins σ (upd H s.heap.objs.size (.tup [.int (i : Nat), x])) { s with heap := h'', toks := tk + 1 } :=
      I.turnedNew (ch := [e, it]) (fun b ob hb q => (sb.2 b (fun z => hb (by simp [z]))).trans (hk b ob (fun z => hb (by simp [z])) (fun z => hb (by simp [z])) q)) hf (Nat.le_refl _) new
    refine ⟨.ref s.heap.objs.size, _, I1, rfl, ⟨_, x, rfl, I.hok.fresh (Nat.le_refl _), rfl, fun ys hy => by rw [I.tuple_inj hy hq]; exact hx⟩, ⟨⟨x', ?_⟩, hit'.at fun o q => (sb.2 it (Ne.symm hne)).trans q, hne⟩, fun b hb => ?_⟩
    · have e1 : ((i + 1 : Nat) : Int) = (i : Int) + 1 := by omega
      rw [e1]; exact he'
    · have hb' : b < s.heap.objs.size := by
        have e' : b = e ∨ b = it := by simpa using hb
        rcases e' with z | z
        · rw [z]; exact hel
        · rw [z]; exact hil
      rw [upd_ne (Nat.ne_of_lt hb')]
      exact (hf b hb).1
  done := by
    intro X hP hw hK hc i pins s σ H E I hf st hg
    subst hP hw hK
    obtain ⟨⟨old, he⟩, hit, hne⟩ := st
    obtain ⟨xs, hq, hx⟩ := hg
    obtain ⟨its, rv, p, hz⟩ := I.tuple hq
    obtain ⟨f0, f1, f2, f3, f4, f5⟩ := hf it (by simp)
    have hl := rv.length
    have hi : its.toArray.size = i := by
      rw [List.size_toArray]
      omega
    have hst : s.heap.IsTupleIter it a its.toArray.size ∧ s.heap.IsTuple a its.toArray := ⟨by rw [hi]; exact hit, p⟩
    exact wpAny_pyNext_enum_endD (Draws.tuple (A := X.A.in1) (I.ok.hd hc) it a ne its.toArray) he hst fun h' eb => ⟨rfl, I.turned (t' := s.toks) (fun b o hb q => eb b o hb q) f0 f1 f3 f4 f5⟩
  self := fun A i s Q E st h => let ⟨⟨_, he⟩, _⟩ := st; wpAny_pyIter_enum he h
def iEnumT (K : PySem.W.Frag) (ta : TA) : TI := fun σ H R => ta σ H fun vs H1 => ∃ a xs, vs = [.ref a] ∧ SqT K H1 a xs ∧ R (IteT K a) H1
theorem pi_enumT {X : Cx} {e : Expr} {ta : TA} {p pos tpos : Pos} {elts : List Expr} {kk : Nat} (hg : Gl X "enumerate") (hm : X.mg "enumerate" = none) (ha : PA X [e] ta) (hs : starEach [e] X.env = [(false, eval e X.env)] := by rfl) :
    PI X (.Tuple elts kk tpos) (.Call (.Name "enumerate" p) [e] [] pos) (iEnumT X.K ta) := by
  refine ⟨fun pins s σ H R I h => ?_⟩
  refine Call_ (ld_blt I hg hm boot_enumerate (PyProof.Rows.callWith_type1 (thn (ha.run pos pins s σ H _ I h) fun us s1 ⟨vs, H1, I1, r1, q1⟩ => ?_) hs rfl))
  obtain ⟨a, xs, ex, hq, q⟩ := q1
  subst ex
  cases r1 with
  | cons r rr =>
    cases rr
    cases r
    obtain ⟨its, rv, p', hz⟩ := I1.tuple hq
    have hla : a < s1.heap.objs.size := by
      obtain ⟨o, ho, _⟩ := p'
      exact Heap.lt_size ho
    refine enum_tup p' fun h' he hit hk => wpAny_pyIter_enum he ?_
    have I2 : Inv X pins σ H1 { s1 with heap := h' } := I1.kept (t' := s1.toks) hk
    refine ⟨s1.heap.objs.size + 1, [s1.heap.objs.size + 1, s1.heap.objs.size], _, _, H1, rfl, I2, turn_enumT a (s1.heap.objs.size + 1) s1.heap.objs.size (Nat.ne_of_lt hla) (Nat.ne_of_lt (Nat.lt_succ_of_lt hla)), ⟨⟨.none, he⟩, hit, Nat.succ_ne_self _⟩, fun b hb => ?_, q⟩
    have e' : b = s1.heap.objs.size + 1 ∨ b = s1.heap.objs.size := by simpa using hb
    have hle : s1.heap.objs.size ≤ b := by
      rcases e' with z | z
      · rw [z]; exact Nat.le_add_right _ _
      · rw [z]; exact Nat.le_refl _
    exact I1.fpOk hle (I1.hok.fresh hle)
end PV

namespace PV
open PySem PySem.Spec PyProof.Rows L2
section
variable {c : Cn} {W : WX} {X : Cx} {env : En} {σ : L2.St} {H F : Hp}
/-! ### enumerate -/
def enumD : Nat → List D → List D
  | _, [] => []
  | k, x :: r => .tup [.int k, x] :: enumD (k + 1) r
theorem enumD_get : ∀ {xs : List D} {k i : Nat} {d : D}, (enumD k xs)[i]? = some d → ∃ x, xs[i]? = some x ∧ d = .tup [.int ((k + i : Nat) : Int), x]
  | [], _, _, _, h => by unfold enumD at h; simp at h
  | x :: xs, k, 0, d, h => by
    unfold enumD at h
    exact ⟨x, rfl, (Option.some.inj h).symm⟩
  | x :: xs, k, i + 1, d, h => by
    unfold enumD at h
    obtain ⟨y, h1, h2⟩ := enumD_get (xs := xs) (k := k + 1) (i := i) h
    refine ⟨y, h1, ?_⟩
    rw [h2, show k + 1 + i = k + (i + 1) by omega]
theorem enumD_len : ∀ (xs : List D) (k : Nat), (enumD k xs).length = xs.length
  | [], _ => rfl
  | x :: xs, k => by
    unfold enumD
    rw [List.length_cons, List.length_cons, enumD_len xs (k + 1)]
theorem pair_int {g : Gc} {F H : Hp} {i : Int} {y : D} {w : V} {T : Addr} (wf : WF g F H) (n : H T = none) (ry : Rep g F y w) : ∃ F'', Go g F H F'' (upd H T (.tup [.int i, w])) ∧ Rep g F'' (.tup [.int i, y]) (.ref T) := pair_new wf n .int ry
theorem itS_enumL {g : Gc} {F : Hp} {a : Addr} {vs : List V} {ds : List D} (h : SqL g.K F a vs) (inj : ∀ H ys zs, SqL g.K H a ys → SqL g.K H a zs → ys = zs ∨ True) (r : Reps g F ds vs) : ItS g F (Ite g.K a) (enumD 0 ds) := by
  refine ⟨fun i d F' H' e s w => ?_, fun F' H' s w => ⟨vs, w.sub.seq (s.seq h), by rw [enumD_len, r.length]; exact Nat.le_refl _⟩⟩
  obtain ⟨x, hx, rfl⟩ := enumD_get e
  obtain ⟨v, hv, rv⟩ := r.get hx
  have hs : SqL g.K H' a vs := w.sub.seq (s.seq h)
  refine ⟨⟨vs, v, hs, hv⟩, fun z H'' ⟨T, u, e1, n, e2, q⟩ => ?_⟩
  have := q vs hs
  rw [hv] at this
  cases this
  subst e1 e2
  rw [Nat.zero_add]
  exact pair_int w n (rv.mono s)
theorem itS_enumT {g : Gc} {F : Hp} {a : Addr} {vs : List V} {ds : List D} (h : SqT g.K F a vs) (r : Reps g F ds vs) : ItS g F (IteT g.K a) (enumD 0 ds) := by
  refine ⟨fun i d F' H' e s w => ?_, fun F' H' s w => ⟨vs, sqT_mono w.sub (sqT_mono s h), by rw [enumD_len, r.length]⟩⟩
  obtain ⟨x, hx, rfl⟩ := enumD_get e
  obtain ⟨v, hv, rv⟩ := r.get hx
  have hs : SqT g.K H' a vs := sqT_mono w.sub (sqT_mono s h)
  refine ⟨⟨vs, v, hs, hv⟩, fun z H'' ⟨T, u, e1, n, e2, q⟩ => ?_⟩
  have := q vs hs
  rw [hv] at this
  cases this
  subst e1 e2
  rw [Nat.zero_add]
  exact pair_int w n (rv.mono s)
def iEn (m : En → R D) : En → R (List D) := fun env => (m env).bind fun d e => match seqD d with
  | some xs => .ok (enumD 0 xs) e
  | none => .no
theorem en_ok {m : En → R D} (hK : c.K = X.K) {Q : It → Hp → Prop} (q : tI c W (iEn m) σ H Q) : iEnum X.K (tMs c W [m]) σ H Q ∨ iEnumT X.K (tMs c W [m]) σ H Q := by
  obtain ⟨env, F, S, q⟩ := q
  rw [← hK]
  cases z : m env with
  | ok d e1 =>
    have q' : Okp c W σ F (rlI c) Q (match seqD d with | some xs => .ok (enumD 0 xs) e1 | none => .no) := by
      unfold iEn at q
      rw [z] at q
      exact q
    cases d with
    | lst xs =>
      refine .inl ⟨env, F, S, ?_⟩
      rw [z]
      intro v H1 F1 S1 s1 rv
      cases rv with
      | @lst a _ vs h r =>
        exact ⟨a, vs, rfl, SqL.of (S1.wf.sub _ _ h), q' _ H1 F1 S1 s1 (itS_enumL (SqL.of h) (fun _ _ _ _ _ => .inr trivial) r)⟩
    | ro xs =>
      refine .inl ⟨env, F, S, ?_⟩
      rw [z]
      intro v H1 F1 S1 s1 rv
      cases rv with
      | @ro a _ vs h r =>
        exact ⟨a, vs, rfl, S1.wf.sub.seq h, q' _ H1 F1 S1 s1 (itS_enumL h (fun _ _ _ _ _ => .inr trivial) r)⟩
    | tup xs =>
      refine .inr ⟨env, F, S, ?_⟩
      rw [z]
      intro v H1 F1 S1 s1 rv
      cases rv with
      | @tup a _ vs h r =>
        exact ⟨a, vs, rfl, sqT_mono S1.wf.sub h, q' _ H1 F1 S1 s1 (itS_enumT h r)⟩
    | _ => exact q'.elim
  | er x e1 =>
    refine .inl ⟨env, F, S, ?_⟩
    unfold iEn at q
    rw [z] at q ⊢
    exact q
  | no =>
    unfold iEn at q
    rw [z] at q
    exact q.elim
theorem ri_enum {e : Expr} {m : En → R D} {elts : List Expr} {kk : Nat} {p pos tpos : Pos} (hK : c.K = X.K) (hg : Gl X "enumerate") (hm : X.mg "enumerate" = none) (he : PE X e (tE c W m)) (hs0 : starEach [e] X.env = (false, eval e X.env) :: starEach [] X.env := by rfl) (hs : starEach [e] X.env = [(false, eval e X.env)] := by rfl) :
    PI X (.Tuple elts kk tpos) (.Call (.Name "enumerate" p) [e] [] pos) (tI c W (iEn m)) :=
  ((pi_enum hg hm (ra_cons he ra_nil hs0) hs).or (pi_enumT hg hm (ra_cons he ra_nil hs0) hs)).imp fun σ H Q q => en_ok hK q
/-! ### sorted, of a list of ints or a dict with int keys -/
def keysI : List (Key × D) → Option (List Int)
  | [] => some []
  | (.inl i, _) :: r => (keysI r).map (i :: ·)
  | (.inr _, _) :: _ => none
theorem RepK.keysI {g : Gc} {F : Hp} : ∀ {kvs : List (Key × D)} {vs : List (Key × V)} {ks : List Int}, RepK g F kvs vs → PV.keysI kvs = some ks → vs.map (·.1) = ks.map Sum.inl
  | _, _, ks, .nil, e => by
    cases e
    rfl
  | _, _, ks, @RepK.cons _ _ k x xs v vs h t, e => by
    cases k with
    | inl i =>
      have e : (PV.keysI xs).map (i :: ·) = some ks := e
      cases q : PV.keysI xs with
      | none =>
        rw [q] at e
        cases e
      | some ms =>
        rw [q] at e
        cases e
        rw [List.map_cons, List.map_cons, RepK.keysI t q]
    | inr z => cases e
def rSortedX (K : PySem.W.Frag) : List V → Hp → VK → Prop := fun xs H Q => rSortedI K xs H Q ∨ (∃ (a : Addr) (kvs : List (Key × V)) (ks : List Int), xs = [.ref a] ∧ Rd H a (.dK kvs) ∧ kvs.map (·.1) = ks.map Sum.inl ∧ ks.length < 64 ∧
    ∀ (ys : List Int) (p : Addr), ys.Perm ks → ys.Pairwise (· ≤ ·) → H p = none → Q (.ref p) (upd H p (.lst (ys.map V.int))))
theorem cr_sortedX (hc : X.calm = true) : CallR X (.builtin "sorted") (rSortedX X.K) := cr_sortedI.or (call_sortedDI hc)
def oSortedX : List D → Option D
  | [.dik kvs] => (keysI kvs).bind fun ks => if ks.length < 64 then some (.lst ((srtI ks).map D.int)) else none
  | ds => oSorted ds
theorem of_sortedX {g : Gc} : OpF g (rSortedX g.K) oSortedX := fun ds vs d F H Q w R e k => by
  unfold oSortedX at e
  split at e
  · rename_i kvs
    obtain ⟨x, rfl, h1⟩ := R.one
    obtain ⟨a, ws, rfl, h2, h3⟩ := h1.dik_ w
    cases q : keysI kvs with
    | none =>
      rw [q] at e
      cases e
    | some ks =>
      rw [q] at e
      have e : (if ks.length < 64 then some (D.lst ((srtI ks).map D.int)) else none) = some d := e
      split at e
      · rename_i hl
        cases e
        refine .inr ⟨a, ws, ks, rfl, h2, h3.keysI q, hl, fun ys p hp hs n => ?_⟩
        have e : ys = srtI ks := srtI_one (hp.trans (srtI_perm ks).symm) hs (srtI_srt ks)
        subst e
        exact k p _ n (.lst (Reps.ofInts _))
      · cases e
  · exact .inl (of_sorted ds vs d F H Q w R e k)
/-! ### [a, *b, ..] -/
inductive Ai where
  | o (m : En → R D) | s (m : En → R D)
def evAi : List Ai → En → R (List D)
  | [], e => .ok [] e
  | .o m :: r, e => (m e).bind fun d e1 => (evAi r e1).bind fun ds e2 => .ok (d :: ds) e2
  | .s m :: r, e => (m e).bind fun d e1 => match seqD d with
    | some xs => (evAi r e1).bind fun ds e2 => .ok (xs ++ ds) e2
    | none => .no
def tAi (c : Cn) (W : WX) : List Ai → TA
  | [] => tNil
  | .o m :: r => tCons (tE c W m) (tAi c W r)
  | .s m :: r => StX.tStar c.K (tE c W m) (tAi c W r)
theorem ai_ok {α β : Type} {rl : Rl α β} {Q : β → Hp → Prop} {σ : L2.St} : ∀ (ms : List Ai) {env : En} {H F : Hp} {f : List D → En → R α} {K : List V → Hp → Prop} (S : SR c env σ H F) (h : Okp c W σ F rl Q ((evAi ms env).bind f))
    (k : ∀ ds e vs H1 F1, SR c e σ H1 F1 → Same F F1 → Reps c.toGc F1 ds vs → Okp c W σ F1 rl Q (f ds e) → K vs H1), tAi c W ms σ H K
  | [], env, H, F, f, K, S, h, k => k [] env [] H F S (Same.refl _) .nil h
  | .o m :: r, env, H, F, f, K, S, h, k => by
    have e : (evAi (.o m :: r) env).bind f = (m env).bind fun d e => (evAi r e).bind fun ds e' => f (d :: ds) e' := by
      show ((m env).bind fun d e => (evAi r e).bind fun ds e' => R.ok (d :: ds) e').bind f = _
      rw [R.bind_assoc]
      congr 1
      funext d e
      rw [R.bind_assoc] <;> rfl
    rw [e] at h
    refine tM_bind (rl := rlE c) S h fun d e v H1 F1 S1 s1 r1 h1 => ?_
    exact ai_ok r S1 h1 fun ds e' vs H2 F2 S2 s2 r2 h2 => k (d :: ds) e' (v :: vs) H2 F2 S2 (s1.trans s2) (.cons (r1.mono s2) r2) h2
  | .s m :: r, env, H, F, f, K, S, h, k => by
    have e : (evAi (.s m :: r) env).bind f = (m env).bind fun d e => (match seqD d with | some xs => (evAi r e).bind fun ds e' => f (xs ++ ds) e' | none => .no) := by
      show ((m env).bind fun d e => (match seqD d with | some xs => (evAi r e).bind fun ds e' => R.ok (xs ++ ds) e' | none => R.no)).bind f = _
      rw [R.bind_assoc]
      congr 1
      funext d e
      cases seqD d with
      | none => rfl
      | some xs =>
        show ((evAi r e).bind fun ds e' => R.ok (xs ++ ds) e').bind f = _
        rw [R.bind_assoc] <;> rfl
    rw [e] at h
    refine tM_bind (rl := rlE c) S h fun d e v H1 F1 S1 s1 r1 h1 => ?_
    split at h1
    · rename_i xs hx
      obtain ⟨a, ws, ev, hs, rs⟩ := (show Rep1 c.toGc F1 H1 d v from .st r1).seq_ S1.wf hx
      refine ⟨a, ws, ev, hs.symm, ?_⟩
      exact ai_ok r S1 h1 fun ds e' vs H2 F2 S2 s2 r2 h2 => k (xs ++ ds) e' (ws ++ vs) H2 F2 S2 (s1.trans s2) ((rs.mono s2).append r2) h2
    · exact h1.elim
theorem rai_nil : PA X [] (tAi c W []) := pa_nil
theorem rai_o {e : Expr} {es : List Expr} {m : En → R D} {ms : List Ai} (ha : PE X e (tE c W m)) (hr : PA X es (tAi c W ms)) (hs : starEach (e :: es) X.env = (false, eval e X.env) :: starEach es X.env := by rfl) : PA X (e :: es) (tAi c W (.o m :: ms)) := pa_cons ha hr hs
theorem rai_s {e : Expr} {p : Pos} {es : List Expr} {m : En → R D} {ms : List Ai} (hK : c.K = X.K) (ha : PE X e (tE c W m)) (hr : PA X es (tAi c W ms)) (hs : starEach (.Starred e p :: es) X.env = (true, eval e X.env) :: starEach es X.env := by rfl) : PA X (.Starred e p :: es) (tAi c W (.s m :: ms)) := by
  show PA X _ (StX.tStar c.K (tE c W m) (tAi c W ms))
  rw [hK]
  exact StX.pa_star ha hr hs
def mLstS (ms : List Ai) : En → R D := fun env => (evAi ms env).bind fun ds e => if ds.length ≤ lim then .ok (.lst ds) e else .no
theorem re_lstS {es : List Expr} {ms : List Ai} {pos : Pos} (h : PA X es (tAi c W ms)) : PE X (.List es pos) (tF c W (mLstS ms)) := (pe_lst h).imp fun σ H Q q => by
  obtain ⟨env, F, S, q⟩ := q
  refine ai_ok ms S q fun ds e vs H1 F1 S1 s1 r1 h1 => ?_
  split at h1
  · rename_i hl
    refine ⟨lim_line (by rw [r1.length_eq]; exact hl), fun p n => ?_⟩
    exact h1 _ _ F1 (S1.fresh n rfl) (Same.refl _) (S1.newF n (.lst r1))
  · exact h1.elim
def mTupS (ms : List Ai) : En → R D := fun env => (evAi ms env).bind fun ds e => if ds.length ≤ lim then .ok (.tup ds) e else .no
theorem re_tupS {es : List Expr} {ms : List Ai} {k : Nat} {pos : Pos} (h : PA X es (tAi c W ms)) : PE X (.Tuple es k pos) (tE c W (mTupS ms)) := (pe_tup h).imp fun σ H Q q => by
  obtain ⟨env, F, S, q⟩ := q
  refine ai_ok ms S q fun ds e vs H1 F1 S1 s1 r1 h1 => ?_
  split at h1
  · rename_i hl
    refine ⟨lim_line (by rw [r1.length_eq]; exact hl), fun p n => ?_⟩
    have g2 := Go.frz S1.wf n (o := .tup vs) (fun ps z => by cases z)
    exact h1 _ _ _ (S1.go g2) g2.gr.f (.tup (SqT.of upd_same) (r1.mono g2.gr.f))
  · exact h1.elim
end
end PV

namespace PV
open PySem PySem.Spec PyProof.Rows L2
/-! ### f(x, ..): x changed, other own containers lent -/
def isP (i : Nat) : Pd → Bool
  | .inr j => i == j
  | _ => false
def immO : D → Bool
  | .lst xs => imms xs
  | _ => false
def mCallRL (f : D → List D → Rr) (i : Nat) (os : List Od) : En → R D := fun env => match val env i with
  | none => .no
  | some _ => (evP os env).bind fun ps e => match fill ps e with
    | some ds => if (ds.any lockO || ps.any (isP i)) = true then .no else (match ownV e i with
      | some d0 => (match f d0 ds with
        | .ok d d0' => if (imm d && immO d0') = true then .ok d (setV e i d0') else .no
        | .no => .no)
      | none => .no)
    | none => .no
section
variable {c : Cn} {W : WX} {X : Cx} {env : En} {σ : L2.St} {H F : Hp}
/-- all that is tracked but the tables and one object, frozen -/
def but (H : Hp) (a : Addr) : Hp := fun b => if b = a then none else noTbl H b
theorem but_of {H : Hp} {a b : Addr} {o : HO} (h : but H a b = some o) : b ≠ a ∧ H b = some o ∧ ∀ ps, o ≠ .tbl ps := by
  unfold but at h
  split at h
  · cases h
  · rename_i hb
    exact ⟨hb, (noTbl_of h).1, (noTbl_of h).2⟩
theorem but_some {H : Hp} {a b : Addr} {o : HO} (n : b ≠ a) (h : H b = some o) (nt : ∀ ps, o ≠ .tbl ps) : but H a b = some o := by
  unfold but
  rw [if_neg n]
  exact noTbl_some h nt
theorem WF.but {g : Gc} {F H : Hp} (w : WF g F H) {a : Addr} {o : HO} (h : H a = some o) (nt : tupy o = false) (hF : F a = none) : WF g (PV.but H a) H ∧ Same F (PV.but H a) :=
  ⟨⟨fun b o e => (but_of e).2.1, fun b u e t => but_some (fun z => by subst z; rw [h] at e; cases e; rw [nt] at t; cases t) e (fun ps z => by subst z; cases t), fun b ps e => (but_of e).2.2 ps rfl, w.tab⟩,
    fun b u e => but_some (fun z => by subst z; rw [hF] at e; cases e) (w.sub _ _ e) (fun ps z => by subst z; exact w.nt _ _ e)⟩
theorem fill_but (S : SR c env σ H F) {i : Nat} {a : Addr} {o : HO} (ow : Own env σ i a) (ha : H a = some o) (nt : tupy o = false) (hF : F a = none) : ∀ {ps : List Pd} {vs : List V} {ds : List D}, RepPs c.toGc F σ ps vs → fill ps env = some ds → ds.any lockO = false → ps.any (isP i) = false → Reps c.toGc (PV.but H a) ds vs
  | _, _, _, .nil, e, _, _ => by
    cases e
    exact .nil
  | .inl d :: r, _, _, .cons h t, e, hl, hp => by
    unfold fill at e
    cases q : fill r env with
    | none =>
      rw [q] at e
      cases e
    | some ds' =>
      rw [q] at e
      cases e
      rw [List.any_cons, Bool.or_eq_false_iff] at hl hp
      exact .cons (Rep.mono (S.wf.but ha nt hF).2 h) (fill_but S ow ha nt hF t q hl.2 hp.2)
  | .inr j :: r, _, _, @RepPs.cons _ _ _ _ _ v vs h t, e, hl, hp => by
    unfold fill at e
    cases z : PV.val env j with
    | none =>
      rw [z] at e
      cases e
    | some d =>
      rw [z] at e
      cases q : fill r env with
      | none =>
        rw [q] at e
        cases e
      | some ds' =>
        rw [q] at e
        cases e
        rw [List.any_cons, Bool.or_eq_false_iff] at hl hp
        have hij : i ≠ j := by
          have h1 := hp.1
          unfold isP at h1
          simpa using h1
        refine .cons ?_ (fill_but S ow ha nt hF t q hl.2 hp.2)
        have h' : σ[j]? = some (some v) := h
        unfold PV.val at z
        split at z
        · rename_i d' z'
          cases z
          obtain ⟨v', h1, h2⟩ := S.fz j _ z'
          rw [h1] at h'
          cases h'
          exact h2.mono (S.wf.but ha nt hF).2
        · rename_i d' z'
          cases z
          obtain ⟨b, u, h1, h2, h3, h4, h5⟩ := S.ow j _ z'
          rw [h1] at h'
          cases h'
          have nb : b ≠ a := fun e => by
            subst e
            exact hij (S.apart i j b ow ⟨h1, _, .inl z'⟩)
          exact (h5.mono (S.wf.but ha nt hF).2).rep hl.1 (but_some nb h2 h5.ntbl)
        · rename_i d' z'
          cases z
          obtain ⟨b, u, h0, h1, h2, h3, h5⟩ := S.rf j _ z'
          rw [h1] at h'
          cases h'
          have nb : b ≠ a := fun e => by
            subst e
            exact hij (S.apart i j b ow ⟨h1, _, .inr z'⟩)
          exact (h5.mono (S.wf.but ha nt hF).2).rep hl.1 (but_some nb h2 h5.ntbl)
        · cases z
theorem evP_len : ∀ (os : List Od) {env e : En} {ps : List Pd}, evP os env = .ok ps e → ps.length = os.length
  | [], _, _, _, h => by
    cases h
    rfl
  | .m f :: r, env, e, ps, h => by
    have h' : ((f env).bind fun d e => (evP r e).bind fun ps e' => R.ok (.inl d :: ps) e') = .ok ps e := h
    cases q : f env with
    | ok d e1 =>
      rw [q] at h'
      have h2 : ((evP r e1).bind fun ps e' => R.ok (Sum.inl d :: ps) e') = .ok ps e := h'
      cases q2 : evP r e1 with
      | ok ps' e2 =>
        rw [q2] at h2
        cases h2
        simp [evP_len r q2]
      | er x e2 =>
        rw [q2] at h2
        cases h2
      | no =>
        rw [q2] at h2
        cases h2
    | er x e1 =>
      rw [q] at h'
      cases h'
    | no =>
      rw [q] at h'
      cases h'
  | .s i :: r, env, e, ps, h => by
    have h' : (match val env i with | some _ => (evP r env).bind fun ps e' => R.ok (.inr i :: ps) e' | none => R.no : R (List Pd)) = .ok ps e := h
    cases z : val env i with
    | none =>
      rw [z] at h'
      cases h'
    | some d =>
      rw [z] at h'
      have h2 : ((evP r env).bind fun ps e' => R.ok (Sum.inr i :: ps) e') = .ok ps e := h'
      cases q2 : evP r env with
      | ok ps' e2 =>
        rw [q2] at h2
        cases h2
        simp [evP_len r q2]
      | er x e2 =>
        rw [q2] at h2
        cases h2
      | no =>
        rw [q2] at h2
        cases h2
theorem fill_len : ∀ {ps : List Pd} {env : En} {ds : List D}, fill ps env = some ds → ds.length = ps.length
  | [], _, _, e => by
    cases e
    rfl
  | .inl d :: r, env, ds, e => by
    unfold fill at e
    cases q : fill r env with
    | none =>
      rw [q] at e
      cases e
    | some ds' =>
      rw [q] at e
      cases e
      simp [fill_len q]
  | .inr i :: r, env, ds, e => by
    unfold fill at e
    cases z : val env i with
    | none =>
      rw [z] at e
      cases e
    | some d =>
      rw [z] at e
      cases q : fill r env with
      | none =>
        rw [q] at e
        cases e
      | some ds' =>
        rw [q] at e
        cases e
        simp [fill_len q]
theorem RepO.imm {g : Gc} {F F' : Hp} (k : ∀ a u, F a = some u → tupy u = true → F' a = some u) {d : D} {o : HO} (r : RepO g F d o) (h : immO d = true) : RepO g F' d o := by
  cases r with
  | lst r => exact .lst (Reps.imm k r h)
  | dik r => cases h
  | dit r => cases h
  | slf0 m _ n => cases h
  | slf m _ n r => cases h
variable {k n : Nat} {f : Addr} {fd : FuncData} {ps : List Str} {fn : D → List D → Rr} {x : Str} {p pos : Pos} {e : Expr} {es : List Expr} {os : List Od}
theorem callRL_ok {i : Nat} {Q : VK} (hn : os.length = n) (q : tE c W (mCallRL fn i os) σ H Q) : tCons (tVar i) (tOds c W os) σ H fun vs H1 => spR c.toGc false n fn vs H1 Q (WE W σ) := by
  obtain ⟨env, F, S, q⟩ := q
  unfold mCallRL at q
  split at q
  · exact q.elim
  · rename_i d hv
    obtain ⟨v, g1, _⟩ := S.val hv
    refine ⟨v, g1, ?_⟩
    have q2 : Okp c W σ F (rlE c) Q ((evP os env).bind fun ps e => if ps.length = n then (match fill ps e with
      | some ds => if (ds.any lockO || ps.any (isP i)) = true then .no else (match ownV e i with
        | some d0 => (match fn d0 ds with
          | .ok d d0' => if (imm d && immO d0') = true then .ok d (setV e i d0') else .no
          | .no => .no)
        | none => .no)
      | none => .no) else .no) := by
      cases z : evP os env with
      | ok ps e =>
        rw [z] at q
        show Okp c W σ F (rlE c) Q (if ps.length = n then _ else _)
        rw [if_pos ((evP_len os z).trans hn)]
        exact q
      | er x e =>
        rw [z] at q
        exact q
      | no =>
        rw [z] at q
        exact q
    refine tOdsP os S q2 fun ps e vs H1 F1 S1 s1 r1 h1 => ?_
    split at h1
    · rename_i hpn
      split at h1
      · rename_i ds hfl
        split at h1
        · exact h1.elim
        · rename_i hlk
          rw [Bool.not_eq_true, Bool.or_eq_false_iff] at hlk
          split at h1
          · rename_i d0 z
            obtain ⟨a, o, ow, k1, k2, k3, k4⟩ := S1.own_at z
            have ev : v = .ref a := by
              have e1 := ow.1
              rw [g1] at e1
              cases e1
              rfl
            subst ev
            have rds := fill_but S1 ow k1 k3.ntup k2 r1 hfl hlk.1 hlk.2
            obtain ⟨wB, sB⟩ := S1.wf.but k1 k3.ntup k2
            have bna : PV.but H1 a a = none := by
              unfold PV.but
              rw [if_pos rfl]
            refine ⟨by simp [rds.length_eq, fill_len hfl, hpn], PV.but H1 a, a, d0, o, ds, vs, rfl, wB, k1, bna, k3.mono sB, rds, ?_⟩
            cases z2 : fn d0 ds with
            | no =>
              rw [z2] at h1
              exact h1
            | ok d d0' =>
              rw [z2] at h1
              intro v H' F' o' gr th l1 l2 l3 rv
              have rv := rlQ_rep rv
              have h1 : Okp c W σ F1 (rlE c) Q (if (imm d && immO d0') = true then .ok d (setV e i d0') else .no) := h1
              split at h1
              · rename_i hi
                rw [Bool.and_eq_true] at hi
                obtain ⟨fu, hfu⟩ : ∃ fu : Hp, ∀ b, fu b = if (H1 b).isSome = true then F1 b else F' b := ⟨fun b => if (H1 b).isSome = true then F1 b else F' b, fun _ => rfl⟩
                have at1 : ∀ b, H1 b ≠ none → fu b = F1 b := fun b hb => by
                  rw [hfu, if_pos]
                  cases q : H1 b with
                  | none => exact absurd q hb
                  | some u => rfl
                have at2 : ∀ b, H1 b = none → fu b = F' b := fun b hb => by
                  rw [hfu, hb, if_neg]
                  simp
                have tp : ∀ a u, F' a = some u → tupy u = true → fu a = some u := fun b u e t => by
                  by_cases hb : H1 b = none
                  · rw [at2 b hb]
                    exact e
                  · rw [at1 b hb]
                    have e2 := (gr.new b hb).symm.trans e
                    exact S1.wf.tup b u (but_of e2).2.1 t
                have G2 : Gr c.toGc (some a) F1 H1 fu H' := by
                  refine ⟨⟨fun b u e => ?_, fun b u e t => ?_, fun b ps e => ?_, gr.wf.tab⟩, fun b u e => ?_, gr.h, at1⟩
                  · by_cases hb : H1 b = none
                    · rw [at2 b hb] at e
                      exact gr.wf.sub _ _ e
                    · rw [at1 b hb] at e
                      exact gr.h b u (S1.wf.sub _ _ e) (fun ps z => by subst z; exact S1.wf.nt _ _ e) (fun z => by
                        have : b = a := Option.some.inj z
                        subst this
                        rw [k2] at e
                        cases e)
                  · exact tp b u (gr.wf.tup b u e t) t
                  · by_cases hb : H1 b = none
                    · rw [at2 b hb] at e
                      exact gr.wf.nt _ _ e
                    · rw [at1 b hb] at e
                      exact S1.wf.nt _ _ e
                  · rw [at1 b (by rw [S1.wf.sub _ _ e]; simp)]
                    exact e
                have fua : fu a = none := by
                  rw [at1 a (by rw [k1]; simp)]
                  exact k2
                exact h1 v H' fu (S1.chg z ow G2 th l1 fua (l3.imm tp hi.2)) G2.f (rv.imm tp hi.1)
              · exact h1.elim
          · exact h1.elim
      · exact h1.elim
    · exact h1.elim
theorem re_callRL {i : Nat} (Fo : FnG X.prog X.w X.K X.mg X.base (L2.CX X.prog X.w) k f fd ps (spR c.toGc false n fn)) (hr : RmG k X.A) (hg : Gl X x) (hm : X.mg x = some (.ref f)) (hk : PySem.W.keepIn X.K (.ref f) = true) (hb : Binds X.K fd ps []) (tk : Takes X W)
    (h0 : PE X e (tVar i)) (ha : PA X es (tOds c W os)) (hn : os.length = n := by rfl) (hdb : (x == ("__debug__" : Str)) = false := by decide) (he : starEach (e :: es) X.env = (false, eval e X.env) :: starEach es X.env := by rfl) (hpl : (backTo pos (starEach es X.env)).any (·.1) = false := by rfl) :
    PE X (.Call (.Name x p) (e :: es) [] pos) (tE c W (mCallRL fn i os)) :=
  (pe_callG (E := WE W) Fo hr hg hm hk hb (fun σ => passAt tk σ) (pa_cons h0 ha he) hdb he hpl).imp fun σ H Q q => callRL_ok hn q
end
end PV

namespace PV
open PySem PySem.Spec PyProof.Rows L2
/-! ### [elt for target in x if ..], x an own list that stays own: as it stands at each turn -/
def lcO (i : Nat) (T : Tg) (t : En → R Bool) (m : En → R D) (vs : List Nat) : Nat → Nat → En → R (List D)
  | 0, _, _ => .no
  | n + 1, k, e => match ownV e i with
    | some (.lst xs) => (match xs[k]? with
      | none => .ok [] e
      | some d => (match bindT T d e with
        | none => .no
        | some e1 => (match t e1 with
          | .ok true e2 => (match m e2 with
            | .ok y e3 => (lcO i T t m vs n (k + 1) (wipeE e3 vs)).bind fun ys e' => .ok (y :: ys) e'
            | _ => .no)
          | .ok false e2 => lcO i T t m vs n (k + 1) (wipeE e2 vs)
          | _ => .no)))
    | _ => .no
def mLcO (i : Nat) (T : Tg) (t : En → R Bool) (m : En → R D) (vs : List Nat) : En → R D := fun env => match ownV env i with
  | some (.lst _) => (lcO i T t m vs lim 0 (wipeE env vs)).bind fun ys e' => .ok (.lst ys) (backE env e' vs)
  | _ => .no
section
variable {c : Cn} {W : WX} {X : Cx} {F F' H : Hp} {Z : Ends} {σ : L2.St} {env : En}
theorem SR.lst_at (S : SR c env σ H F) {i : Nat} {xs : List D} (h : ownV env i = some (.lst xs)) : ∃ a vs, σ[i]? = some (some (.ref a)) ∧ H a = some (.lst vs) ∧ Reps c.toGc F xs vs := by
  obtain ⟨a, o, ow, h1, _, h3, _⟩ := S.own_at h
  cases h3 with
  | lst r => exact ⟨a, _, ow.1, h1, r⟩
theorem Itl_go {K : PySem.W.Frag} {H : Hp} {a : Addr} {vs : List V} {i : Nat} {v : V} (h : H a = some (.lst vs)) (e : vs[i]? = some v) : (Itl K a).go i H ∧ ∀ x H', (Itl K a).yld i H x H' → H' = H ∧ x = v := by
  refine ⟨⟨vs, v, SqL.of h, e⟩, fun x H' ⟨e1, e2⟩ => ⟨e1, ?_⟩⟩
  have := e2 vs (SqL.of h)
  rw [e] at this
  exact (Option.some.inj this).symm
theorem lcO_ok {i : Nat} {T : Tg} {t : En → R Bool} {m : En → R PV.D} {vs : List Nat} {Q : VK} (hK : c.K = X.K) (hT : okT vs T = true) (hi : i ∉ vs) (q : tF c W (mLcO i T t m vs) σ H Q) : tLc (iList X.K (tVar i)) (tGx c T) (tTx c t) (tEx c m) vs σ H Q := by
  obtain ⟨env, F, S, q⟩ := q
  rw [← hK]
  unfold mLcO at q
  split at q
  · rename_i xs0 ho
    obtain ⟨a, vs0, ha, hH, r0⟩ := S.lst_at ho
    refine ⟨.ref a, ha, a, rfl, ⟨vs0, SqL.of hH⟩, ?_⟩
    intro Dd nD
    have h0D : c.H0 Dd = none := S.h0 nD
    have hrD : c.ra ≠ some Dd := fun z => S.rtH Dd z nD
    have f0D : c.F0 Dd = none := S.gr.f.free (S.wf.sub.free nD)
    have wa : (wipe σ vs)[i]? = some (some (.ref a)) := by
      rw [wipe_keep hi]
      exact ha
    refine ⟨fun k n H' => n + k = lim ∧ ∃ e F' acc vacc, SR c e (wipe σ vs) H' F' ∧ Same F F' ∧ H' Dd = some (.lst vacc) ∧ F' Dd = none ∧ (∀ j, ¬ Own e (wipe σ vs) j Dd) ∧ Reps c.toGc F' acc vacc ∧ acc.length ≤ k ∧
      Okp c W σ F' (rlF c) Q ((lcO i T t m vs n k e).bind fun ys e' => .ok (.lst (acc ++ ys)) (backE env e' vs)), ⟨lim, by simp, ?_⟩, ?_⟩
    · have SW := S.wipe vs
      exact ⟨wipeE env vs, F, [], [], SW.fresh nD rfl, Same.refl _, upd_same, S.wf.sub.free nD, fun j h => (SW.own_there h).1 nD, .nil, Nat.zero_le _, q⟩
    · rintro k n H2 ⟨hn, e, F2, acc, vacc, S2, s2, hD, hFD, no, ra, hacc, q2⟩
      cases n with
      | zero =>
        unfold lcO at q2
        exact q2.elim
      | succ n =>
        unfold lcO at q2
        cases hv : ownV e i with
        | none =>
          rw [hv] at q2
          exact q2.elim
        | some d0 =>
          rw [hv] at q2
          cases d0 with
          | lst xs =>
            obtain ⟨a', ws, ha', hH2, r2⟩ := S2.lst_at hv
            rw [wa] at ha'
            cases ha'
            cases hk : xs[k]? with
            | none =>
              simp only [hk] at q2
              have q3 : Okp c W σ F2 (rlF c) Q (.ok (.lst (acc ++ [])) (backE env e vs)) := q2
              rw [List.append_nil] at q3
              have hl : ws.length ≤ k := by
                rw [← r2.length]
                exact List.getElem?_eq_none_iff.mp hk
              exact .inl ⟨⟨ws, SqL.of hH2, hl⟩, q3 (.ref Dd) H2 F2 (S.back S2 s2) (Same.refl _) ⟨Dd, .lst vacc, rfl, hD, hFD, h0D, hrD, fun j h => no j (own_back h), .lst ra⟩⟩
            | some d =>
              simp only [hk] at q2
              obtain ⟨v, hv2, rv⟩ := r2.get hk
              obtain ⟨g1, g2⟩ := Itl_go (K := c.K) hH2 hv2
              refine .inr ⟨g1, fun H' => n + (k + 1) = lim ∧ ∃ e F' acc vacc, SR c e (wipe σ vs) H' F' ∧ Same F F' ∧ H' Dd = some (.lst vacc) ∧ F' Dd = none ∧ (∀ j, ¬ Own e (wipe σ vs) j Dd) ∧ Reps c.toGc F' acc vacc ∧ acc.length ≤ k + 1 ∧
                Okp c W σ F' (rlF c) Q ((lcO i T t m vs n (k + 1) e).bind fun ys e' => .ok (.lst (acc ++ ys)) (backE env e' vs)), fun H' h => ⟨n, by omega, h⟩, fun x H3 y => ?_⟩
              obtain ⟨e3, e4⟩ := g2 x H3 y
              subst e3 e4
              have K3 := S2.keep hD hFD h0D no
              refine ⟨upd c.H0 Dd (.lst vacc), e, F2, d, K3, rv, ?_⟩
              cases z : bindT T d e with
              | none =>
                simp only [z] at q2
                exact q2.elim
              | some e1 =>
                simp only [z] at q2
                intro σ4 H4 F4 S4 s4 o4
                have ew : wipe σ4 vs = wipe σ vs := (wipe_off hT o4).trans (wipe_wipe σ vs)
                refine ⟨ew, upd c.H0 Dd (.lst vacc), e1, F4, S4, ?_⟩
                have fin : ∀ {e5 : En} {H5 F5 : Hp}, SR (c.kp (upd c.H0 Dd (.lst vacc))) e5 σ4 H5 F5 → SR c (wipeE e5 vs) (wipe σ vs) H5 F5 ∧ H5 Dd = some (.lst vacc) ∧ F5 Dd = none ∧ ∀ j, ¬ Own (wipeE e5 vs) (wipe σ vs) j Dd := fun {e5 H5 F5} S5 => by
                  obtain ⟨k1, k2, k3⟩ := S5.kept (fun ps z => by cases z) hrD f0D
                  have S6 := (S5.unkeep h0D hrD).wipe vs
                  rw [ew] at S6
                  exact ⟨S6, k1, k2, fun j h => k3 j (own_wipe (by rw [ew]; exact h))⟩
                cases zt : t e1 with
                | ok b e2 =>
                  simp only [zt] at q2
                  intro b' H5 F5 S5 s5 eb
                  have eb' : b = b' := eb
                  subst eb'
                  have s25 : Same F2 F5 := s4.trans s5
                  cases b with
                  | true =>
                    refine iteT ⟨upd c.H0 Dd (.lst vacc), e2, F5, S5, ?_⟩
                    cases zm : m e2 with
                    | ok y e3 =>
                      simp only [zm] at q2
                      rw [R.bind_assoc] at q2
                      intro v' H6 F6 S6 s6 rv'
                      obtain ⟨f1, f2, f3, f4⟩ := fin S6
                      have s26 : Same F2 F6 := s25.trans s6
                      have hl : vacc.length < lim := by rw [← ra.length]; omega
                      refine ⟨vacc, f2, lim_lt hl, by omega, wipeE e3 vs, F6, acc ++ [y], vacc ++ [v'], f1.put f2 f3 h0D f4 (fun ps z => by cases z) (fun φ z => by cases z) rfl, s2.trans s26, upd_same, f3, f4, (ra.mono s26).append (.cons rv' .nil), by simp; omega, ?_⟩
                      have q4 := Okp.mono q2 s26
                      have ea : (fun (ys : List PV.D) (e' : En) => (R.ok (y :: ys) e' : R (List PV.D)).bind fun ys e' => R.ok (PV.D.lst (acc ++ ys)) (backE env e' vs)) = fun ys e' => R.ok (PV.D.lst ((acc ++ [y]) ++ ys)) (backE env e' vs) := by
                        funext ys e'
                        show R.ok (PV.D.lst (acc ++ (y :: ys))) _ = _
                        rw [List.append_assoc] <;> rfl
                      rw [ea] at q4
                      exact q4
                    | er x e3 =>
                      simp only [zm] at q2
                      exact q2.elim
                    | no =>
                      simp only [zm] at q2
                      exact q2.elim
                  | false =>
                    obtain ⟨f1, f2, f3, f4⟩ := fin S5
                    refine iteF ⟨by omega, wipeE e2 vs, F5, acc, vacc, f1, s2.trans s25, f2, f3, f4, ra.mono s25, by omega, Okp.mono q2 s25⟩
                | er x e2 =>
                  simp only [zt] at q2
                  exact q2.elim
                | no =>
                  simp only [zt] at q2
                  exact q2.elim
          | _ => exact q2.elim
  · exact q.elim
theorem re_lcO {i : Nat} {elt tg iter : Expr} {ifs : List Expr} {scope : Scope} {pos : Pos} {T : Tg} {t : En → R Bool} {m : En → R PV.D} {own : List (Str × Nat)} (hK : c.K = X.K) (hc : X.calm = true) (hN : X.N.Nodup) (ok : BlkOk X.N X.env.scope scope own) (hT : okT (own.map (·.2)) T = true) (hi : i ∉ own.map (·.2)) (ho : PE X iter (tVar i))
    (hg : ∀ (s : Shared) (H : Hp) (C : Addr) (cl : List (Str × Addr)) (fp : List Addr), PG (X.blk s H scope (compEnvC scope cl C X.env) fp) tg (tGx c T)) (ht : ∀ (s : Shared) (H : Hp) (C : Addr) (cl : List (Str × Addr)) (fp : List Addr), PTs (X.blk s H scope (compEnvC scope cl C X.env) fp) ifs (tTx c t))
    (he : ∀ (s : Shared) (H : Hp) (C : Addr) (cl : List (Str × Addr)) (fp : List Addr), PE (X.blk s H scope (compEnvC scope cl C X.env) fp) elt (tEx c m)) (hs : ∀ x, foldedSetIterable iter X.env x = pure x := by intro _; rfl) :
    PE X (.ListComp elt [⟨tg, iter, ifs, 0⟩] scope pos) (tF c W (mLcO i T t m (own.map (·.2)))) := (pe_lc hc hN (pi_list ho) ok hg ht he hs).imp fun σ H Q q => lcO_ok hK hT hi q
theorem mLcO_lst {i : Nat} {T : Tg} {t : En → R Bool} {m : En → R D} {vs : List Nat} (env : En) (d : D) (e : En) (h : mLcO i T t m vs env = .ok d e) : lockO d = false := by
  unfold mLcO at h
  split at h
  · cases z2 : lcO i T t m vs lim 0 (wipeE env vs) with
    | ok ys e2 =>
      rw [z2] at h
      cases h
      rfl
    | er x e2 =>
      rw [z2] at h
      cases h
    | no =>
      rw [z2] at h
      cases h
  · cases h
theorem rs_lcO {i j : Nat} {y : Str} {py : Pos} {elt tg iter : Expr} {ifs : List Expr} {scope : Scope} {pos spos : Pos} {T : Tg} {t : En → R Bool} {m : En → R PV.D} {own : List (Str × Nat)} (hc : X.calm = true) (hN : X.N.Nodup) (hy : X.N[j]? = some y) (hyl : X.env.scope.names.lookup y = some .local)
    (hsw : swapsWith (.ListComp elt [⟨tg, iter, ifs, 0⟩] scope pos) (some (.Name y py)) spos.line X.env = pure true) (hK : c.K = X.K) (ok : BlkOk X.N X.env.scope scope own) (hT : okT (own.map (·.2)) T = true) (hi : i ∉ own.map (·.2)) (ho : PE X iter (tVar i))
    (hg : ∀ (s : Shared) (H : Hp) (C : Addr) (cl : List (Str × Addr)) (fp : List Addr), PG (X.blk s H scope (compEnvC scope cl C X.env) fp) tg (tGx c T)) (ht : ∀ (s : Shared) (H : Hp) (C : Addr) (cl : List (Str × Addr)) (fp : List Addr), PTs (X.blk s H scope (compEnvC scope cl C X.env) fp) ifs (tTx c t))
    (he : ∀ (s : Shared) (H : Hp) (C : Addr) (cl : List (Str × Addr)) (fp : List Addr), PE (X.blk s H scope (compEnvC scope cl C X.env) fp) elt (tEx c m)) (hs : ∀ x, foldedSetIterable iter X.env x = pure x := by intro _; rfl) :
    PS X (.Assign [.Name y py] (.ListComp elt [⟨tg, iter, ifs, 0⟩] scope pos) spos) (tS c W (sSetO j (mLcO i T t m (own.map (·.2))))) := (ps_setLc hc hN hy hyl hsw (pi_list ho) ok hg ht he hs).imp fun Z σ H q => lcO_ok hK hT hi (setO_ok q)
theorem rs_lcOZ {i j : Nat} {y : Str} {py : Pos} {elt tg iter : Expr} {ifs : List Expr} {scope : Scope} {pos spos : Pos} {T : Tg} {t : En → R Bool} {m : En → R PV.D} {own : List (Str × Nat)} (hc : X.calm = true) (hN : X.N.Nodup) (hy : X.N[j]? = some y) (hyl : X.env.scope.names.lookup y = some .local)
    (hsw : swapsWith (.ListComp elt [⟨tg, iter, ifs, 0⟩] scope pos) (some (.Name y py)) spos.line X.env = pure true) (hK : c.K = X.K) (ok : BlkOk X.N X.env.scope scope own) (hT : okT (own.map (·.2)) T = true) (hi : i ∉ own.map (·.2)) (ho : PE X iter (tVar i))
    (hg : ∀ (s : Shared) (H : Hp) (C : Addr) (cl : List (Str × Addr)) (fp : List Addr), PG (X.blk s H scope (compEnvC scope cl C X.env) fp) tg (tGx c T)) (ht : ∀ (s : Shared) (H : Hp) (C : Addr) (cl : List (Str × Addr)) (fp : List Addr), PTs (X.blk s H scope (compEnvC scope cl C X.env) fp) ifs (tTx c t))
    (he : ∀ (s : Shared) (H : Hp) (C : Addr) (cl : List (Str × Addr)) (fp : List Addr), PE (X.blk s H scope (compEnvC scope cl C X.env) fp) elt (tEx c m)) (hs : ∀ x, foldedSetIterable iter X.env x = pure x := by intro _; rfl) :
    PS X (.Assign [.Name y py] (.ListComp elt [⟨tg, iter, ifs, 0⟩] scope pos) spos) (tS c W (sSet j (mLcO i T t m (own.map (·.2))))) := (ps_setLc hc hN hy hyl hsw (pi_list ho) ok hg ht he hs).imp fun Z σ H q => lcO_ok hK hT hi (tE_tF mLcO_lst (set_ok q))
/-! ### for, over an own list -/
def forO (i : Nat) (T : Tg) (m : En → Rs) : Nat → Nat → En → Rs
  | 0, _, _ => .no
  | n + 1, k, e => match ownV e i with
    | some (.lst xs) => (match xs[k]? with
      | none => .nx e
      | some d => (match bindT T d e with
        | none => .no
        | some e1 => (match m e1 with
          | .nx e2 => forO i T m n (k + 1) e2
          | .ct e2 => forO i T m n (k + 1) e2
          | .bk e2 => .nx e2
          | r' => r')))
    | _ => .no
def sForO (i : Nat) (T : Tg) (m : En → Rs) : En → Rs := fun env => if hasT T i = true then .no else forO i T m lim 0 env
end
end PV

/-! sorted, of a list of tuples of ints (the empty tuple may be among them) -/
namespace TiS
open PySem PySem.W PySem.Calls PyProof.Rows Builtin
section
variable {prog : Program} {w : World} {A : Around} {E : Value → Shared → Prop} {s : Shared}
theorem lex_kat {Q : Bool → Shared → Prop} {b fin : Bool} : ∀ {xs ys : List Value} {ns ms : List Int} (i : Nat), IntsAre xs ns → IntsAre ys ms → fin = decide (ns.length < ms.length) → Q (HT.lexLt ns ms) s → KatLex prog w A b fin Q (xs.zip ys) i s
  | _, _, _, _, i, .nil, .nil, hf, h => by
    have e : fin = false := by rw [hf]; rfl
    subst e
    exact kat_nil h
  | _, _, _, _, i, .nil, .cons q u hy, hf, h => by
    have e : fin = true := by rw [hf]; exact decide_eq_true (Nat.succ_pos _)
    subst e
    exact kat_nil h
  | _, _, _, _, i, .cons p t hx, .nil, hf, h => by
    have e : fin = false := by rw [hf]; exact decide_eq_false (Nat.not_lt_zero _)
    subst e
    exact kat_nil h
  | _, _, _, _, i, .cons p t hx, .cons q u hy, hf, h => by
    rw [HT.lexLt_cons] at h
    rw [List.zip_cons_cons]
    refine kat_cons (wpAny_eqBool_int ?_)
    refine kat_go (fun e => kat_yes ?_) (fun e => kat_no ?_)
    · have e : p = q := by simpa using e
      rw [if_pos e] at h
      refine lex_kat (i + 1) hx hy ?_ h
      rw [hf]
      simp only [List.length_cons, Nat.add_lt_add_iff_right]
    · have e : ¬ p = q := by simpa using e
      rw [if_neg e] at h
      exact TS.oneLt_ints _ h
theorem cmp_kat {vs : List Value} {k : Value → List Int} (hv : ∀ v ∈ vs, TS.TupInts s.heap v (k v)) (b : Bool) : SrtO.Cmp prog w A s (tuples' b) (fun p => p.1 ∈ vs) (SrtO.lt2 fun v u => HT.lexLt (k v) (k u)) := by
  intro p q hp hq
  have h1 := hv p.1 hp
  have h2 := hv q.1 hq
  show wpAny (model prog w) A (keyLt' (tuples' b) p.1 q.1) (fun r s' => s' = s ∧ r = HT.lexLt (k p.1) (k q.1)) (fun _ _ => False) s
  generalize k p.1 = ns at h1 ⊢
  generalize k q.1 = ms at h2 ⊢
  obtain ⟨a, xs, e1, ⟨o, ho, hc, n, hd⟩, i⟩ := h1
  obtain ⟨a', ys, e2, ⟨o', ho', hc', n', hd'⟩, i'⟩ := h2
  rw [e1, e2]
  refine kat_lt ho hd ho' hd' (lex_kat 0 i i' ?_ ⟨rfl, rfl⟩)
  have l1 := i.length
  have l2 := i'.length
  rw [Array.length_toList] at l1 l2
  rw [l1, l2]
theorem keyLt_general (x y : Value) : keyLt' general' x y = oneLt' false x y := rfl
theorem cmp_general {vs : List Value} {k : Value → List Int} (hu : A.units < cLine) (hv : ∀ v ∈ vs, TS.TupInts s.heap v (k v)) : SrtO.Cmp prog w A s general' (fun p => p.1 ∈ vs) (SrtO.lt2 fun v u => HT.lexLt (k v) (k u)) := by
  intro p q hp hq
  have h1 := hv p.1 hp
  have h2 := hv q.1 hq
  show wpAny (model prog w) A (keyLt' general' p.1 q.1) (fun r s' => s' = s ∧ r = HT.lexLt (k p.1) (k q.1)) (fun _ _ => False) s
  generalize k p.1 = ns at h1 ⊢
  generalize k q.1 = ms at h2 ⊢
  obtain ⟨a, xs, e1, ht, i⟩ := h1
  obtain ⟨a', ys, e2, ht', i'⟩ := h2
  rw [e1, e2, keyLt_general]
  exact kat_one _ _ (HT.lt_tupInts ht ht' i i' hu ⟨rfl, rfl⟩)
theorem cmp_one {vs : List Value} {k : Value → List Int} (hu : A.units + 1 < cLine) (hv : ∀ v ∈ vs, TS.TupInts s.heap v (k v)) : SrtO.Cmp prog w A s oneType' (fun p => p.1 ∈ vs) (SrtO.lt2 fun v u => HT.lexLt (k v) (k u)) := by
  intro p q hp hq
  have h1 := hv p.1 hp
  have h2 := hv q.1 hq
  show wpAny (model prog w) A (keyLt' oneType' p.1 q.1) (fun r s' => s' = s ∧ r = HT.lexLt (k p.1) (k q.1)) (fun _ _ => False) s
  generalize k p.1 = ns at h1 ⊢
  generalize k q.1 = ms at h2 ⊢
  obtain ⟨a, xs, e1, ⟨⟨cls, dd, data, sl⟩, ho, hc, n, hd⟩, i⟩ := h1
  obtain ⟨a', ys, e2, ⟨⟨cls2, dd2, data2, sl2⟩, ho2, hc2, n2, hd2⟩, i'⟩ := h2
  simp only at hc hd hc2 hd2
  subst hc hd hc2 hd2
  rw [e1, e2, keyLt'_oneType, oneLt'_eq]
  simp only [if_true]
  refine wpAny_bind (wpAny_cRoomFor (by omega) ?_)
  refine wpAny_bind (wpAny_callSpecialIfBound?_slot (T := "tuple") ⟨_, ho, rfl⟩ PySem.F.slot_tuple_lt (call_meets PySem.F.slot_tuple_lt ⟨_, ho, rfl⟩ PySem.F.entry_tuple_lt (PySem.F.args_tuple_lt_2 _ _) (HT.tuple_lt_ints a a' xs ys n n2 dd dd2 sl sl2 ns ms i i') ⟨ho, ho2, ?_⟩))
  exact wpAny_truthy_bool ⟨rfl, rfl⟩
/-! the kind -/
theorem firstsO : ∀ {vs : List Value} {k : Value → List Int}, (∀ v ∈ vs, TS.TupInts s.heap v (k v)) → ∃ os : List (Option Value), os.map Option.isSome = vs.map (fun v => !(k v).isEmpty) ∧ (∀ o ∈ os, ∀ v, o = some v → ∃ n t, v = Value.int n t) ∧
    ∀ (M : Model) (A : Around) (E : Value → Shared → Prop) (Q : List (Option Value) → Shared → Prop), Q os s → wpAny M A (vs.mapM firstOfTuple') Q E s
  | [], k, _ => ⟨[], rfl, fun o h => (nomatch h), fun M A E Q h => by rw [List.mapM_nil]; exact wpAny_pure h⟩
  | v :: vs, k, hv => by
    obtain ⟨os, h1, h2, h3⟩ := firstsO fun u hu => hv u (List.mem_cons_of_mem _ hu)
    have hv0 := hv v (List.mem_cons_self ..)
    generalize hk : k v = ns at hv0
    obtain ⟨a, xs, e, ⟨o, ho, hc, n, hd⟩, i⟩ := hv0
    refine ⟨xs[0]? :: os, ?_, ?_, fun M A E Q h => ?_⟩
    · rw [List.map_cons, List.map_cons, h1, hk]
      congr 1
      have l1 := i.length
      rw [Array.length_toList] at l1
      cases ns with
      | nil =>
        rw [Array.getElem?_eq_none (by rw [l1]; exact Nat.le_refl _)]
        rfl
      | cons y ys =>
        rw [Array.getElem?_eq_getElem (by rw [l1]; exact Nat.succ_pos _)]
        rfl
    · intro o' ho' u hu
      rcases List.mem_cons.mp ho' with rfl | ho'
      · have hm : u ∈ xs.toList := by
          rw [Array.getElem?_eq_some_iff] at hu
          obtain ⟨hl, rfl⟩ := hu
          exact Array.mem_toList_iff.mpr (Array.getElem_mem hl)
        exact i.all u hm
      · exact h2 o' ho' u hu
    · rw [List.mapM_cons]
      refine wpAny_bind ?_
      rw [e, kas_first_eq]
      refine wpAny_bind (Looks.here (show Looks M s.heap (typeOf (.ref a)) o.cls from (Looks.ld ho).andThen .now) ?_)
      rw [hc, if_neg (by first | decide | simp)]
      refine wpAny_bind (listItems_at ho hd (wpAny_pure ?_))
      exact wpAny_bind (h3 M A E _ (wpAny_pure h))
theorem tup_sortable {a : Addr} {vs : List Value} {k : Value → List Int} (h0 : 2 ≤ vs.length) (hu : A.units + 1 < cLine) (hp : ∀ v ∈ vs, TS.TupInts s.heap v (k v)) (ha : ∀ o, s.heap.get? a = some o → o.cls ≠ .type "tuple") : SrtO.SortableO prog w A s a vs fun v u => HT.lexLt (k v) (k u) := by
  intro h' keep
  have hp' : ∀ v ∈ vs, TS.TupInts h' v (k v) := fun v hm => (hp v hm).keeps fun b o e c => keep b o (fun z => by subst z; exact ha o e c) e
  obtain ⟨os, h1, h2, h3⟩ := firstsO (s := { s with heap := h' }) hp'
  have hT : ∀ v ∈ vs, Looks (model prog w) h' (typeOf v) (.type "tuple") := fun v hm => by
    obtain ⟨a, xs, e, ⟨o, ho, hc, n, hd⟩, i⟩ := hp' v hm
    rw [e]
    have : Looks (model prog w) h' (typeOf (.ref a)) o.cls := (Looks.ld ho).andThen .now
    rw [hc] at this
    exact this
  by_cases hall : ∀ o ∈ os, o.isSome = true
  · refine ⟨tuples' true, fun Q E hq => ?_, cmp_kat (s := { s with heap := h' }) hp' true⟩
    rw [kat_kind_eq, List.mapM_toArray, map_eq_pure_bind]
    refine wpAny_bind (wpAny_bind (h3 _ _ _ _ (wpAny_pure ?_)))
    have ha : (os.toArray.all fun x => x.isSome) = true := by simpa using hall
    rw [if_pos ha]
    refine wpAny_bind (wpAny_rule ?_)
    have hlen : os.length = vs.length := by
      have := congrArg List.length h1
      simpa using this
    obtain ⟨fs, rfl⟩ : ∃ fs : List Value, os = fs.map some := by
      clear h1 h3 ha hlen h2
      induction os with
      | nil => exact ⟨[], rfl⟩
      | cons o os ih =>
        obtain ⟨fs, e⟩ := ih fun x hx => hall x (List.mem_cons_of_mem _ hx)
        obtain ⟨f, e1⟩ := Option.isSome_iff_exists.mp (hall o (List.mem_cons_self ..))
        exact ⟨f :: fs, by rw [e, e1]; rfl⟩
    have hfm : ((fs.map some).toArray.filterMap id) = fs.toArray := by simp
    rw [hfm, oneTypeOnly'_eq, List.mapM_toArray, map_eq_pure_bind]
    refine wpAny_bind (wpAny_bind (wpAny_bind (kas_mapM (r := Value.type "int") _ (fun v hv Q' hq => ?_) (wpAny_pure ?_))))
    · obtain ⟨n, t, rfl⟩ := h2 (some v) (List.mem_map.mpr ⟨v, hv, rfl⟩) v rfl
      exact (Looks.of_pure (M := model prog w) (h := h') (t := typeOf (Value.int n t)) rfl).here hq
    · rw [List.length_map] at hlen
      obtain ⟨f₁, fr, rfl⟩ : ∃ f₁ fr, fs = f₁ :: fr := by
        match fs, hlen with
        | [], hl => rw [List.length_nil] at hl; omega
        | f₁ :: fr, _ => exact ⟨f₁, fr, rfl⟩
      have hall2 : ((List.map (fun _ => Value.type "int") (f₁ :: fr)).toArray.all fun x => x == Value.type "int") = true := by
        simp only [List.all_toArray, List.all_map, List.all_eq_true]
        intro _ _
        rfl
      have h0 : (List.map (fun _ => Value.type "int") (f₁ :: fr)).toArray[0]? = some (Value.type "int") := by simp
      rw [h0]
      simp only [hall2, if_true]
      refine wpAny_pure (wpAny_pure ?_)
      have e : (Value.type "int" != Value.type "tuple") = true := by first | decide +kernel | rfl | decide
      show Q (tuples' (Value.type "int" != Value.type "tuple")) _
      rw [e]
      exact hq
  · have hone : ∀ {A : Around} {E : Value → Shared → Prop} {Q : Option Value → Shared → Prop}, Q (some (.type "tuple")) { s with heap := h' } → wpAny (model prog w) A (oneTypeOnly' vs.toArray) Q E { s with heap := h' } := fun {A E Q} hq => by
      rw [oneTypeOnly'_eq, List.mapM_toArray, map_eq_pure_bind]
      refine wpAny_bind (wpAny_bind (kas_mapM (r := Value.type "tuple") _ (fun v hv Q' hq => (hT v hv).here hq) (wpAny_pure ?_)))
      obtain ⟨f₁, fr, rfl⟩ : ∃ f₁ fr, vs = f₁ :: fr := by
        match vs, h0 with
        | [], hl => rw [List.length_nil] at hl; omega
        | f₁ :: fr, _ => exact ⟨f₁, fr, rfl⟩
      have hall2 : ((List.map (fun _ => Value.type "tuple") (f₁ :: fr)).toArray.all fun x => x == Value.type "tuple") = true := by
        simp only [List.all_toArray, List.all_map, List.all_eq_true]
        intro _ _
        rfl
      have h0 : (List.map (fun _ => Value.type "tuple") (f₁ :: fr)).toArray[0]? = some (Value.type "tuple") := by simp
      rw [h0]
      simp only [hall2, if_true]
      exact wpAny_pure hq
    have ha : (os.toArray.all fun x => x.isSome) = false := by
      rw [← Bool.not_eq_true]
      intro z
      exact hall (by simpa using z)
    cases hz : (os.toArray[0]?.bind id).isSome with
    | true =>
      refine ⟨general', fun Q E hq => ?_, cmp_general (s := { s with heap := h' }) (by omega) hp'⟩
      rw [kat_kind_eq, List.mapM_toArray, map_eq_pure_bind]
      refine wpAny_bind (wpAny_bind (h3 _ _ _ _ (wpAny_pure ?_)))
      rw [if_neg (by rw [ha]; exact Bool.false_ne_true), if_pos hz]
      exact wpAny_pure hq
    | false =>
      refine ⟨oneType', fun Q E hq => ?_, cmp_one (s := { s with heap := h' }) hu hp'⟩
      rw [kat_kind_eq, List.mapM_toArray, map_eq_pure_bind]
      refine wpAny_bind (wpAny_bind (h3 _ _ _ _ (wpAny_pure ?_)))
      rw [if_neg (by rw [ha]; exact Bool.false_ne_true), if_neg (by rw [hz]; exact Bool.false_ne_true)]
      refine wpAny_bind (hone ?_)
      exact wpAny_pure hq
end
end TiS
namespace L2
open PySem PySem.Spec PyProof.Rows
/-- sorted(xs), xs a list of tuples of ints -/
def rSortedTI (K : PySem.W.Frag) : List V → Hp → VK → Prop := fun vs H Q => ∃ (a : Addr) (ps : List (Addr × List Int)), vs = [V.ref a] ∧ SqL K H a (ps.map fun p => V.ref p.1) ∧ (∀ p ∈ ps, SqT K H p.1 (p.2.map V.int)) ∧
  ∀ (ps' : List (Addr × List Int)) (p : Addr), ps'.Perm ps → ps'.Pairwise (fun p q => HT.lexLt q.2 p.2 = false) → H p = none → Q (.ref p) (upd H p (.lst (ps'.map fun p => V.ref p.1)))
section
variable {X : Cx}
theorem cr_sortedTI (hu : X.A.units + 64 < cLine) : CallR X (.builtin "sorted") (rSortedTI X.K) := by
  intro pins s σ H vs us Q I r h
  obtain ⟨a, ps, rfl, hs, hx, q⟩ := h
  obtain ⟨its, rv, hl, hz⟩ := I.list hs
  rw [Vals.ref1 r]
  have ei : its = ps.map fun p => Value.ref p.1 := by
    have := nts_of (ts := ps.map (·.1)) (us := its) (by rw [List.map_map]; exact rv)
    rw [this, List.map_map]
    rfl
  have hzs : its.length ≤ sizeLine := by rw [← rv.length]; exact hz
  have hps : ∀ p ∈ ps, TS.TupInts s.heap (.ref p.1) p.2 := fun p hp => by
    obtain ⟨zs, rz, pz, _⟩ := I.tuple (hx p hp)
    exact ⟨p.1, zs.toArray, rfl, pz, intsAre_of rz⟩
  have hk : ∀ p ∈ ps, TS.intsOf s.heap (.ref p.1) = p.2 := fun p hp => (hps p hp).ints
  have hv : ∀ u ∈ its, TS.TupInts s.heap u (TS.intsOf s.heap u) := fun u hm => by
    rw [ei] at hm
    obtain ⟨p, hp, rfl⟩ := List.mem_map.mp hm
    rw [hk p hp]
    exact hps p hp
  refine SrtO.sorted_ord (NtL.swo_lexL fun u => TS.intsOf s.heap u) hl.isList hzs (fun h2 h₁ b hb kk => ?_) fun out h1 h2 => ?_
  · refine TiS.tup_sortable (s := { s with heap := h₁ }) h2 (by show X.A.units + 1 + 1 + 1 < cLine; omega) (fun v hm => (hv v hm).keeps fun b o e _ => (kk b o e).2) fun o e => ?_
    have e' : some o = some (seqObj "list" its.toArray 0) := e.symm.trans hb
    cases e'
    intro c
    exact absurd (Value.type.inj c) (by decide)
  · obtain ⟨ep, he'⟩ := PyProof.Rows.sortedAll_at s.heap its out.toArray
    let f : Value → Addr × List Int := fun u => (adO u, TS.intsOf s.heap u)
    have eo : out = (out.map f).map fun p => Value.ref p.1 := by
      rw [List.map_map]
      refine (List.map_id out).symm.trans (List.map_congr_left fun u hm => ?_)
      have hm' : u ∈ its := h2.perm.mem_iff.mp hm
      rw [ei] at hm'
      obtain ⟨t, _, rfl⟩ := List.mem_map.mp hm'
      rfl
    have hp : (out.map f).Perm ps := by
      have p1 := h2.perm.map f
      have e2 : its.map f = ps := by
        rw [ei, List.map_map]
        refine Eq.trans (List.map_congr_left fun p hp => ?_) (List.map_id ps)
        show (p.1, TS.intsOf s.heap (.ref p.1)) = p
        rw [hk p hp]
      rw [e2] at p1
      exact p1
    have hsrt : (out.map f).Pairwise (fun p q => HT.lexLt q.2 p.2 = false) := List.pairwise_map.mpr (h1.imp fun {x y} z => z)
    have hlen : ((out.map f).map fun p => V.ref p.1).length ≤ sizeLine := by
      rw [List.length_map, hp.length_eq]
      rw [List.length_map] at hz
      exact hz
    have rvo : Vals ((out.map f).map fun p => V.ref p.1) out := by
      have z := of_nts ((out.map f).map (·.1))
      have e3 : ((out.map f).map (·.1)).map Value.ref = out := (List.map_map ..).trans eo.symm
      have e4 : ((out.map f).map (·.1)).map V.ref = (out.map f).map fun p => V.ref p.1 := List.map_map ..
      rw [e3, e4] at z
      exact z
    exact ⟨.ref _, upd H (s.heap.objs.size + 1) (.lst ((out.map f).map fun p => V.ref p.1)), I.laid (t' := s.toks) (fun _ _ e => PyProof.Rows.sortedAll_old e) (Nat.le_succ _) ⟨hlen, out, ep, rvo, he'⟩, rfl, q _ _ hp hsrt (I.hok.fresh (Nat.le_succ _))⟩
end
end L2
namespace PV
open PySem PySem.Spec PyProof.Rows L2
section
variable {c : Cn} {W : WX} {X : Cx}
/-! ### lists of int lists, in order -/
def tupI (ns : List Int) : D := .tup (ns.map D.int)
def tupsI : List D → Option (List (List Int))
  | [] => some []
  | .tup xs :: r => (intsD xs).bind fun ns => (tupsI r).map (ns :: ·)
  | _ => none
theorem tupsI_map : ∀ l : List (List Int), tupsI (l.map tupI) = some l
  | [] => rfl
  | ns :: r => by
    show (intsD (ns.map D.int)).bind (fun ns => (tupsI (r.map tupI)).map (ns :: ·)) = _
    have e : ∀ l : List Int, intsD (l.map D.int) = some l := fun l => by
      induction l with
      | nil => rfl
      | cons x r ih =>
        show (intsD (r.map D.int)).map (x :: ·) = _
        rw [ih]
        rfl
    rw [e ns, tupsI_map r]
    rfl
def leL (a b : List Int) : Prop := HT.lexLt b a = false
def insL (x : List Int) : List (List Int) → List (List Int)
  | [] => [x]
  | y :: r => if HT.lexLt y x = false then x :: y :: r else y :: insL x r
def srtL : List (List Int) → List (List Int)
  | [] => []
  | x :: r => insL x (srtL r)
theorem insL_perm (x : List Int) : ∀ l : List (List Int), (insL x l).Perm (x :: l)
  | [] => .refl _
  | y :: r => by
    unfold insL
    split
    · exact .refl _
    · exact ((insL_perm x r).cons y).trans (.swap x y r)
theorem srtL_perm : ∀ l : List (List Int), (srtL l).Perm l
  | [] => .refl _
  | x :: r => by
    unfold srtL
    exact (insL_perm x _).trans ((srtL_perm r).cons x)
theorem leL_trans {a b d : List Int} (h1 : leL a b) (h2 : leL b d) : leL a d := NtL.lex_tr a b d h1 h2
theorem leL_anti : ∀ {a b : List Int}, leL a b → leL b a → a = b
  | [], [], _, _ => rfl
  | [], y :: ys, _, h => by cases h
  | x :: xs, [], h, _ => by cases h
  | x :: xs, y :: ys, h1, h2 => by
    unfold leL at h1 h2
    rw [HT.lexLt_cons] at h1 h2
    by_cases e : x = y
    · rw [if_pos e.symm] at h1
      rw [if_pos e] at h2
      rw [e, leL_anti h1 h2]
    · rw [if_neg (Ne.symm e)] at h1
      rw [if_neg e] at h2
      have := of_decide_eq_false h1
      have := of_decide_eq_false h2
      omega
theorem insL_srt (x : List Int) : ∀ {l : List (List Int)}, l.Pairwise leL → (insL x l).Pairwise leL
  | [], _ => by
    unfold insL
    simp
  | y :: r, h => by
    unfold insL
    rw [List.pairwise_cons] at h
    split
    · rename_i hx
      refine List.pairwise_cons.mpr ⟨fun z hz => ?_, List.pairwise_cons.mpr h⟩
      rcases List.mem_cons.mp hz with e | hz
      · rw [e]; exact hx
      · exact leL_trans hx (h.1 z hz)
    · rename_i hx
      have hx : HT.lexLt y x = true := by
        rw [← Bool.not_eq_false]
        exact hx
      refine List.pairwise_cons.mpr ⟨fun z hz => ?_, insL_srt x h.2⟩
      rcases List.mem_cons.mp ((insL_perm x r).mem_iff.mp hz) with e | hz
      · rw [e]; exact NtL.lex_asym _ _ hx
      · exact h.1 z hz
theorem srtL_srt : ∀ l : List (List Int), (srtL l).Pairwise leL
  | [] => by
    unfold srtL
    exact .nil
  | x :: r => by
    unfold srtL
    exact insL_srt x (srtL_srt r)
theorem srtL_one {a b : List (List Int)} (h : a.Perm b) (sa : a.Pairwise leL) (sb : b.Pairwise leL) : a = b := h.eq_of_pairwise (fun x y _ _ h1 h2 => leL_anti h1 h2) sa sb
def oSortedT : List D → Option D
  | [d] => ((lstD d).bind tupsI).map fun nss => .lst ((srtL nss).map tupI)
  | _ => none
theorem intsD_vals {g : Gc} {F : Hp} : ∀ {xs : List D} {vs : List V} {ns : List Int}, Reps g F xs vs → intsD xs = some ns → vs = ns.map V.int
  | _, _, ns, .nil, e => by
    cases e
    rfl
  | _, _, ns, @Reps.cons _ _ x xs v vs h t, e => by
    cases x with
    | int i =>
      have e : (intsD xs).map (i :: ·) = some ns := e
      cases q : intsD xs with
      | none =>
        rw [q] at e
        cases e
      | some ms =>
        rw [q] at e
        cases e
        cases h
        rw [List.map_cons, intsD_vals t q]
    | _ => cases e
theorem tups_refs {g : Gc} {F : Hp} : ∀ {xs : List D} {vs : List V} {nss : List (List Int)}, Reps g F xs vs → tupsI xs = some nss → ∃ ps : List (Addr × List Int), vs = ps.map (fun p => V.ref p.1) ∧ nss = ps.map (·.2) ∧ ∀ p ∈ ps, SqT g.K F p.1 (p.2.map V.int)
  | _, _, nss, .nil, e => by
    cases e
    exact ⟨[], rfl, rfl, fun p hp => (nomatch hp)⟩
  | _, _, nss, @Reps.cons _ _ x xs v vs h t, e => by
    cases x with
    | tup ys =>
      have e : (intsD ys).bind (fun ns => (tupsI xs).map (ns :: ·)) = some nss := e
      cases q : intsD ys with
      | none =>
        rw [q] at e
        cases e
      | some ms =>
        rw [q] at e
        cases q2 : tupsI xs with
        | none =>
          rw [q2] at e
          cases e
        | some mss =>
          rw [q2] at e
          cases e
          obtain ⟨ps, h1, h2, h3⟩ := tups_refs t q2
          cases h with
          | @tup a _ ws hs hr =>
            refine ⟨(a, ms) :: ps, by rw [h1]; rfl, by rw [h2]; rfl, fun p hp => ?_⟩
            rcases List.mem_cons.mp hp with rfl | hp
            · rw [← intsD_vals hr q]
              exact hs
            · exact h3 p hp
    | _ => cases e
theorem of_sortedT {g : Gc} : OpF g (rSortedTI g.K) oSortedT := fun ds vs d F H Q w R e k => by
  unfold oSortedT at e
  split at e
  · rename_i d1
    cases q : lstD d1 with
    | none =>
      rw [q] at e
      cases e
    | some xs =>
      rw [q] at e
      cases q2 : tupsI xs with
      | none =>
        rw [show ((some xs).bind tupsI) = tupsI xs from rfl, q2] at e
        cases e
      | some nss =>
        rw [show ((some xs).bind tupsI) = tupsI xs from rfl, q2] at e
        cases e
        obtain ⟨x, rfl, h1⟩ := R.one
        obtain ⟨a, ws, rfl, h2, h3⟩ := h1.list_ w q
        obtain ⟨ps, rfl, rfl, h4⟩ := tups_refs h3 q2
        refine ⟨a, ps, rfl, h2, fun p hp => sqT_mono w.sub (h4 p hp), fun ps' p hp hs hn => ?_⟩
        have e : ps'.map (·.2) = srtL (ps.map (·.2)) := srtL_one ((hp.map (·.2)).trans (srtL_perm _).symm) (List.pairwise_map.mpr (hs.imp fun {x y} z => z)) (srtL_srt _)
        refine k p _ hn ?_
        show RepO g F (.lst ((srtL (ps.map (·.2))).map tupI)) _
        rw [← e, List.map_map]
        refine .lst ?_
        have hm : ∀ t ∈ ps', SqT g.K F t.1 (t.2.map V.int) := fun t ht => h4 t (hp.mem_iff.mp ht)
        clear e hs hn hp
        induction ps' with
        | nil => exact .nil
        | cons t r ih =>
          exact .cons (.tup (hm t (List.mem_cons_self ..)) (Reps.ofInts _)) (ih fun t ht => hm t (List.mem_cons_of_mem _ ht))
  · cases e
/-- sorted: of a list of ints, a dict with int keys, a list of tuples of ints -/
def rSortedY (K : PySem.W.Frag) : List V → Hp → VK → Prop := fun xs H Q => rSortedX K xs H Q ∨ rSortedTI K xs H Q
theorem cr_sortedY (hc : X.calm = true) (hu : X.A.units + 64 < cLine) : CallR X (.builtin "sorted") (rSortedY X.K) := (cr_sortedX hc).or (cr_sortedTI hu)
def oSortedY (ds : List D) : Option D := (oSortedX ds).or (oSortedT ds)
theorem of_sortedY {g : Gc} : OpF g (rSortedY g.K) oSortedY := fun ds vs d F H Q w R e k => by
  unfold oSortedY at e
  cases q : oSortedX ds with
  | some d1 =>
    rw [q] at e
    cases e
    exact .inl (of_sortedX ds vs d F H Q w R q k)
  | none =>
    rw [q] at e
    exact .inr (of_sortedT ds vs d F H Q w R e k)
end
end PV

/-! in, of data in a list or a tuple of data -/
namespace PV
open PySem PySem.Spec PyProof.Rows L2
section
variable {c : Cn} {W : WX} {X : Cx}
def rInT (K : PySem.W.Frag) (neg : Bool) : R2 := fun x y H Q => ∃ d ds, Dp K H x d ∧ (Dp K H y (.list ds) ∨ Dp K H y (.tuple ds)) ∧ SeqAt.shaped d = true ∧ PyData.canLayAll0 ds = true ∧ d.depth ≤ 60 ∧ Q (.bl (if neg then !ds.any (fun z => PyData.eqv z d) else ds.any fun z => PyData.eqv z d)) H
theorem op_inT (hu : X.A.units + 64 < cLine) : OpR X (compareOp .In) (rInT X.K false) := by
  intro pins s σ H x y v u Q I rx ry h
  obtain ⟨d, ds, hd, he, sd, se, hk, q⟩ := h
  obtain ⟨as, r1⟩ := Dp.reads I d x v hd rx
  have hr : X.A.units + 1 + min (PyData.depthAll ds) d.depth < cLine := by
    have := Nat.min_le_right (PyData.depthAll ds) d.depth
    omega
  rcases he with he | he
  · obtain ⟨bs, r2⟩ := Dp.reads I (.list ds) y u he ry
    exact SeqAt.in_list_reads r2 r1 se (SeqAt.canLay_of_shaped sd) hr ⟨.bl _, H, I, rfl, q⟩
  · obtain ⟨bs, r2⟩ := Dp.reads I (.tuple ds) y u he ry
    exact SeqAt.in_tuple_reads r2 r1 se (SeqAt.canLay_of_shaped sd) hr ⟨.bl _, H, I, rfl, q⟩
theorem op_notInT (hu : X.A.units + 64 < cLine) : OpR X (compareOp .NotIn) (rInT X.K true) := by
  intro pins s σ H x y v u Q I rx ry h
  obtain ⟨d, ds, hd, he, sd, se, hk, q⟩ := h
  obtain ⟨as, r1⟩ := Dp.reads I d x v hd rx
  have hr : X.A.units + 1 + min (PyData.depthAll ds) d.depth < cLine := by
    have := Nat.min_le_right (PyData.depthAll ds) d.depth
    omega
  rcases he with he | he
  · obtain ⟨bs, r2⟩ := Dp.reads I (.list ds) y u he ry
    exact SeqAt.notIn_list_reads r2 r1 se (SeqAt.canLay_of_shaped sd) hr ⟨.bl _, H, I, rfl, q⟩
  · obtain ⟨bs, r2⟩ := Dp.reads I (.tuple ds) y u he ry
    exact SeqAt.notIn_tuple_reads r2 r1 se (SeqAt.canLay_of_shaped sd) hr ⟨.bl _, H, I, rfl, q⟩
def itemsP : PyData → Option (List PyData)
  | .list ds => some ds
  | .tuple ds => some ds
  | _ => none
def inT (neg : Bool) : List D → Option D
  | [d, e] => (toP d).bind fun p => ((toP e).bind itemsP).bind fun ds => if SeqAt.shaped p = true ∧ PyData.canLayAll0 ds = true ∧ p.depth ≤ 60 then some (.bl (if neg then !ds.any (fun z => PyData.eqv z p) else ds.any fun z => PyData.eqv z p)) else none
  | _ => none
theorem oa_inT {g : Gc} (neg : Bool) : OpA g (r2 (rInT g.K neg)) (inT neg) := fun ds vs d F H Q w R e k => by
  unfold inT at e
  split at e
  · rename_i d1 d2
    obtain ⟨x, y, rfl, h1, h2⟩ := R.two
    cases q1 : toP d1 with
    | none =>
      rw [q1] at e
      cases e
    | some p =>
      cases q2 : toP d2 with
      | none =>
        rw [q1, q2] at e
        cases e
      | some q =>
        rw [q1, q2] at e
        have e : ((itemsP q).bind fun ds => if SeqAt.shaped p = true ∧ PyData.canLayAll0 ds = true ∧ p.depth ≤ 60 then some (.bl (if neg then !ds.any (fun z => PyData.eqv z p) else ds.any fun z => PyData.eqv z p)) else none) = some d := e
        have hy := h2.dp w q2
        have fin : ∀ ps : List PyData, (Dp g.K H y (.list ps) ∨ Dp g.K H y (.tuple ps)) → (if SeqAt.shaped p = true ∧ PyData.canLayAll0 ps = true ∧ p.depth ≤ 60 then some (D.bl (if neg then !ps.any (fun z => PyData.eqv z p) else ps.any fun z => PyData.eqv z p)) else none) = some d → r2 (rInT g.K neg) [x, y] H Q := fun ps hp e => by
          split at e
          · rename_i hs
            cases e
            exact ⟨p, ps, h1.dp w q1, hp, hs.1, hs.2.1, hs.2.2, k _ H F (Go.refl w) .bl⟩
          · cases e
        cases q with
        | list ps => exact fin ps (.inl hy) e
        | tuple ps => exact fin ps (.inr hy) e
        | _ => cases e
  · cases e
def rInY (K : PySem.W.Frag) (neg : Bool) : R2 := fun x y H Q => rInX K neg x y H Q ∨ rInT K neg x y H Q
theorem op_inY (hu : X.A.units + 64 < cLine) : OpR X (compareOp .In) (rInY X.K false) := (op_inX hu).or (op_inT hu)
theorem op_notinY (hu : X.A.units + 64 < cLine) : OpR X (compareOp .NotIn) (rInY X.K true) := (op_notinX hu).or (op_notInT hu)
def inY (neg : Bool) (ds : List D) : Option D := (inX neg ds).or (inT neg ds)
theorem r2_or {r r' : R2} {vs : List V} {H : Hp} {Q : VK} (h : r2 r vs H Q ∨ r2 r' vs H Q) : r2 (fun x y H Q => r x y H Q ∨ r' x y H Q) vs H Q := by
  match vs, h with
  | [x, y], h => exact h
theorem oa_inY {g : Gc} (neg : Bool) : OpA g (r2 (rInY g.K neg)) (inY neg) := fun ds vs d F H Q w R e k => by
  unfold inY at e
  cases q : inX neg ds with
  | some d1 =>
    rw [q] at e
    cases e
    exact r2_or (.inl (oa_inX neg ds vs d F H Q w R q k))
  | none =>
    rw [q] at e
    exact r2_or (.inr (oa_inT neg ds vs d F H Q w R e k))
end
end PV

/-! sorted(set(x)), x a list or a tuple of ints -/
namespace L2
open PySem PySem.Spec PyProof.Rows
section
variable {P : Program} {w : World} {A : Around} {E : Value → Shared → Prop} {s : Shared}
/-- a new set's object -/
abbrev set0 (w : World) : Obj := { cls := .type "set", dict := none, data := .set #[] 0 (.fresh 0 0 (!w.params.followText "set-order")) }
/-- the loop of set(x) over a list of ints -/
theorem set_init_listI {l : Addr} {items : Array Value} {ns : List Int} (hh : A.handled = none) (hl : s.heap.IsList l items) (hi : IntsAre items.toList ns) (hb : ns.length + 1 < scanBound) {R : Result → Shared → Prop}
    (h : ∀ (h' : Heap) (tk c : Nat), SetR w h' s.heap.objs.size (fun j => decide (j ∈ ns)) c → c ≤ ns.length → (∀ b o, s.heap.get? b = some o → h'.get? b = some o) → R (.ok (.ret .none)) { s with heap := h', toks := tk }) :
    codeAny (model P w) A (.builtin "set.update.loop" ⟨[.ref s.heap.objs.size, .ref (s.heap.push (set0 w)).objs.size], []⟩) R { s with heap := (s.heap.push (set0 w)).push { cls := .type "list_iterator", data := .fields #[.ref l, .int 0 0] } } := by
  have hz : items.size = ns.length := by
    have q := IntsAre.length hi
    rw [Array.length_toList] at q
    exact q
  have hlS : l < s.heap.objs.size := let ⟨_, ho, _⟩ := hl; Heap.lt_size ho
  have hI : l ≠ (s.heap.push (set0 w)).objs.size := by rw [Heap.size_push]; exact Nat.ne_of_lt (Nat.lt_succ_of_lt hlS)
  have hS : s.heap.objs.size ≠ (s.heap.push (set0 w)).objs.size := by rw [Heap.size_push]; exact Nat.ne_of_lt (Nat.lt_succ_self _)
  have h3 : A.in1.handled = none := by simp [hh]
  refine set_update_ints ((Walks.list h3 _ l hI items).toS) s.heap.objs.size (by simp only [List.mem_cons, List.not_mem_nil, or_false, not_or]; exact ⟨hS, Nat.ne_of_gt hlS⟩) ns hz hb (fun i v hv => ?_) (items.size - 0) 0 _ (by omega) (Nat.zero_le _)
    ⟨⟨_, Heap.get?_push_size _ rfl, rfl, rfl⟩, (hl.push _).push _⟩ ⟨0, Nat.le_refl 0, setR_new_at (Heap.get?_push_of_some _ (Heap.get?_push_size _ rfl))⟩ fun s' c hm hc hR => ?_
  · have hk : i < ns.length := by rw [← hz]; exact (Array.getElem?_eq_some_iff.mp hv).1
    obtain ⟨t, e⟩ := PyProof.Rows.IntsAre.int_at hi i v (by rw [Array.getElem?_toList]; exact hv)
    refine ⟨ns[i], t, List.getElem?_eq_getElem hk, ?_⟩
    rw [e, List.getD_eq_getElem?_getD, List.getElem?_eq_getElem hk] <;> rfl
  · obtain ⟨h', g2, d', tk', os'⟩ := s'
    have eg : g2 = s.gens := hm.gens
    have ed : d' = s.drawn := hm.drawn
    have eo : os' = s.os := hm.os
    subst eg; subst ed; subst eo
    rw [hz] at hc
    refine h h' tk' c hR hc fun b o e => ?_
    have b0 : b < s.heap.objs.size := Heap.lt_size e
    exact hm.heap b o (by simp only [List.mem_cons, List.not_mem_nil, or_false, not_or]; rw [Heap.size_push]; exact ⟨Nat.ne_of_lt b0, Nat.ne_of_lt (Nat.lt_succ_of_lt b0)⟩) (Heap.get?_push_of_some _ (Heap.get?_push_of_some _ e))
/-- set(x), x a list of ints -/
theorem call_set_listI {l : Addr} {items : Array Value} {ns : List Int} {Q : Value → Shared → Prop} (hh : A.handled = none) (hl : s.heap.IsList l items) (hi : IntsAre items.toList ns) (hb : ns.length + 1 < scanBound)
    (h : ∀ (h' : Heap) (tk c : Nat), SetR w h' s.heap.objs.size (fun j => decide (j ∈ ns)) c → c ≤ ns.length → (∀ b o, s.heap.get? b = some o → h'.get? b = some o) → Q (.ref s.heap.objs.size) { s with heap := h', toks := tk }) :
    wpAny (model P w) A (call (.type "set") [.ref l]) Q E s := by
  obtain ⟨c, tl, hmro⟩ := F.called_set.mro
  have hmade := F.called_set.made
  have hsub := F.called_set.sub
  refine wpAny_call (codeAny_of_tree ?_)
  show wpAny _ _ (callAny (.type "set") _) _ _ _
  refine wpAny_pure ⟨Code.quiet_builtin _ (by decide +kernel), codeAny_builtin F.entry_type_call ?_⟩
  rw [Around.under_plain (weight_type_call_type "set" [.ref l] []) rfl]
  have h1 := F.called_set.notType
  have h2 := F.called_set.canCreate
  have hct := F.typeCall_set_1 (.ref l)
  repeat (any_goals (first | assumption | wp_step))
  refine codeAny_mono (code_set_led1 (.ref l) (E := E) (Q₁ := fun obj s₁ => obj = .ref s.heap.objs.size ∧ s₁ = { s with heap := s.heap.push (set0 w) }) ⟨rfl, rfl⟩) fun r s₁ hr => ?_
  cases r with
  | error e => exact hr
  | ok fl =>
    cases fl with
    | ret obj =>
      obtain ⟨rfl, rfl⟩ := hr
      have hT : Shared.TypeIs { s with heap := s.heap.push (set0 w) } (.ref s.heap.objs.size) "set" := ⟨_, Heap.get?_push_size _ rfl, rfl⟩
      have hli := F.called_set.init.lookup
      have hbi := F.called_set.init.bind (.ref s.heap.objs.size)
      repeat (any_goals (first | assumption | wp_step))
      refine codeAny_mono (codeAny_call_builtin (R := wants (fun r s₂ => r = .none ∧ ∃ h' tk c, s₂ = { s with heap := h', toks := tk } ∧ SetR w h' s.heap.objs.size (fun j => decide (j ∈ ns)) c ∧ c ≤ ns.length ∧ (∀ b o, s.heap.get? b = some o → h'.get? b = some o)) E)
        F.called_set.init.plain F.entry_set_init (check_set_init_1 hT ?_)) fun r₂ s₂ hr₂ => ?_
      · have hl' := hl
        obtain ⟨⟨cl, dd, dat, sl⟩, hol, hcl, nl, hdl⟩ := hl
        simp only at hcl hdl
        subst hcl; subst hdl
        have hol' : (s.heap.push (set0 w)).get? l = some { cls := .type "list", dict := dd, data := .seq items nl, slots := sl } := Heap.get?_push_of_some _ hol
        have hsls := F.sub_list_set
        have hslf := F.sub_list_frozenset
        have hne : (Value.type "list" == Value.type "dict") = false := by decide
        have hl1 : (s.heap.push (set0 w)).IsList l items := ⟨_, hol', rfl, nl, rfl⟩
        unfold Builtin.«set.__init__» noKeywords Builtin.Frozenset.updateFrom
        generalize hPI : pyIter = PI
        wp_walk
        subst hPI
        refine wpAny_pyIter_list hl1 ?_
        refine wpAny_bind (wpAny_runValue ?_)
        refine set_init_listI (by simp [hh]) hl' hi hb fun h' tk c hR hc hk => ?_
        show wpAny _ _ _ _ _ _
        refine wpAny_pure ?_
        show wpAny _ _ (ret Value.none) _ _ _
        exact wpAny_pure ⟨rfl, h', tk, c, rfl, hR, hc, hk⟩
      · cases r₂ with
        | error e => exact hr₂
        | ok fl₂ =>
          cases fl₂ with
          | ret r =>
            obtain ⟨rfl, h', tk, c', rfl, hS', hc', hk'⟩ := hr₂
            repeat (any_goals (first | assumption | wp_step))
            exact h _ _ _ hS' hc' hk'
          | _ => exact hr₂.elim
    | _ => exact hr.elim
end
end L2

namespace PV
open PySem PySem.Spec PyProof.Rows L2
section
variable {X : Cx}
def rSetL (K : PySem.W.Frag) (w : World) : List V → Hp → VK → Prop := fun xs H Q => ∃ (p : Addr) (ns : List Int), xs = [.ref p] ∧ SqL K H p (ns.map V.int) ∧ ns.length ≤ 1000 ∧
  ∀ (a : Addr) (n : Nat), H a = none → n ≤ ns.length → Q (.ref a) (upd H a (SetO w a (fun j => decide (j ∈ ns)) n))
theorem cr_setL (hc : X.calm = true) : CallR X (.type "set") (rSetL X.K X.w) := by
  intro pins s σ H xs us Q I r h
  obtain ⟨p, ns, rfl, hq, hl, q⟩ := h
  rw [Vals.ref1 r]
  obtain ⟨its, rv, pt, hz⟩ := I.list hq
  have hi : IntsAre its.toArray.toList ns := ints_of_vals rv
  refine call_set_listI (I.ok.hd hc) pt.isList hi (by unfold scanBound; omega) fun h' tk n R1 hn k => ?_
  exact ⟨.ref s.heap.objs.size, _, I.laid (t' := tk) k (Nat.le_refl _) (setO_new R1), rfl, q _ n (I.hok.fresh (Nat.le_refl _)) hn⟩
end
section
variable {c : Cn} {W : WX} {X : Cx} {env : En} {σ : L2.St} {H F : Hp}
def oSrtSetY : List D → Option D
  | [d] => ((seqD d).bind intsD).bind fun ns => if ns.length < 64 then some (.lst ((srtU ns).map D.int)) else none
  | _ => none
theorem re_srtSetY {e : Expr} {o : Od} {p p2 pos pos2 : Pos} (hK : c.K = X.K) (hc : X.calm = true) (hg : Gl X "sorted") (hm : X.mg "sorted" = none) (hg2 : Gl X "set") (hm2 : X.mg "set" = none) (he : PE X e (o.t c W))
    (h1 : starEach [.Call (.Name "set" p2) [e] [] pos2] X.env = (false, eval (.Call (.Name "set" p2) [e] [] pos2) X.env) :: starEach [] X.env := by rfl) (h2 : starEach [e] X.env = (false, eval e X.env) :: starEach [] X.env := by rfl)
    (hpl : (backTo pos (starEach [] X.env)).any (·.1) = false := by rfl) (hpl2 : (backTo pos2 (starEach [] X.env)).any (·.1) = false := by rfl) :
    PE X (.Call (.Name "sorted" p) [.Call (.Name "set" p2) [e] [] pos2] [] pos) (tF c W (mOp oSrtSetY [o])) :=
  (pe_callB (cr_sortedSet hc) hg hm PyProof.Rows.boot_sorted (pa_cons (pe_callTy ((cr_setI hc).or (cr_setL hc)) hg2 hm2 PyProof.Rows.boot_set (pa_cons he pa_nil h2) (by decide) (by decide) h2 hpl2) pa_nil h1) (by decide) (by decide) h1 hpl).imp fun σ H Q q => by
    rw [← hK]
    obtain ⟨env, F, S, q⟩ := q
    show tOds c W [o] σ H fun vs H1 => (rSetI c.K X.w vs H1 (fun y H2 => rSortedSet X.w [y] H2 Q) ∨ rSetL c.K X.w vs H1 (fun y H2 => rSortedSet X.w [y] H2 Q))
    refine tOdsA (os := [o]) S q fun ds e vs H1 F1 S1 s1 r1 h1 => ?_
    unfold oSrtSetY at h1
    split at h1
    · rename_i d q1
      split at q1
      · rename_i d0
        cases q0 : seqD d0 with
        | none =>
          rw [q0] at q1
          cases q1
        | some xs =>
          cases q2 : intsD xs with
          | none =>
            rw [q0, show (some xs).bind intsD = intsD xs from rfl, q2] at q1
            cases q1
          | some ns =>
            rw [q0, show (some xs).bind intsD = intsD xs from rfl, q2] at q1
            have q3 : (if ns.length < 64 then some (D.lst ((srtU ns).map D.int)) else none) = some d := q1
            split at q3
            · rename_i hl
              cases q3
              obtain ⟨x, rfl, h2⟩ := r1.one
              obtain ⟨a, vs, rfl, h3, h5⟩ := h2.seq_ S1.wf q0
              rw [h5.ints q2] at h3
              have fin : ∀ (b : Addr) (n : Nat), H1 b = none → n ≤ ns.length → rSortedSet X.w [.ref b] (upd H1 b (SetO X.w b (fun j => decide (j ∈ ns)) n)) Q := fun b n nb hn => by
                refine ⟨b, _, n, rfl, upd_same, by omega, fun ms p hp hm hn2 np => ?_⟩
                have e : ms = srtU ns := srt_uniq hp (srtU_srt ns) fun k => by rw [hm k, srtU_mem]; simp
                subst e
                have S2 := S1.fresh (o := SetO X.w b (fun j => decide (j ∈ ns)) n) nb rfl
                exact h1 _ _ F1 (S2.fresh np rfl) (Same.refl _) (S2.newF np (.lst (Reps.ofInts _)))
              rcases h3 with h3 | h3
              · exact .inr ⟨a, ns, rfl, h3, by omega, fin⟩
              · exact .inl ⟨a, ns, rfl, h3, by omega, fin⟩
            · cases q3
      · cases q1
    · exact h1.elim
end
end PV

/-! own errors: class X(B): def __init__(self, f): super().__init__(f); self.f = f -/
namespace PX
open PySem PySem.W PySem.Calls PyProof.Rows Builtin.ObjectAttr
def iA (f : Str) (p1 p2 : Pos) : Arguments := { posonlyargs := [], args := [⟨"self", none, p1⟩, ⟨f, none, p2⟩], vararg := none, kwonlyargs := [], kw_defaults := [], kwarg := none, defaults := [] }
def iB (f : Str) (q1 q2 q3 q4 q5 q6 r1 r2 r3 r4 : Pos) : List Stmt :=
  [.Expr (.Call (.Attribute (.Call (.Name "super" q1) [] [] q2) "__init__" q3) [.Name f q4] [] q5) q6, .Assign [.Attribute (.Name "self" r1) f r2] (.Name f r3) r4]
def iS (f : Str) : Scope := { kind := .function, names := [("self", .local), (f, .local), ("__class__", .free), ("super", .globalImplicit)], isGenerator := false, isCoroutine := false, more := [] }
/-- the field's name is none of the others -/
structure Nm (f : Str) : Prop where
  self : (("self" : Str) == f) = false
  cls : (("__class__" : Str) == f) = false
  sup : (("super" : Str) == f) = false
  fs : (f == ("self" : Str)) = false
  dbg : (f == ("__debug__" : Str)) = false
/-- what the written part says of such a class at C over the built-in B, of its __init__ at fI -/
structure ErC (P : Program) (K : Frag) (mg : Str → Option Value) (x f : Str) (B newId initId : String) (bmB : List Value) (C fI : Addr) : Prop where
  nm : Nm f
  gC : mg x = some (.ref C)
  fb : ExcBaseFacts B newId initId bmB
  kf : KxsFacts B initId
  sf : StoreFacts B bmB "object.__setattr__" "object"
  ok : excInitIn K C bmB newId = true
  over : excOver K C bmB = true
  sa : findIn K (.ref C) "__setattr__" = some (some (.builtin "object.__setattr__"))
  ga : findIn K (.ref C) "__getattribute__" = some (some (.builtin "BaseException.__getattribute__"))
  gg : findIn K (.ref C) "__getattr__" = some none
  noN : findIn K (.ref C) f = some none
  iC : findIn K (.ref C) "__init__" = some (some (.ref fI))
  tC : typeIn K (.ref fI) = some (.type "function")
  kC : keepIn K (.ref C) = true
  exC : subIn K (.ref C) (.type "BaseException") = some true
  tyC : typeIn K (.ref C) = some (.type "type")
  hdC : hasDictIn K C = true
  isC : isClsIn K C = true
  subB : subIn K (.ref C) (.type B) = some true
  sup : ks_superIn K C C "__init__" = some (some (.builtin initId))
  opq : nsIn K cStatics "thirdparty.any" = some none
  mro : mroIn K C (.ref C) = some true
  nS : mg "super" = none
  bd : ∀ (qual : Str) (p1 p2 : Pos) (bdy : List Stmt) (doc pm : Value) (an : Option Addr) (cdv ct : Value) (cc : Addr) (a v : Value), bindArgs (ksFn "__init__" qual (iA f p1 p2) bdy (iS f) .none .none doc pm an cdv ct cc) ⟨[a, v], []⟩ = pure [(("self" : Str), a), (f, v)]
  top : (P.main.scope.names.lookup ("super" : Str)).isSome = false
  fn : ∃ (oc : Value) (od : Option Addr) (qual : Str) (doc pm : Value) (an : Option Addr) (ct : Value) (cc cda : Addr) (osl : Array (Option Value)) (p1 p2 q1 q2 q3 q4 q5 q6 r1 r2 r3 r4 : Pos) (ccl cl : Value) (cdd cld : Option Addr) (ccs csl : Array (Option Value)) (vs : Array Value) (file : Str) (tf : Tok),
    K.lookup fI = some ⟨oc, od, .func (ksFn "__init__" qual (iA f p1 p2) (iB f q1 q2 q3 q4 q5 q6 r1 r2 r3 r4) (iS f) .none .none doc pm an (.ref cda) ct cc), osl⟩ ∧ codeIn K (.ref cda) qual = true ∧
    K.lookup cc = some ⟨cl, cld, .cell (some (.ref C)), csl⟩ ∧ K.lookup cda = some ⟨ccl, cdd, .fields vs, ccs⟩ ∧ vs[2]? = some (.str file tf) ∧ ((P.main.file : Str) == file) = true ∧
    ∀ L : Addr, ∃ pl : Sem Bool, eval (.Call (.Attribute (.Call (.Name "super" q1) [] [] q2) "__init__" q3) [.Name f q4] [] q5) (ksEnv qual (iS f) L fI (.ref cda) cc) = (do
    let ov ← attributeBase (.Call (.Name "super" q1) [] [] q2) "__init__" (ksEnv qual (iS f) L fI (.ref cda) cc) (eval (.Call (.Name "super" q1) [] [] q2) (ksEnv qual (iS f) L fI (.ref cda) cc))
    standAt q3.atName
    let (m, first) ← holding [ov] (getMethod ov "__init__" pl)
    callWith q5 m first (backTo q5 (starEach [.Name f q4] (ksEnv qual (iS f) L fI (.ref cda) cc))) [])
theorem one_fits (v : Value) : [v].length ≤ sizeLine := by
  rw [sizeLine_eq]
  exact (by decide : 1 ≤ 16777216)
theorem in_but {K : Frag} {h h' : Heap} {x : Addr} (X : K.In h) (hx : K.lookup x = none) (k : ∀ b o, b ≠ x → h.get? b = some o → h'.get? b = some o) : K.In h' := fun a o e =>
  k a o (fun z => by rw [z, hx] at e; cases e) (X a o e)
/-- what __init__ leaves of a fresh error at x -/
structure Made (f : Str) (h h' : Heap) (x C dx t1 : Addr) (v : Value) : Prop where
  keep : ∀ b o, b ≠ x → h.get? b = some o → h'.get? b = some o
  obj : h'.get? x = some { cls := .ref C, dict := some dx, data := .fields #[.ref t1, .none, .none, .none, .bool false, .none] }
  dbig : h.objs.size ≤ dx
  dne : dx ≠ x
  ns : h'.Ns1 dx (fun y => if y = f then some v else none)
section
variable {P : Program} {w : World} {A : Around} {E : Value → Shared → Prop} {R : Result → Shared → Prop} {hp : Heap} {g : Array GenState} {d : Drawn} {t : Nat} {os : OsState} {K : Frag} {mg : Str → Option Value} {B newId initId : String} {bmB : List Value} {C fI : Addr} {x f : Str}
/-- the first store into an error -/
theorem first_store (T : ErC P K mg x f B newId initId bmB C fI) {tk : Tok} {v : Value} {a : Addr} {t0 : Addr}
    (X : K.In hp) (hx : hp.get? a = some (HandSPX.excO C t0))
    (hq : ∀ h' tk' dx, Made f hp h' a C dx t0 v → R (.ok (.ret .none)) ⟨h', g, d, tk', os⟩) :
    codeAny (model P w) A (.call (.builtin "object.__setattr__") ⟨[.ref a, .str f tk, v], []⟩) R ⟨hp, g, d, t, os⟩ := by
  have ht : takerIn K C f = some none := by
    unfold takerIn
    rw [T.noN]
    rfl
  have ha : a ≠ hp.objs.size := Nat.ne_of_lt (Heap.lt_size hx)
  refine osa_openX (s := ⟨hp, g, d, t, os⟩) (od := none) (ox := HandSPX.excO C t0) T.sf X ⟨hx, rfl, rfl, trivial⟩ T.over ht fun b => ?_
  obtain ⟨cd, hc, hh⟩ := any_some T.hdC
  have hcls : Looks (model P w) hp (classData C) cd := looks_clsIn X hc
  show wpAny _ _ (storeInOwnDict (.ref a) (.ref C) (.str f tk) f v b) _ _ _
  obtain ⟨nm, bs, mro, ns, qn, hd, sn, sb, ab, col, del⟩ := cd
  dsimp only at hh
  subst hh
  unfold storeInOwnDict ownDictForStores
  repeat (first | with_reducible refine HandSPX.store_in_new ?_ ?_ | with_reducible refine wpAny_loadPart_at hx ?_ | with_reducible refine hcls.at ?_ | wp_step)
  · exact ⟨_, #[], _, (Heap.get?_update_ne _ _ _ _ ha.symm).trans (Heap.get?_push_at rfl rfl), rfl, fun e he => absurd he (by simp), fun _ => rfl⟩
  · intro h' tk' hn' hs
    have hx1 : (hp.push { cls := .type "dict", data := .dict #[] }).get? a = some (HandSPX.excO C t0) := Heap.get?_push_of_some _ hx
    refine hq h' tk' hp.objs.size ⟨fun b o hb ho => ?_, ?_, Nat.le_refl _, ha.symm, hn'⟩
    · exact (hs.2 b (Nat.ne_of_lt (Heap.lt_size ho))).trans ((Heap.get?_update_ne _ _ _ _ hb).trans (Heap.get?_push_of_some _ ho))
    · exact (hs.2 a ha).trans (Heap.get?_update_self _ hx1 rfl)
/-- super().__init__(v); self.f = v -/
theorem init_runs (T : ErC P K mg x f B newId initId bmB C fI) {a t0 : Addr} {v : Value} {mb : Str → Option Value} (X : K.In hp) (hlim : hp.NoLimit) (hx : hp.get? a = some (HandSPX.excO C t0)) (hna : K.lookup a = none) (hroom : A.depth < recursionLimit)
    (hg : hp.Ns mainGlobals mg) (hb : hp.Ns builtinsNs mb) (hs : mb "super" = some (.type "super"))
    (hq : ∀ h' tk dx t1, Made f hp h' a C dx t1 v → R (.ok (.ret .none)) ⟨h', g, d, tk, os⟩) :
    codeAny (model P w) A (.call (.ref fI) ⟨[.ref a, v], []⟩) R ⟨hp, g, d, t, os⟩ := by
  obtain ⟨oc, od, qual, doc, pm, an, ct, cc, cda, osl, p1, p2, q1, q2, q3, q4, q5, q6, r1, r2, r3, r4, ccl, cl, cdd, cld, ccs, csl, vs, file, tf, ho, hcd, hcell, hcode, hvs, hfile, hHe⟩ := T.fn
  have hl1 : (iS f).names.lookup ("self" : Str) = some .local := rfl
  have hl2 : (iS f).names.lookup f = some .local := by
    show List.lookup f [(("self" : Str), NameKind.local), (f, .local), ("__class__", .free), ("super", .globalImplicit)] = _
    simp [List.lookup, T.nm.fs]
  have hl3 : (iS f).names.lookup ("__class__" : Str) = some .free := by
    show List.lookup ("__class__" : Str) [(("self" : Str), NameKind.local), (f, .local), ("__class__", .free), ("super", .globalImplicit)] = _
    rw [List.lookup, show (("__class__" : Str) == "self") = false from by decide, List.lookup, T.nm.cls, List.lookup]
    rfl
  have hl4 : (iS f).names.lookup ("super" : Str) = some .globalImplicit := by
    show List.lookup ("super" : Str) [(("self" : Str), NameKind.local), (f, .local), ("__class__", .free), ("super", .globalImplicit)] = _
    rw [List.lookup, show (("super" : Str) == "self") = false from by decide, List.lookup, T.nm.sup, List.lookup, show (("super" : Str) == "__class__") = false from by decide, List.lookup]
    rfl
  have b1 : ([(("self" : Str), Value.ref a), (f, v)].reverse).lookup ("self" : Str) = some (.ref a) := by
    show List.lookup ("self" : Str) [(f, v), ("self", Value.ref a)] = _
    rw [List.lookup, T.nm.self]
    rfl
  have b2 : ([(("self" : Str), Value.ref a), (f, v)].reverse).lookup f = some v := by
    show List.lookup f [(f, v), ("self", Value.ref a)] = _
    simp [List.lookup]
  obtain ⟨nm, N', qn, bs, bm, hdct, sn, sub, ab, col, dd, k0, k1, k2, k3, k5, hC, hT⟩ := excInit_of X T.ok
  obtain ⟨cdC, hcC, hdC⟩ := any_some T.hdC
  refine ks_codeAny_call_defAt (s := ⟨hp, g, d, t, os⟩) (fd := ksFn "__init__" qual (iA f p1 p2) (iB f q1 q2 q3 q4 q5 q6 r1 r2 r3 r4) (iS f) .none .none doc pm an (.ref cda) ct cc) (body := iB f q1 q2 q3 q4 q5 q6 r1 r2 r3 r4) (binds := [("self", .ref a), (f, v)])
    hroom (X _ _ ho) rfl hlim (codeRec_of X hcd) rfl (BindsTo.of_eq (T.bd _ _ _ _ _ _ _ _ _ _ _ _)) (fun y hy => ?_) (fun y hy => ?_) (fun h1 hn kp => ?_)
  · rcases List.mem_cons.mp hy with rfl | hy
    · decide
    · rcases List.mem_cons.mp hy with rfl | hy
      · exact fun z => by cases z
      · rcases List.mem_cons.mp hy with rfl | hy
        · decide
        · rcases List.mem_cons.mp hy with rfl | hy
          · decide
          · cases hy
  · rcases List.mem_cons.mp hy with rfl | hy
    · exact hl1
    · rcases List.mem_cons.mp hy with rfl | hy
      · exact hl2
      · cases hy
  have X1 : K.In h1 := X.keeps kp
  have hx1 : h1.get? a = some (HandSPX.excO C t0) := kp _ _ hx
  show _root_.PySem.wpAt (model P w) (A.deeper (ksEnv qual (iS f) hp.objs.size fI (.ref cda) cc)) (.func (iB f q1 q2 q3 q4 q5 q6 r1 r2 r3 r4) (ksEnv qual (iS f) hp.objs.size fI (.ref cda) cc)) (execs (iB f q1 q2 q3 q4 q5 q6 r1 r2 r3 r4) (ksEnv qual (iS f) hp.objs.size fI (.ref cda) cc)) _ _ _
  obtain ⟨pl, hev⟩ := hHe hp.objs.size
  refine ks_wpAt_execs_cons (ks_wpAt_Expr_any (ks_wpAt_MethodCall (he := hev) (ks_wpAt_super_base (env := ksEnv qual (iS f) hp.objs.size fI (.ref cda) cc) (f := fI) (cc := cda) (ar := ⟨"self", none, p1⟩) (vs := vs) (file := file) (tf := tf) hl4 hl3 (by decide) rfl (X1 _ _ ho) rfl rfl rfl (X1 _ _ hcode) rfl hvs hfile T.top ?_)))
  refine ks_loadName_global rfl hl4 (loadGlobal_builtin (env := ksEnv qual (iS f) hp.objs.size fI (.ref cda) cc) (hg.keeps kp) T.nS (hb.keeps kp) hs ⟨rfl, ?_⟩)
  refine wpAny_loadName_free rfl hl3 rfl ⟨_, X1 _ _ hcell, rfl⟩ ?_
  refine wpAny_loadName_local rfl hl1 hn b1 ?_
  refine ks_wpAny_isType_cls (kp _ _ hC) rfl ⟨rfl, ?_⟩
  refine ks_wpAny_call_super (C := C) (kp _ _ hC) rfl hx1 rfl (fun c e => by cases e) (looks_mroIn X1 T.mro) (fun h2 hso k2 => ?_)
  have X2 : K.In h2 := X1.keeps k2
  have hx2 := k2 _ _ hx1
  have hI : Looks (model P w) h2 (isInstance (.ref a) (.type B)) true := (show InstAt h2 a (HandSPX.excO C t0) C none from ⟨hx2, rfl, rfl, trivial⟩).type.andThen (looks_subIn X2 T.subB)
  have hsup : alongIn K "__init__" ((cdC.mro.dropWhile (· != .ref C)).drop 1) = some (some (.builtin initId)) := by
    have z := T.sup
    unfold ks_superIn at z
    rw [hcC] at z
    exact z
  refine kxs_getMethod T.kf hso (looks_opaque X2 T.opq) ((looks_clsIn X2 hcC).andThen .now) rfl X2 hsup hI (ks_ne X2 (show InstAt h2 a (HandSPX.excO C t0) C none from ⟨hx2, rfl, rfl, trivial⟩) hcC) (by decide) ?_
  have k3 : ∀ b o, h2.get? b = some o → (h2.push (kxs_mw initId a)).get? b = some o := fun b o e => Heap.get?_push_of_some _ e
  have hu : (h2.push (kxs_mw initId a)).get? h2.objs.size = some (kxs_mw initId a) := Heap.get?_push_size _ rfl
  have kall : ∀ b o, hp.get? b = some o → (h2.push (kxs_mw initId a)).get? b = some o := fun b o e => k3 b o (k2 b o (kp b o e))
  have hn2 := (hn.keeps k2).keeps k3
  have hC3 := kall _ _ hC
  have hx3 := kall _ _ hx
  refine kxs_callWith (i := initId) (x := a) (by rfl) (evalArgs_plain ?_)
  show wpAny _ _ (spliced ((false, eval (.Name f q4) (ksEnv qual (iS f) hp.objs.size fI (.ref cda) cc)) :: backTo q5 (starEach [] (ksEnv qual (iS f) hp.objs.size fI (.ref cda) cc)))) _ _ _
  refine Calls.spliced_cons (wpAny_Name (wpAny_loadName_local rfl hl2 hn2 b2 ?_) T.nm.dbg)
  refine Calls.spliced_nil ⟨hu, ?_⟩
  refine wpAny_call (codeAny_of_tree (show wpAny _ _ (callAny (.ref h2.objs.size) ⟨[v], []⟩) _ _ _ from ?_))
  unfold callAny
  refine wpAny_bind (wpAny_load hu ?_)
  have c1 : (Value.type "method-wrapper" == Value.type "method" || Value.type "method-wrapper" == Value.type "builtin_function_or_method" || Value.type "method-wrapper" == Value.type "method-wrapper") = true := by decide
  simp only [kxs_mw, c1, if_true]
  refine KFB.if_so (by decide) (wpAny_bind (check_bound_init T.fb.toExcCallFacts hC3 hx3 rfl (wpAny_bind (wpAny_pure (wpAny_pure ⟨plainId_quiet T.fb.init.plain _, codeAny_builtin T.fb.initEntry ?_⟩)))))
  refine exc_init_tree (cls := .ref C) (t0 := t0) (dv := none) (c2 := .none) (c3 := .none) (b4 := .bool false) hx3 (one_fits v) fun h4 k4 hx4 _ => ?_
  have X4 : K.In h4 := in_but (X.keeps kall) hna k4
  have aL : hp.objs.size ≠ a := Nat.ne_of_gt (Heap.lt_size hx)
  have hn4 : h4.Ns hp.objs.size (fun y => ([(("self" : Str), Value.ref a), (f, v)].reverse).lookup y) := by
    obtain ⟨o, es, ep, e1, e2⟩ := hn2
    exact ⟨o, es, ep, k4 _ _ aL e1, e2⟩
  refine wpAt_of_wpAny (wpAny_execs_cons (plainObj_wpAny_Assign_Attribute ?_))
  refine wpAny_Name (wpAny_loadName_local rfl hl2 hn4 b2 (wpAny_Name (wpAny_loadName_local rfl hl1 hn4 b1 ?_) (by decide))) T.nm.dbg
  refine set_plain X4 (ox := HandSPX.excO C (h2.push (kxs_mw initId a)).objs.size) (od := none) ⟨hx4, rfl, rfl, trivial⟩ T.sa (first_store T X4 hx4 fun h5 tk5 dx M => ?_)
  refine wpAny_execs_nil (hq h5 tk5 dx _ ⟨fun b o hb e => M.keep b o hb (k4 b o hb (kall b o e)), M.obj, ?_, M.dne, M.ns⟩)
  have z1 : hp.objs.size < h4.objs.size := hn4.lt
  exact Nat.le_of_lt (Nat.lt_of_lt_of_le z1 M.dbig)
/-- X(v) -/
structure MadeX (f : Str) (h h' : Heap) (e C dx : Addr) (v : Value) : Prop where
  keep : ∀ b o, h.get? b = some o → h'.get? b = some o
  new : h.objs.size ≤ e
  obj : ∃ oe vs, h'.get? e = some oe ∧ oe.cls = .ref C ∧ oe.dict = some dx ∧ oe.data = .fields vs ∧ vs[1]? = some .none
  dbig : h.objs.size ≤ dx
  dne : dx ≠ e
  ns : h'.Ns1 dx (fun y => if y = f then some v else none)
theorem error_made (T : ErC P K mg x f B newId initId bmB C fI) {v : Value} {mb : Str → Option Value} (X : K.In hp) (hlim : hp.NoLimit) (hroom : A.depth + 1 < recursionLimit)
    (hg : hp.Ns mainGlobals mg) (hb : hp.Ns builtinsNs mb) (hs : mb "super" = some (.type "super"))
    (hq : ∀ h' tk e dx, MadeX f hp h' e C dx v → R (.ok (.ret (.ref e))) ⟨h', g, d, tk, os⟩) :
    codeAny (model P w) A (.call (.ref C) ⟨[v], []⟩) R ⟨hp, g, d, t, os⟩ := by
  obtain ⟨nm, N', qn, bs, bm, hdct, sn, sub, ab, col, dd, k0, k1, k2, k3, k5, hC, hT⟩ := excInit_of X T.ok
  have k : ∀ b o, hp.get? b = some o → ((hp.push (kdv_tup [v])).push (HandSPX.excO C hp.objs.size)).get? b = some o := fun b o e => Heap.get?_push_of_some _ (Heap.get?_push_of_some _ e)
  have hget : ((hp.push (kdv_tup [v])).push (HandSPX.excO C hp.objs.size)).get? (hp.objs.size + 1) = some (HandSPX.excO C hp.objs.size) := by heap_get
  have hnx : K.lookup (hp.objs.size + 1) = none := by
    cases e : K.lookup (hp.objs.size + 1) with
    | none => rfl
    | some o => exact absurd (Nat.lt_of_succ_lt (Heap.lt_size (X _ _ e))) (Nat.lt_irrefl _)
  refine HandSPX.call_own T.fb hT hC (looks_findIn X T.iC) (fun self => bind_fn X self T.tC) (one_fits v) ?_
  refine init_runs T (mb := mb) (X.keeps k) (hlim.keeps k) hget hnx (by show A.depth + 1 < recursionLimit; exact hroom) (hg.keeps k) (hb.keeps k) hs fun h' tk' dx t1 M => ?_
  have old : ∀ b o, hp.get? b = some o → h'.get? b = some o := fun b o e => M.keep b o (Nat.ne_of_lt (Nat.lt_succ_of_lt (Heap.lt_size e))) (k b o e)
  have z : hp.objs.size + 1 + 1 ≤ dx := by
    first
      | (simpa only [Heap.size_push] using M.dbig)
      | exact M.dbig
      | (have q := M.dbig; rw [Heap.size_push, Heap.size_push] at q; exact q)
  exact ⟨rfl, hq h' tk' (hp.objs.size + 1) dx ⟨old, Nat.le_succ _, ⟨_, _, M.obj, rfl, rfl, rfl, rfl⟩, Nat.le_trans (Nat.le_trans (Nat.le_succ _) (Nat.le_succ _)) z, M.dne, M.ns⟩⟩
end
end PX

/-! repr of data; try with several clauses, each with or without a name -/
namespace PV
open PySem PySem.Spec PyProof.Rows L2
/-! ### repr -/
def reprS (p : PyData) : Bool := p.showable && (!p.hasDict && (decide (p.depth ≤ 40) && decide (p.shown.length ≤ lim)))
def oRepr : List D → Option D
  | [d] => match toP d with
    | some p => if reprS p = true then some (.str p.shown) else none
    | none => none
  | _ => none
def rRepr (K : PySem.W.Frag) : List V → Hp → VK → Prop := fun vs H Q => ∃ x p, vs = [x] ∧ Dp K H x p ∧ reprS p = true ∧ Q (.str p.shown) H
theorem cr_repr {X : Cx} (hg : X.A.guards = some []) (hu : X.A.units + 64 < cLine) : CallR X (.builtin "repr") (rRepr X.K) := by
  intro pins s σ H xs us Q I r h
  obtain ⟨x, p, rfl, hd, hs, q⟩ := h
  unfold reprS at hs
  simp only [Bool.and_eq_true, Bool.not_eq_true', decide_eq_true_eq] at hs
  obtain ⟨s1, s2, s3, s4⟩ := hs
  cases r with
  | cons ru rn =>
    rename_i u us
    cases rn
    obtain ⟨as, rd⟩ := Dp.reads I p x u hd ru
    cases rd with
    | none => exact P.repr_of_none ⟨.str _, H, I.tok _, ⟨_, rfl⟩, by simpa [PyData.shown] using q⟩
    | bool b => exact P.repr_of_bool ⟨.str _, H, I.tok _, ⟨_, rfl⟩, by simpa [PyData.shown] using q⟩
    | int i t => exact P.repr_of_int (by simpa [PyData.showable] using s1) ⟨.str _, H, I.tok _, ⟨_, rfl⟩, by simpa [PyData.shown] using q⟩
    | str z t => exact P.repr_of_str (by exact ⟨.str _, H, I.tok _, ⟨_, rfl⟩, by simpa [PyData.shown] using q⟩) (by simpa [PyData.shown] using lim_line s4)
    | list h1 h2 h3 h4 => exact repr_of_reads' (.list h1 h2 h3 h4) s1 (PyData.noDict_hsm s2) hg (by omega) (fun _ _ e => e) (fun h' u tk hk => ⟨.str _, H, I.kept hk, ⟨_, rfl⟩, q⟩) (lim_line s4)
    | tuple h1 h2 h3 h4 => exact repr_of_reads' (.tuple h1 h2 h3 h4) s1 (PyData.noDict_hsm s2) hg (by omega) (fun _ _ e => e) (fun h' u tk hk => ⟨.str _, H, I.kept hk, ⟨_, rfl⟩, q⟩) (lim_line s4)
    | dict h1 h2 h3 h4 h5 => cases hd
theorem oa_repr {g : Gc} : OpA g (rRepr g.K) oRepr := fun ds vs d F H Q w R e k => by
  unfold oRepr at e
  split at e
  · rename_i d1
    obtain ⟨x, rfl, h1⟩ := R.one
    split at e
    · rename_i p hp
      split at e
      · rename_i hs
        cases e
        exact ⟨x, p, rfl, h1.dp w hp, hs, k _ H F (Go.refl w) .str⟩
      · cases e
    · cases e
  · cases e
end PV

/-! try: several clauses, each with a name or without -/
namespace PV
open PySem PySem.Spec PyProof.Rows L2
abbrev Su := Addr → Value → Option Addr → TS
/-- the ends of a suite whose clause names slot i -/
def endN (i : Nat) (D : Ends) : Ends := { nx := fun σ H => D.nx (σ.set i none) H, rt := D.rt, bk := fun σ H => D.bk (σ.set i none) H, ct := fun σ H => D.ct (σ.set i none) H }
/-- what the clauses make of an error -/
def wMix (K : PySem.W.Frag) (Wout : WX) (D : Ends) : List (Value × Option Nat × Su) → WX
  | [] => Wout
  | (c, o, ts) :: r => fun cls d σ H => ∃ b, PySem.W.exmOne K cls c = some b ∧
    (b = true → ∀ a, H a = none → match o with
      | none => ts a cls d D σ H
      | some i => ts a cls d (endN i D) (σ.set i (some (.ref a))) H) ∧ (b = false → wMix K Wout D r cls d σ H)
/-- each suite runs, the error at a in hand -/
def SuOk (X : Cx) (suite : List Stmt) (ts : Su) : Prop := ∀ (a : Addr) (oe : Obj) (cls : Value) (d : Option Addr) (pn : List (Addr × Obj)), Zc cls d oe → (∃ vs, oe.data = .fields vs) → PSs (X.suite a ((a, oe) :: pn)) suite (ts a cls d)
inductive MixOk (X : Cx) : List ExceptHandler → List (Value × Option Nat × Su) → Prop
  | nil : MixOk X [] []
  | bare {x : Str} {c : Value} {ts : Su} {b₀ : Stmt} {suite : List Stmt} {np pos' : Pos} {hds : List ExceptHandler} {l : List (Value × Option Nat × Su)} (hc : Names X x c) (hsu : SuOk X (b₀ :: suite) ts) (r : MixOk X hds l) :
      MixOk X (.ExceptHandler (some (.Name x np)) none (b₀ :: suite) pos' :: hds) ((c, none, ts) :: l)
  | as {x n : Str} {i : Nat} {c : Value} {ts : Su} {b₀ : Stmt} {suite : List Stmt} {np pos' : Pos} {hds : List ExceptHandler} {l : List (Value × Option Nat × Su)} (hi : X.N[i]? = some n) (hn : X.env.kindOf n = some .local) (hc : Names X x c) (hsu : SuOk X (b₀ :: suite) ts) (r : MixOk X hds l) :
      MixOk X (.ExceptHandler (some (.Name x np)) (some n) (b₀ :: suite) pos' :: hds) ((c, some i, ts) :: l)
section
variable {X : Cx} {body : List Stmt} {h₀ : ExceptHandler} {hds : List ExceptHandler} {l : List (Value × Option Nat × Su)} {pos : Pos} {tb : WX → TS} {Wout : WX}
/-- the caught error meets the clauses, one by one -/
theorem mix_goes {pins : List (Addr × Obj)} {σ : L2.St} {H : Hp} {sI s3 : Shared} {B : Heap} {a : Addr} {cls : Value} {d : Option Addr} {D : Ends} (hs : X.stack = X.env :: X.outer) (hf : X.env.frame = some X.env.locals) (hN : X.N.Nodup) (tk : Takes X Wout)
    (J : Inv X pins σ H sI) (nb : ∀ b o, sI.heap.get? b = some o → b ∉ frs X.stack → B.get? b = some o) (up : sI.heap.UpToSlots s3.heap) (fl : HandSPX.FlyingZ B (X.env :: X.outer) a (Zc cls d) s3.heap) (na : H a = none) (os : s3.os = sI.os) (ag : AllBare s3.gens) :
    ∀ {hds : List ExceptHandler} {l : List (Value × Option Nat × Su)}, MixOk X hds l → wMix X.K Wout D l cls d σ H → wpAny (model X.prog X.w) X.A (handleBy (.ref a) X.env hds) (SP X pins D) X.xe s3 := by
  have ok := J.ok
  have J3 : Inv X pins σ H s3 := J.landed nb fl.1 up os ag
  obtain ⟨oe, vs, he, hz, hd⟩ := fl.there
  have off : ∀ {h : Heap} {o : Obj} {us : Array Value}, h.FunFrames B (X.env :: X.outer) → h.get? a = some o → o.data = .fields us → a ∉ frs (X.env :: X.outer) := fun {h o us} ff e dd hm => by
    obtain ⟨_, o', e', hnf⟩ := ff.mem hm
    exact hnf us (by rw [← Option.some.inj (e.symm.trans e')]; exact dd)
  have nfr := off fl.2.2.1 he hd
  have nL : a ≠ X.env.locals := fun z => nfr (List.mem_filterMap.mpr ⟨X.env, List.mem_cons_self, hf.trans (by rw [z])⟩)
  have nF : a ∉ X.fs := fun hm => by
    obtain ⟨e, he, q⟩ := List.mem_filterMap.mp hm
    exact nfr (List.mem_filterMap.mpr ⟨e, List.mem_cons_of_mem _ he, q⟩)
  have S3 := J3.suite he hd na nL nF
  -- the clause's class, looked up and held against the error's
  have test : ∀ {x : Str} {c : Value} {np : Pos} {b : Bool} {Q : Bool → Shared → Prop} {E : Value → Shared → Prop}, Names X x c → PySem.W.exmOne X.K cls c = some b → Q b s3 →
      wpAny (model X.prog X.w) (X.A.mark (some (.ref a))) (eval (.Name x np) X.env) (fun v s4 => wpAny (model X.prog X.w) (X.A.mark (some (.ref a))) (excMatches (.ref a) v) Q E s4) E s3 := fun {x c np b Q E} hc hb q => by
    have LT : PySem.W.Looks (model X.prog X.w) s3.heap (typeOf (.ref a)) cls := fun A Q E s k q => wpAny_typeOf_ref (k _ _ he) (by rw [hz.1]; exact q)
    have LM := PySem.W.exm_one (M := model X.prog X.w) J3.kIn LT hb
    obtain ⟨hg, hdbg, hm | ⟨hm, hv, hnn⟩⟩ := hc
    · exact ld_glob (X := X.suite a ((a, oe) :: (X.pn ++ pins))) S3 hg hm (LM.here q) hdbg
    · exact ld_blt (X := X.suite a ((a, oe) :: (X.pn ++ pins))) S3 hg hm hv (LM.here q) hnn hdbg
  -- the suite's own start: the flight ends, the error is pinned
  have start : ∀ {Q : Unit → Shared → Prop} {E : Value → Shared → Prop}, (∀ (s4 : Shared) (o4 : Obj), Inv X pins σ H s4 → Inv (X.suite a ((a, o4) :: (X.pn ++ pins))) [] σ H s4 → Zc cls d o4 → (∃ us, o4.data = .fields us) → Q () s4) →
      wpAny (model X.prog X.w) (X.A.mark (some (.ref a))) (setFlight (.ref a) none) Q E s3 := fun {Q E} k => HandSPX.lands_againZ fl fun h4 fl4 up4 => by
    have J4 : Inv X pins σ H { s3 with heap := h4 } := J.landed nb fl4.1 (up.trans up4) os ag
    obtain ⟨oe4, vs4, he4, hz4, hd4⟩ := fl4.there
    exact k _ _ J4 (J4.suite he4 hd4 na nL nF) hz4 ⟨_, hd4⟩
  intro hds l hk
  induction hk with
  | nil =>
    intro w
    refine wpAny_handleBy_nil ?_
    obtain ⟨_, _, _, oe5, vs5, T, oT, ts', he5, _, hd5, h15, _⟩ := id fl
    unfold PySem.passOn
    refine wpAny_bind (wpAny_field he5 hd5 h15 ?_)
    rw [if_neg (show ¬ ((Value.ref T == Value.none) = true) from by simp)]
    have last : wpAny (model X.prog X.w) X.A (setFlight (.ref a) X.env.frame) (fun _ s4 => wpAny (model X.prog X.w) X.A (throw (.ref a) : Sem Flow) (SP X pins D) X.xe s4) X.xe s3 := by
      rw [hf]
      exact HandSPX.setFlight_upZ fl fun h4 hh4 up4 => wpAny_throw (tk _ _ ⟨a, B, sI, pins, σ, H, cls, d, rfl, J, nb, up.trans up4, .inr (.inr (by rw [hs]; exact hh4)), na, os, ag, w⟩)
    first
      | exact wpAny_bind (wpAny_pure (wpAny_bind last))
      | exact wpAny_bind last
  | bare hc hsu r ih =>
    intro w
    obtain ⟨b, hb1, hyes, hno⟩ := w
    refine wpAny_handleBy_cons (codeAny_handlers_test (test hc hb1 ?_)) (by intro q; cases q)
    cases b with
    | false => exact ih (hno rfl)
    | true =>
      refine codeAny_handlers_suite (start fun s4 o4 J4 S4 z4 f4 => ?_)
      refine wpAny_mono ((hsu a o4 cls d (X.pn ++ pins) z4 f4).run [] _ _ H _ S4 (hyes rfl a na)) (fun f s6 hsp => ?_) (fun _ _ z => False.elim z)
      cases f with
      | next => exact let ⟨_, _, S6, q6⟩ := hsp; ⟨_, _, S6.unsuite ok, q6⟩
      | brk => exact let ⟨_, _, S6, q6⟩ := hsp; ⟨_, _, S6.unsuite ok, q6⟩
      | cont => exact let ⟨_, _, S6, q6⟩ := hsp; ⟨_, _, S6.unsuite ok, q6⟩
      | ret u => exact let ⟨_, _, _, S6, r6, q6⟩ := hsp; ⟨_, _, _, S6.unsuite ok, r6, q6⟩
  | @as x n i c ts b₀ suite np pos' hds l hi hn hc hsu r ih =>
    intro w
    obtain ⟨b, hb1, hyes, hno⟩ := w
    refine wpAny_handleBy_cons (codeAny_handlers_test (test hc hb1 ?_)) (by intro q; cases q)
    cases b with
    | false => exact ih (hno rfl)
    | true =>
      refine codeAny_handlers_suite_as (start fun s4 o4 J4 S4 z4 f4 => ?_)
      refine store_ok (X := X.suite a ((a, o4) :: (X.pn ++ pins))) (v := .ref a) S4 hN hi (.inl hn) rfl (fun s5 S5 => ?_) (.inr hn)
      refine wpAny_mono ((hsu a o4 cls d (X.pn ++ pins) z4 f4).run [] s5 _ H _ S5 (hyes rfl a na)) (fun f s6 hsp => ?_) (fun _ _ z => False.elim z)
      have fin : ∀ {σ6 : L2.St} {H6 : Hp} {Q : Shared → Prop}, Inv (X.suite a ((a, o4) :: (X.pn ++ pins))) [] σ6 H6 s6 → (∀ s7, Inv X pins (σ6.set i none) H6 s7 → Q s7) →
          wpAny (model X.prog X.w) X.A (do bindName X.env n .none; unbindBehindTheSuite X.env n pos') (fun _ s7 => Q s7) X.xe s6 := fun S6 hq => gone_ok (S6.unsuite ok) hN hi hn hq
      cases f with
      | next => exact let ⟨_, _, S6, q6⟩ := hsp; fin S6 fun s7 J7 => ⟨_, _, J7, q6⟩
      | brk => exact let ⟨_, _, S6, q6⟩ := hsp; fin S6 fun s7 J7 => ⟨_, _, J7, q6⟩
      | cont => exact let ⟨_, _, S6, q6⟩ := hsp; fin S6 fun s7 J7 => ⟨_, _, J7, q6⟩
      | ret u => exact let ⟨_, _, _, S6, r6, q6⟩ := hsp; fin S6 fun s7 J7 => ⟨_, _, _, J7, r6, q6⟩
theorem ps_try_mix (hs : X.stack = X.env :: X.outer) (hf : X.env.frame = some X.env.locals) (hN : X.N.Nodup) (tk : Takes X Wout)
    (hb : ∀ (W : WX) (pn : List (Addr × Obj)) (xe : Value → Shared → Prop), Takes (X.tr pn xe) W → PassesOwn (model X.prog X.w) X.A X.env xe → PSs (X.tr pn xe) body (tb W)) (hh : MixOk X (h₀ :: hds) l) :
    PS X (.Try body (h₀ :: hds) [] [] pos) (fun D σ H => tb (wMix X.K Wout D l) D σ H) := by
  refine ⟨fun pins s σ H D I h => wpAny_Try_except (wpAny_mono ((hb (wMix X.K Wout D l) (X.pn ++ pins) (fun e s₁ => wpAny (model X.prog X.w) X.A (noteFrame e X.env) (fun _ s₂ => wpAny (model X.prog X.w) X.A (setFlight e none) (fun _ s₃ =>
    wpAny (model X.prog X.w) X.A (handleBy e X.env (h₀ :: hds)) (SP X pins D) X.xe s₃) X.xe s₂) X.xe s₁) (fun u s' xx => ?_) PassesOwn.looking).run [] s σ H D (I.toTry _) h) (fun f s1 hsp => ?_) (fun e s1 he => he))⟩
  · obtain ⟨a, B, sI, pins', σ', H', cls, d, rfl, J', nb, up, sky, na, os, ag, w⟩ := xx
    have ok := I.ok
    exact Sky.land Zc.steady (by rw [ok.frames, hs]) hf (by rw [← hs]; exact sky) fun h3 fl3 up3 => mix_goes (s3 := { s' with heap := h3 }) hs hf hN tk (J'.ofTry ok) nb (up.trans up3) fl3 na os ag hh w
  · have ok := I.ok
    cases f with
    | next => exact let ⟨σ', H', J', q⟩ := hsp; wpAny_execs_nil ⟨σ', H', J'.ofTry ok, q⟩
    | brk => exact let ⟨σ', H', J', q⟩ := hsp; ⟨σ', H', J'.ofTry ok, q⟩
    | cont => exact let ⟨σ', H', J', q⟩ := hsp; ⟨σ', H', J'.ofTry ok, q⟩
    | ret u => exact let ⟨v, σ', H', J', r, q⟩ := hsp; ⟨v, σ', H', J'.ofTry ok, r, q⟩
end
end PV

/-! raise of own errors; try; the suites that return something made of the error -/
namespace PV
open PySem PySem.Spec PyProof.Rows L2
/-! ### raise -/
/-- an own error class without __init__ -/
def ErP (K : PySem.W.Frag) (mg : Str → Option Value) (x : Str) : Prop :=
  ∃ (C : Addr) (bmB : List Value) (B newId initId : String), mg x = some (.ref C) ∧ ExcBaseFacts B newId initId bmB ∧ PySem.W.excIn K C bmB newId = true ∧ PySem.W.keepIn K (.ref C) = true ∧ PySem.W.subIn K (.ref C) (.type "BaseException") = some true ∧ PySem.W.typeIn K (.ref C) = some (.type "type")
def sRz (x : Str) : En → Rs := fun env => .er ⟨x, none⟩ env
def sRz1 (x f : Str) (m : En → R D) : En → Rs := fun env => (m env).bs fun d e => .er ⟨x, some [(f, d)]⟩ e
section
variable {c : Cn} {W : WX} {X : Cx}
theorem rs_raise0 {x m : Str} {j : Nat} {p p2 pos pos' : Pos} (E : ErP X.K X.mg x) (hc : X.calm = true) (tk : Takes X W) (hm : c.mg = X.mg) (hg : Gl X x) (hdb : (x == ("__debug__" : Str)) = false := by decide) :
    PS X (.Raise (some (.Call (.Name x p) [.Constant (.str m) j p2] [] pos)) none pos') (tS c W (sRz x)) := by
  obtain ⟨C, bmB, B, newId, initId, gC, F, q, kC, eC, tC⟩ := E
  exact (ps_raise hc tk (pmk_own F q gC kC (raises_own eC tC) hg hdb)).imp fun D σ H ⟨env, F, S, q⟩ => q (.ref C) none σ H F S (Same.refl _) ⟨C, by rw [hm]; exact gC, rfl, rfl⟩
theorem relO_one {f : Str} {v : V} {u : Value} (r : RelV v u) (g : Str) : RelO (List.lookup g [(f, v)]) (if g = f then some u else none) := by
  by_cases h : g = f
  · subst h
    rw [if_pos rfl]
    have q : List.lookup g [(g, v)] = some v := by simp [List.lookup]
    rw [q]
    exact r
  · rw [if_neg h]
    have q : List.lookup g [(f, v)] = none := by simp [List.lookup, show (g == f) = false from by simpa using h]
    rw [q]
    trivial
/-- X(e), X with an __init__ of its own -/
def tMkE (C : Addr) (f : Str) (ta : TA) : L2.St → Hp → XK → Prop := fun σ H Q => ta σ H fun vs H1 => ∃ v, vs = [v] ∧ ∀ d, H1 d = none → Q (.ref C) (some d) (upd H1 d (.xd [(f, v)]))
theorem pmk_er {x f : Str} {B newId initId : String} {bmB : List Value} {C fI : Addr} {a : Expr} {ta : TA} {p pos : Pos} {k : Nat} (T : PX.ErC X.prog X.K X.mg x f B newId initId bmB C fI) (hr : Room k X.A) (ha : PA X [a] ta) (hg : Gl X x)
    (hdb : (x == ("__debug__" : Str)) = false := by decide) (he : starEach (a :: []) X.env = (false, eval a X.env) :: starEach [] X.env := by rfl) (hpl : (backTo pos (starEach [] X.env)).any (·.1) = false := by rfl) :
    PMk X (.Call (.Name x p) [a] [] pos) (tMkE C f ta) := by
  intro pins s σ H Q I h
  refine wpAny_Call_Name_kw (ld_glob I hg T.gC ?_ hdb)
  refine PySem.W.callWith_K (h₀ := X.base) I.ok.mod.kin T.kC (thn (ha.run pos pins s σ H _ I h) fun us s1 hh => ?_) he hpl
  obtain ⟨vs, H1, I1, r1, v, ev, q1⟩ := hh
  subst ev
  refine ⟨I1.kIn, ?_⟩
  cases r1 with
  | cons rv rn =>
    rename_i u us
    cases rn
    show wpAny _ _ (call (.ref C) [u]) _ _ _
    obtain ⟨mb, hb1, hb2⟩ := I.mod.blt
    have hlim := I1.nolimit
    obtain ⟨hp, g, dr, tk, os⟩ := s1
    refine wpAny_call (PX.error_made T (mb := mb) I1.kIn hlim (by have := hr.dp; omega) (I.mod.glob.keeps I1.bk) (hb1.keeps I1.bk) ((hb2 "super" (by decide)).trans (by decide +kernel)) fun h' tk' e d M => ?_)
    show MkP X pins σ Q (.ref e) ⟨h', g, dr, tk', os⟩
    obtain ⟨oe, fv, hoe, hc, hd, hdat, h1⟩ := M.obj
    obtain ⟨G', g1, g2⟩ := restrict h' fun b => decide (b ≠ e)
    have gk : ∀ b, b ≠ e → G'.get? b = h'.get? b := fun b hb => g1 b (decide_eq_true hb)
    have ge : G'.get? e = none := g2 e (by simp)
    have old : ∀ b o, hp.get? b = some o → G'.get? b = some o := fun b o q => (gk b (Nat.ne_of_lt (Nat.lt_of_lt_of_le (Heap.lt_size q) M.new))).trans (M.keep b o q)
    have ob : ObjOk X.prog X.w (upd H1 d (.xd [(f, v)])) G' d (.xd [(f, v)]) := ⟨_, M.ns.at (fun o q => (gk d M.dne).trans q), relO_one rv⟩
    have J : Inv X pins σ (upd H1 d (.xd [(f, v)])) ⟨G', g, dr, tk', os⟩ := I1.laid (t' := tk') old M.dbig ob
    refine ⟨e, oe, fv, ⟨G', g, dr, tk', os⟩, _, .ref C, some d, rfl, J, fun b o q => ?_, ge, hoe, ⟨hc, hd⟩, hdat, h1, ?_, rfl, I1.bare, raises_own T.exC T.tyC, q1 d (I1.hok.fresh M.dbig)⟩
    · by_cases hb : b = e
      · exact absurd (show G'.get? b = some o from q) (by rw [hb, ge]; simp)
      · exact (gk b hb).symm.trans q
    · rw [upd_ne (Ne.symm M.dne)]
      exact I1.hok.fresh M.new
theorem rs_raise1 {x f : Str} {B newId initId : String} {bmB : List Value} {C fI : Addr} {a : Expr} {m : En → R D} {p pos pos' : Pos} {k : Nat} (T : PX.ErC X.prog X.K X.mg x f B newId initId bmB C fI) (hr : RmG k X.A) (hc : X.calm = true) (tk : Takes X W) (hm : c.mg = X.mg) (ha : PE X a (tE c W m)) (hg : Gl X x)
    (hdb : (x == ("__debug__" : Str)) = false := by decide) (he : starEach (a :: []) X.env = (false, eval a X.env) :: starEach [] X.env := by rfl) (hpl : (backTo pos (starEach [] X.env)).any (·.1) = false := by rfl) :
    PS X (.Raise (some (.Call (.Name x p) [a] [] pos)) none pos') (tS c W (sRz1 x f m)) :=
  (ps_raise hc tk (pmk_er T hr.r (pa_cons ha pa_nil he) hg hdb he hpl)).imp fun D σ H ⟨env, F, S, q⟩ => by
    refine tM_bs S q fun d e v H1 F1 S1 s1 r1 h1 => ⟨v, rfl, fun dx ndx => ?_⟩
    have g2 := Go.frz S1.wf ndx (o := .xd [(f, v)]) (fun ps z => by cases z)
    exact h1 (.ref C) (some dx) σ _ _ (S1.go g2) g2.gr.f ⟨C, by rw [hm]; exact T.gC, rfl, dx, _, rfl, upd_same, .cons (r1.mono g2.gr.f) .nil⟩
end
/-! ### suites: something made of the error, returned -/
theorem RepX.mono {g : Gc} {F F' : Hp} (s : Same F F') {x : Xn} {cls : Value} {d : Option Addr} (h : RepX g F x cls d) : RepX g F' x cls d := by
  obtain ⟨C, h1, h2, h3⟩ := h
  refine ⟨C, h1, h2, ?_⟩
  cases q : x.fs with
  | none =>
    rw [q] at h3
    exact h3
  | some fs =>
    rw [q] at h3
    obtain ⟨dx, vs, e1, e2, e3⟩ := h3
    exact ⟨dx, vs, e1, s _ _ e2, e3.mono s⟩
/-- the reading of an expression made of the error: at is the slot that holds it, a the error, cls its class, d its dict -/
def tU (g : Gc) (at_ : Option Nat) (a : Addr) (cls : Value) (d : Option Addr) (m : Xn → Option PV.D) : TE := fun σ H Q => (∀ i, at_ = some i → σ[i]? = some (some (.ref a))) ∧ ∃ x F, WF g F H ∧ RepX g F x cls d ∧ ∃ dd, m x = some dd ∧ ∀ v H' F', Go g F H F' H' → Rep g F' dd v → Q v H'
section
variable {X : Cx} {g : Gc} {at_ : Option Nat} {a : Addr} {cls : Value} {d : Option Addr} {e e1 e2 : Expr} {m m1 m2 : Xn → Option PV.D} {pos : Pos}
def uK (dd : PV.D) : Xn → Option PV.D := fun _ => some dd
theorem ru_c {dd : PV.D} {v : V} (h : PE X e (tC v)) (r : ∀ F, Rep g F dd v) : PE X e (tU g at_ a cls d (uK dd)) := h.imp fun σ H Q ⟨_, x, F, w, _, dd', e', q⟩ => by
  cases e'
  exact q v H F (Go.refl w) (r F)
theorem ru_str {z : Str} {j : Nat} : PE X (.Constant (.str z) j pos) (tU g at_ a cls d (uK (.str z))) := ru_c pe_str fun _ => .str
theorem ru_bl {z : Bool} {j : Nat} : PE X (.Constant (.bool z) j pos) (tU g at_ a cls d (uK (.bl z))) := ru_c pe_bl fun _ => .bl
theorem ru_int {z : Int} {j : Nat} : PE X (.Constant (.int z) j pos) (tU g at_ a cls d (uK (.int z))) := ru_c pe_int fun _ => .int
theorem ru_non {j : Nat} : PE X (.Constant .none j pos) (tU g at_ a cls d (uK .non)) := ru_c pe_non fun _ => .non
def uOp (f : List PV.D → Option PV.D) (m1 m2 : Xn → Option PV.D) : Xn → Option PV.D := fun x => match m1 x, m2 x with
  | some d1, some d2 => f [d1, d2]
  | _, _ => none
theorem uOp_some {f : List PV.D → Option PV.D} {x : Xn} {dd : PV.D} (h : uOp f m1 m2 x = some dd) : ∃ d1 d2, m1 x = some d1 ∧ m2 x = some d2 ∧ f [d1, d2] = some dd := by
  unfold uOp at h
  split at h
  · rename_i d1 d2 h1 h2
    exact ⟨d1, d2, h1, h2, h⟩
  · cases h
theorem ru_op {op : Operator} {r : R2} {f : List PV.D → Option PV.D} (ho : OpR X (binaryOp op) r) (hf : OpA g (r2 r) f) (h1 : PE X e1 (tU g at_ a cls d m1)) (h2 : PE X e2 (tU g at_ a cls d m2)) : PE X (.BinOp e1 op e2 pos) (tU g at_ a cls d (uOp f m1 m2)) :=
  (pe_op ho h1 h2).imp fun σ H Q ⟨hs, x, F, w, rx, dd, hm, q⟩ => by
    obtain ⟨d1, d2, a1, a2, a3⟩ := uOp_some hm
    refine ⟨hs, x, F, w, rx, d1, a1, fun v1 H1 F1 g1 r1 => ⟨hs, x, F1, g1.gr.wf, rx.mono g1.gr.f, d2, a2, fun v2 H2 F2 g2 r2 => ?_⟩⟩
    exact hf [d1, d2] [v1, v2] dd F2 H2 Q g2.gr.wf (.cons (.st (r1.mono g2.gr.f)) (.cons (.st r2) .nil)) a3 fun v H3 F3 g3 rv => q v H3 F3 ((g1.trans g2).trans g3) rv
def uTup (m1 m2 : Xn → Option PV.D) : Xn → Option PV.D := uOp (fun ds => some (.tup ds)) m1 m2
theorem ru_tup {k : Nat} (h1 : PE X e1 (tU g at_ a cls d m1)) (h2 : PE X e2 (tU g at_ a cls d m2)) (hs1 : starEach [e1, e2] X.env = (false, eval e1 X.env) :: starEach [e2] X.env := by rfl) (hs2 : starEach [e2] X.env = (false, eval e2 X.env) :: starEach [] X.env := by rfl) :
    PE X (.Tuple [e1, e2] k pos) (tU g at_ a cls d (uTup m1 m2)) := (pe_tup (pa_cons h1 (pa_cons h2 pa_nil hs2) hs1)).imp fun σ H Q ⟨hs, x, F, w, rx, dd, hm, q⟩ => by
    obtain ⟨d1, d2, a1, a2, a3⟩ := uOp_some hm
    cases a3
    refine ⟨hs, x, F, w, rx, d1, a1, fun v1 H1 F1 g1 r1 => ⟨hs, x, F1, g1.gr.wf, rx.mono g1.gr.f, d2, a2, fun v2 H2 F2 g2 r2 => ⟨lim_line (show 2 ≤ lim by decide), fun p np => ?_⟩⟩⟩
    have g3 := Go.frz g2.gr.wf np (o := .tup [v1, v2]) (fun ps z => by cases z)
    exact q _ _ _ ((g1.trans g2).trans g3) (.tup (SqT.of upd_same) (.cons ((r1.mono g2.gr.f).mono g3.gr.f) (.cons (r2.mono g3.gr.f) .nil)))
def uTup1 (m1 : Xn → Option PV.D) : Xn → Option PV.D := fun x => (m1 x).map fun d => .tup [d]
theorem ru_tup1 {k : Nat} (h1 : PE X e1 (tU g at_ a cls d m1)) (hs1 : starEach [e1] X.env = (false, eval e1 X.env) :: starEach [] X.env := by rfl) :
    PE X (.Tuple [e1] k pos) (tU g at_ a cls d (uTup1 m1)) := (pe_tup (pa_cons h1 pa_nil hs1)).imp fun σ H Q ⟨hs, x, F, w, rx, dd, hm, q⟩ => by
    unfold uTup1 at hm
    obtain ⟨d1, a1, rfl⟩ := Option.map_eq_some_iff.mp hm
    refine ⟨hs, x, F, w, rx, d1, a1, fun v1 H1 F1 g1 r1 => ⟨lim_line (show 1 ≤ lim by decide), fun p np => ?_⟩⟩
    have g3 := Go.frz g1.gr.wf np (o := .tup [v1]) (fun ps z => by cases z)
    exact q _ _ _ (g1.trans g3) (.tup (SqT.of upd_same) (.cons (r1.mono g3.gr.f) .nil))
def uCall (f : List PV.D → Option PV.D) (m : Xn → Option PV.D) : Xn → Option PV.D := fun x => (m x).bind fun d => f [d]
theorem ru_cb {id : String} {r : List V → Hp → VK → Prop} {f : List PV.D → Option PV.D} {x : Str} {p : Pos} (hc : CallR X (.builtin id) r) (hf : OpA g r f) (hg : Gl X x) (hm : X.mg x = none) (hv : bootBuiltins x = some (.builtin id)) (ha : PE X e (tU g at_ a cls d m)) (hn : x ≠ "__name__" := by decide) (hdb : (x == ("__debug__" : Str)) = false := by decide)
    (he : starEach (e :: []) X.env = (false, eval e X.env) :: starEach [] X.env := by rfl) (hpl : (backTo pos (starEach [] X.env)).any (·.1) = false := by rfl) : PE X (.Call (.Name x p) [e] [] pos) (tU g at_ a cls d (uCall f m)) :=
  (pe_callB hc hg hm hv (pa_cons ha pa_nil he) hn hdb he hpl).imp fun σ H Q ⟨hs, x, F, w, rx, dd, hm, q⟩ => by
    unfold uCall at hm
    obtain ⟨d1, a1, a2⟩ := Option.bind_eq_some_iff.mp hm
    exact ⟨hs, x, F, w, rx, d1, a1, fun v1 H1 F1 g1 r1 => hf [d1] [v1] dd F1 H1 Q g1.gr.wf (.cons (.st r1) .nil) a2 fun v H2 F2 g2 rv => q v H2 F2 (g1.trans g2) rv⟩
def uFld (y f : Str) : Xn → Option PV.D := fun x => if x.cls == y then (match x.fs with
  | some fs => fs.lookup f
  | none => none) else none
theorem RepF.lookup {g : Gc} {F : Hp} {f : Str} {dd : PV.D} : ∀ {fs : List (Str × PV.D)} {vs : List (Str × V)}, RepF g F fs vs → fs.lookup f = some dd → ∃ v, vs.lookup f = some v ∧ Rep g F dd v
  | _, _, .nil, e => by cases e
  | _, _, @RepF.cons _ _ k x xs v vs h t, e => by
    by_cases q : f = k
    · subst q
      have e' : x = dd := by simpa [List.lookup] using e
      subst e'
      exact ⟨v, by simp [List.lookup], h⟩
    · have q' : (f == k) = false := by simpa using q
      have e' : xs.lookup f = some dd := by simpa [List.lookup, q'] using e
      obtain ⟨u, a1, a2⟩ := RepF.lookup t e'
      exact ⟨u, by simpa [List.lookup, q'] using a1, a2⟩
/-- err.f -/
theorem ru_fld {X : Cx} {oe : Obj} {pn : List (Addr × Obj)} {i : Nat} {n f y : Str} {C : Addr} {p : Pos} (T : XfC X.K C) (hno : PySem.W.findIn X.K (.ref C) f = some none) (gC : g.mg y = some (.ref C)) (hz : Zc cls d oe) (hf : ∃ vs, oe.data = .fields vs)
    (hN : PE (X.suite a ((a, oe) :: pn)) (.Name n p) (tVar i)) (hb : attributeBase (.Name n p) f X.env (eval (.Name n p) X.env) = eval (.Name n p) X.env := by rfl) : PE (X.suite a ((a, oe) :: pn)) (.Attribute (.Name n p) f pos) (tU g (some i) a cls d (uFld y f)) :=
  (pe_xf T hno hz hf hN hb).imp fun σ H Q ⟨hs, x, F, w, rx, dd, hm, q⟩ => by
    unfold uFld at hm
    split at hm
    · rename_i hy
      have hy := beq_iff_eq.mp hy
      obtain ⟨C', e1, e2, e3⟩ := rx
      rw [hy, gC] at e1
      cases e1
      cases qx : x.fs with
      | none =>
        rw [qx] at hm
        cases hm
      | some fs =>
        rw [qx] at hm e3
        obtain ⟨dx, vs, b1, b2, b3⟩ := e3
        obtain ⟨v, l1, l2⟩ := RepF.lookup b3 hm
        exact ⟨.ref a, hs i rfl, rfl, e2, dx, vs, v, b1, w.sub _ _ b2, l1, q v H F (Go.refl w) l2⟩
    · cases hm
end
end PV

/-! try, its suites returning -/
namespace PV
open PySem PySem.Spec PyProof.Rows L2
/-- a clause: which classes it takes, its slot, what it returns -/
structure Hd where
  can : List (Str × Bool)
  at_ : Option Nat
  su : Xn → Option PV.D
def hdOff (h : Hd) (e : En) : Option En := match h.at_ with
  | none => some e
  | some i => if free e i = true then some (e.set i .no) else none
def hdl : List Hd → Xn → En → Rs
  | [], x, e => .er x e
  | h :: r, x, e => match h.can.lookup x.cls with
    | some true => (match h.su x, hdOff h e with
      | some d, some e' => .rt d e'
      | _, _ => .no)
    | some false => hdl r x e
    | none => .no
def sTry (m : En → Rs) (hs : List Hd) : En → Rs := fun env => match m env with
  | .er x e => hdl hs x e
  | r => r
/-- a suite -/
def tSu (c : Cn) (h : Hd) : Su := fun a cls d D σ H => (∀ i, h.at_ = some i → σ[i]? = some (some (.ref a))) ∧ ∃ x env F, SR c env σ H F ∧ RepX c.toGc F x cls d ∧ ∃ dd, h.su x = some dd ∧ ∀ v H' F', SR c env σ H' F' → Same F F' → Rep c.toGc F' dd v → D.rt v H'
theorem rsu_rt {X : Cx} {c : Cn} {h : Hd} {a : Addr} {cls : Value} {d : Option Addr} {e : Expr} {pos : Pos} (he : PE X e (tU c.toGc h.at_ a cls d h.su)) : PSs X [.Return (some e) pos] (tSu c h a cls d) :=
  (pss_one (ps_ret he)).imp fun D σ H ⟨hs, x, env, F, S, rx, dd, hm, q⟩ => ⟨hs, x, F, S.wf, rx, dd, hm, fun v H' F' g' rv => q v H' F' (S.go g') g'.gr.f rv⟩
/-- the clauses as they stand -/
inductive HdsOk (X : Cx) (c : Cn) : List ExceptHandler → List Hd → List (Value × Option Nat × Su) → Prop
  | nil : HdsOk X c [] [] []
  | bare {x : Str} {C : Addr} {h : Hd} {b₀ : Stmt} {suite : List Stmt} {np pos' : Pos} {hds : List ExceptHandler} {hs : List Hd} {l : List (Value × Option Nat × Su)} (hg : Gl X x) (hm : X.mg x = some (.ref C)) (ha : h.at_ = none)
      (hcan : ∀ y b, h.can.lookup y = some b → ∀ C', c.mg y = some (.ref C') → PySem.W.exmOne X.K (.ref C') (.ref C) = some b) (hsu : SuOk X (b₀ :: suite) (tSu c h)) (r : HdsOk X c hds hs l) (hd : (x == ("__debug__" : Str)) = false := by decide) :
      HdsOk X c (.ExceptHandler (some (.Name x np)) none (b₀ :: suite) pos' :: hds) (h :: hs) ((.ref C, none, tSu c h) :: l)
  | as {x n : Str} {i : Nat} {C : Addr} {h : Hd} {b₀ : Stmt} {suite : List Stmt} {np pos' : Pos} {hds : List ExceptHandler} {hs : List Hd} {l : List (Value × Option Nat × Su)} (hi : X.N[i]? = some n) (hn : X.env.kindOf n = some .local) (hg : Gl X x) (hm : X.mg x = some (.ref C)) (ha : h.at_ = some i)
      (hcan : ∀ y b, h.can.lookup y = some b → ∀ C', c.mg y = some (.ref C') → PySem.W.exmOne X.K (.ref C') (.ref C) = some b) (hsu : SuOk X (b₀ :: suite) (tSu c h)) (r : HdsOk X c hds hs l) (hd : (x == ("__debug__" : Str)) = false := by decide) :
      HdsOk X c (.ExceptHandler (some (.Name x np)) (some n) (b₀ :: suite) pos' :: hds) (h :: hs) ((.ref C, some i, tSu c h) :: l)
section
variable {X : Cx} {c : Cn} {W : WX}
theorem HdsOk.mix : ∀ {hds : List ExceptHandler} {hs : List Hd} {l : List (Value × Option Nat × Su)}, HdsOk X c hds hs l → MixOk X hds l
  | _, _, _, .nil => .nil
  | _, _, _, .bare hg hm _ _ hsu r hd => .bare ⟨hg, hd, .inl hm⟩ hsu (HdsOk.mix r)
  | _, _, _, .as hi hn hg hm _ _ hsu r hd => .as hi hn ⟨hg, hd, .inl hm⟩ hsu (HdsOk.mix r)
/-- slot i, not a by-reference one, forgotten -/
theorem SR.off {env : En} {σ : L2.St} {H F : Hp} (S : SR c env σ H F) {i : Nat} (hf : free env i = true) (o : Option V) : SR c (env.set i .no) (σ.set i o) H F := by
  have own : ∀ j a, Own (env.set i .no) (σ.set i o) j a → Own env σ j a := fun j a ⟨h1, d', h2⟩ => by
    have hj : j ≠ i := fun z => by
      subst z
      by_cases hl : j < env.length
      · rw [List.getElem?_set_self hl] at h2
        rcases h2 with h2 | h2 <;> cases h2
      · rw [List.getElem?_eq_none (by simpa using hl)] at h2
        rcases h2 with h2 | h2 <;> cases h2
    rw [List.getElem?_set_ne (Ne.symm hj)] at h1 h2
    exact ⟨h1, d', h2⟩
  have ne : ∀ j (s : Sl), (env.set i .no)[j]? = some s → s ≠ .no → j ≠ i ∧ env[j]? = some s := fun j s h n => by
    have hj : j ≠ i := fun z => by
      subst z
      by_cases hl : j < env.length
      · rw [List.getElem?_set_self hl] at h
        exact n (Option.some.inj h).symm
      · rw [List.getElem?_eq_none (by simpa using hl)] at h
        cases h
    rw [List.getElem?_set_ne (Ne.symm hj)] at h
    exact ⟨hj, h⟩
  refine ⟨S.gr, S.there, S.rt, by simp [S.len], fun j d e => ?_, fun j d e => ?_, fun j d e => ?_, fun j k a h1 h2 => S.apart j k a (own j a h1) (own k a h2)⟩
  · obtain ⟨hj, e⟩ := ne j _ e (by simp)
    rw [List.getElem?_set_ne (Ne.symm hj)]
    exact S.fz j d e
  · obtain ⟨hj, e⟩ := ne j _ e (by simp)
    rw [List.getElem?_set_ne (Ne.symm hj)]
    exact S.ow j d e
  · obtain ⟨hj, e⟩ := ne j _ e (by simp)
    rw [List.getElem?_set_ne (Ne.symm hj)]
    exact S.rf j d e
theorem hdl_ok (hf : c.fr = false) {K : PySem.W.Frag} (hK : K = X.K) {D : Ends} {x : Xn} {cls : Value} {dx : Option Addr} {σ : L2.St} {H F : Hp} {e : En} (S : SR c e σ H F) (rx : RepX c.toGc F x cls dx) :
    ∀ {hds : List ExceptHandler} {hs : List Hd} {l : List (Value × Option Nat × Su)}, HdsOk X c hds hs l → OkS c W F D (hdl hs x e) → wMix X.K W D l cls dx σ H := by
  obtain ⟨Cx, e1, e2, e3⟩ := id rx
  subst e2
  have rtq : ∀ {h : Hd} {hs : List Hd}, OkS c W F D (match h.su x, hdOff h e with | some d, some e' => Rs.rt d e' | _, _ => .no) → ∃ d e', h.su x = some d ∧ hdOff h e = some e' ∧ OkS c W F D (.rt d e') := fun {h hs} q => by
    split at q
    · rename_i d e' a1 a2
      exact ⟨d, e', a1, a2, q⟩
    · exact q.elim
  intro hds hs l hk
  induction hk with
  | nil => exact fun q => q _ dx σ H F S (Same.refl _) rx
  | @bare x' C h b₀ suite np pos' hds hs l hg hm ha hcan hsu r hd ih =>
    intro q
    unfold hdl at q
    split at q
    · rename_i hl
      refine ⟨true, hcan _ _ hl _ e1, fun _ a na => ?_, (fun z => by cases z)⟩
      obtain ⟨d, e', a1, a2, q⟩ := rtq (hs := hs) q
      unfold hdOff at a2
      rw [ha] at a2
      cases a2
      exact ⟨(fun i z => by rw [ha] at z; cases z), x, e, F, S, rx, d, a1, fun v H' F' S' s' rv => q v σ H' F' S' s' (by unfold rlR; rw [if_neg (by rw [hf]; exact Bool.false_ne_true)]; exact rv)⟩
    · rename_i hl
      exact ⟨false, hcan _ _ hl _ e1, (fun z => by cases z), fun _ => ih q⟩
    · exact q.elim
  | @as x' n i C h b₀ suite np pos' hds hs l hi hn hg hm ha hcan hsu r hd ih =>
    intro q
    unfold hdl at q
    split at q
    · rename_i hl
      refine ⟨true, hcan _ _ hl _ e1, fun _ a na => ?_, (fun z => by cases z)⟩
      obtain ⟨d, e', a1, a2, q⟩ := rtq (hs := hs) q
      unfold hdOff at a2
      rw [ha] at a2
      have a2 : (if free e i = true then some (e.set i Sl.no) else none) = some e' := a2
      split at a2
      · rename_i hfr
        cases a2
        have hi' : i < σ.length := by
          rw [← S.len]
          unfold free at hfr
          by_cases hl : i < e.length
          · exact hl
          · rw [List.getElem?_eq_none (by omega)] at hfr
            cases hfr
        refine ⟨fun j z => ?_, x, e.set i .no, F, S.off hfr _, rx, d, a1, fun v H' F' S' s' rv => q v _ H' F' S' s' (by unfold rlR; rw [if_neg (by rw [hf]; exact Bool.false_ne_true)]; exact rv)⟩
        rw [ha] at z
        cases z
        exact List.getElem?_set_self hi'
      · cases a2
    · rename_i hl
      exact ⟨false, hcan _ _ hl _ e1, (fun z => by cases z), fun _ => ih q⟩
    · exact q.elim
theorem rs_try {body : List Stmt} {hds : List ExceptHandler} {h₀ : ExceptHandler} {m : En → Rs} {hs : List Hd} {l : List (Value × Option Nat × Su)} {pos : Pos} (hst : X.stack = X.env :: X.outer) (hfr : X.env.frame = some X.env.locals) (hN : X.N.Nodup) (tk : Takes X W) (hf : c.fr = false)
    (hb : ∀ (W : WX) (pn : List (Addr × Obj)) (xe : Value → Shared → Prop), Takes (X.tr pn xe) W → PSs (X.tr pn xe) body (tS c W m)) (hh : HdsOk X c (h₀ :: hds) hs l) : PS X (.Try body (h₀ :: hds) [] [] pos) (tS c W (sTry m hs)) :=
  (ps_try_mix (tb := fun W => tS c W m) hst hfr hN tk (fun W pn xe t _ => hb W pn xe t) hh.mix).imp fun D σ H ⟨env, F, S, q⟩ => by
    refine ⟨env, F, S, ?_⟩
    unfold sTry at q
    cases z : m env with
    | er x e =>
      rw [z] at q
      exact fun cls dx σ' H' F' S' s' rx => hdl_ok hf rfl S' rx hh (OkS.mono q s')
    | nx e =>
      rw [z] at q
      exact q
    | rt v e =>
      rw [z] at q
      exact q
    | bk e =>
      rw [z] at q
      exact q
    | ct e =>
      rw [z] at q
      exact q
    | no =>
      rw [z] at q
      exact q
end
end PV

/-! a lambda without parameters, handed to a def that calls it: where no guard is around, and with all that is new known -/
namespace PV
open PySem PySem.Spec PyProof.Rows L2 LamX
/-- the heap with a code object more, perhaps -/
def LamNew (H H1 : Hp) : Prop := ExtN H H1 ∧ (∀ b o, H1 b = some o → H b = some o ∨ (∃ ps, o = .tbl ps) ∨ ∃ q, o = CodeO b q) ∧ ∀ b, H b ≠ none → H1 b ≠ none
theorem LamNew.refl (H : Hp) : LamNew H H := ⟨ExtN.refl H, fun _ _ h => .inl h, fun _ h => h⟩
section
variable {X : Cx} {pins : List (Addr × Obj)} {σ : L2.St} {H : Hp} {s : Shared}
/-- as lam_make2, all that is new told -/
theorem lam_make3 {T : List (Addr × Str)} {c P : Addr} {params : Arguments} {body : Expr} {scope : Scope} {pos : Pos} {E : Value → Shared → Prop} {Q : Value → Shared → Prop} (I : Inv X pins σ H s) (TB : TabB X.base X.mg c P) (hcode : X.env.code = .ref c)
    (hm : (P, X.env.qual ++ "<lambda>") ∈ T) (hu : ∀ p ∈ T, p.1 = P → p.2 = X.env.qual ++ "<lambda>") (hT : Tabs T H) (hdef : defaultsOf params X.env = ([], [])) (hfree : ∀ y ∈ scope.names, y.2 = .free → ∃ c, X.env.cells.lookup y.1 = some c)
    (h : ∀ (f c' : Addr) (pm ctv : Value) (H1 : Hp) (s' : Shared), Inv X pins σ H1 s' → LamNew H H1 → Tabs T H1 →
      s'.heap.get? f = some (PySem.W.kla_obj "<lambda>" (X.env.qual ++ "<lambda>") params body scope (cloFrom X.env.cells scope.names []) pm c' ctv) → H1 f = none → f ∉ frs X.stack → H1 c' = some (CodeO c' (X.env.qual ++ "<lambda>")) → Q (.ref f) s') :
    wpAny (model X.prog X.w) X.A (eval (.Lambda params body scope pos) X.env) Q E s := by
  obtain ⟨ps, hP, ht, ha⟩ := hT _ hm
  have bP : s.heap.BuiltinsAt X.mg P := TB.bm.keeps I.bk
  have hP' : s.heap.get? P = some { cls := .none, data := .fields ps } := I.hok P _ hP
  have notFr : ∀ f, s.heap.objs.size ≤ f → f ∉ frs X.stack := fun f hf z => (List.mem_cons.mp (I.stkSub _ z)).elim (fun e => Nat.lt_irrefl _ (Nat.lt_of_lt_of_le (by rw [e]; exact I.lt) hf)) (I.nofs hf)
  refine PySem.W.kla_eval hdef ?_
  cases hc : codeAmong pos ps.toList with
  | some cv =>
    obtain ⟨c', rfl, hco⟩ := ha pos cv hc
    refine PySem.W.kla_makeFunctionHit (mg := X.mg) (c := c) (P := P) (ps := ps) (closure_ok hfree) I.ok.glob (I.mod.glob.keeps I.bk) hcode (TB.code.keeps I.bk) hP' ht hc bP fun ctv h' tk hx hsz => ?_
    have keep : ∀ b o, s.heap.get? b = some o → (h'.push (PySem.W.kla_obj "<lambda>" (X.env.qual ++ "<lambda>") params body scope (cloFrom X.env.cells scope.names []) ((X.mg "__name__").getD .none) c' ctv)).get? b = some o := fun b o e => Heap.get?_push_of_some _ (hx b o e)
    exact h h'.objs.size c' _ ctv H _ (I.kept (t' := tk) keep) (LamNew.refl H) hT (Heap.get?_push_size _ rfl) (I.hok.fresh hsz) (notFr _ hsz) hco
  | none =>
    refine PySem.W.kla_makeFunction (mg := X.mg) (c := c) (P := P) (ps := ps) (closure_ok hfree) I.ok.glob (I.mod.glob.keeps I.bk) hcode (TB.code.keeps I.bk) hP' ht hc TB.gP bP fun c' ctv h' tk hx hge hlt hrec htb => ?_
    obtain ⟨c2, oc, vs, t, e2, hoc, hd, hv⟩ := hrec
    cases e2
    have big : s.heap.objs.size ≤ h'.objs.size := Nat.le_trans hge (Nat.le_of_lt hlt)
    have nC : H c' = none := I.hok.fresh hge
    have nPc : P ≠ c' := ne_of_none hP nC
    have I1 := inv_table (t' := tk) (more := #[rawInt pos.line, rawInt pos.col, .ref c']) (h' := h'.push (PySem.W.kla_obj "<lambda>" (X.env.qual ++ "<lambda>") params body scope (cloFrom X.env.cells scope.names []) ((X.mg "__name__").getD .none) c' ctv)) I hP
      (fun b o hb e => Heap.get?_push_of_some _ (hx b o hb e)) (Heap.get?_push_of_some _ htb) hge ⟨oc, vs, t, Heap.get?_push_of_some _ hoc, hd, hv⟩
    have eL : (ps ++ #[rawInt pos.line, rawInt pos.col, .ref c']).toList = ps.toList ++ [rawInt pos.line, rawInt pos.col, .ref c'] := by simp
    have nw : LamNew H (upd (upd H P (.tbl (ps ++ #[rawInt pos.line, rawInt pos.col, .ref c']))) c' (CodeO c' (X.env.qual ++ "<lambda>"))) := by
      refine ⟨fun b o e n => ?_, fun b o e => ?_, fun b hb => upd_there b (upd_there b hb)⟩
      · rw [upd_ne (ne_of_none e nC), upd_ne (fun z => n ps (Option.some.inj (e.symm.trans (by rw [z]; exact hP))))]
        exact e
      · by_cases hb : b = c'
        · subst hb
          rw [upd_same] at e
          cases e
          exact .inr (.inr ⟨_, rfl⟩)
        · rw [upd_ne hb] at e
          by_cases hb2 : b = P
          · subst hb2
            rw [upd_same] at e
            cases e
            exact .inr (.inl ⟨_, rfl⟩)
          · rw [upd_ne hb2] at e
            exact .inl e
    have tabs : Tabs T (upd (upd H P (.tbl (ps ++ #[rawInt pos.line, rawInt pos.col, .ref c']))) c' (CodeO c' (X.env.qual ++ "<lambda>"))) := fun p hp => by
      obtain ⟨ps', a1, a2, a3⟩ := hT p hp
      by_cases hb : p.1 = P
      · rw [hu p hp hb, hb]
        refine ⟨_, by rw [upd_ne nPc, upd_same], by rw [eL]; exact PySem.TriplesOk_snoc _ _ _ _ ht, fun p' cv hcv => ?_⟩
        rw [eL] at hcv
        rcases among_app _ ht hcv with z | z
        · obtain ⟨c0, e1, e2⟩ := ha p' cv z
          exact ⟨c0, e1, nw.1 _ _ e2 codeO_ne⟩
        · exact ⟨c', z, upd_same⟩
      · refine ⟨ps', by rw [upd_ne (ne_of_none a1 nC), upd_ne hb]; exact a1, a2, fun p' cv hcv => ?_⟩
        obtain ⟨c0, e1, e2⟩ := a3 p' cv hcv
        exact ⟨c0, e1, nw.1 _ _ e2 codeO_ne⟩
    refine h h'.objs.size c' _ ctv _ _ I1 nw tabs (Heap.get?_push_size _ rfl) ?_ (notFr _ big) upd_same
    rw [upd_ne (Nat.ne_of_gt hlt), upd_ne (Nat.ne_of_gt (Nat.lt_of_lt_of_le (Heap.lt_size hP') big))]
    exact I.hok.fresh big
/-- the slots of a context for the lambda's body -/
abbrev lamA (X : Cx) (qg : Str) (sg : Scope) (s : Shared) (g : Addr) (cdg : Value) : Around := X.A.deeper (envOfC qg sg s.heap.objs.size g cdg)
/-- x(), in the def that got the lambda -/
theorem pe_actG {CXg : CXT} {Eg : XK} {Ng : List Str} {qg : Str} {sg : Scope} {g f c' : Addr} {cdg pm ctv : Value} {params : Arguments} {body : Expr} {scope : Scope} {k i : Nat} {a : Str} {pn : List (Addr × Obj)} {xe : Value → Shared → Prop} {W : WX} {tb : XK → TE} {p1 p2 : Pos}
    (I : Inv X pins σ H s) (L : LamS X.env.scope scope) (hf : s.heap.get? f = some (PySem.W.kla_obj "<lambda>" (X.env.qual ++ "<lambda>") params body scope (cloFrom X.env.cells scope.names []) pm c' ctv)) (hfn : H f = none) (hfr : f ∉ frs X.stack)
    (hbind : bindArgs (PySem.W.kla_fn "<lambda>" (X.env.qual ++ "<lambda>") params body scope (cloFrom X.env.cells scope.names []) pm (.ref c') ctv) ⟨[], []⟩ = pure [])
    (tk : Takes ((cxOf CXg X.prog X.w X.K X.mg X.base Ng qg sg g cdg X.A X.stack s H Eg).tr pn xe) W) (hr : RmG (k + 1) (lamA X qg sg s g cdg))
    (hbody : ∀ (A : Around) (outer : List Env) (s : Shared) (H : Hp) (E : XK), RmG k (A.deeper (lamEnv X scope s.heap.objs.size f c')) → PE (lamCx X A outer s H E scope f c') body (tb E))
    (hN : Ng[i]? = some a) (hv : Vis sg a) (hd : (a == ("__debug__" : Str)) = false := by decide) (hcd : (a == ("__classdict__" : Str)) = false := by decide) :
    PE ((cxOf CXg X.prog X.w X.K X.mg X.base Ng qg sg g cdg X.A X.stack s H Eg).tr pn xe) (.Call (.Name a p1) [] [] p2)
      (fun σZ HZ Q => σZ[i]? = some (some (.ref f)) ∧ HZ c' = some (CodeO c' (X.env.qual ++ "<lambda>")) ∧ tb (WE W σZ) σ HZ Q) := by
  refine ⟨fun pinsZ sZ σZ HZ Q IZ h => ?_⟩
  obtain ⟨hs, hc, ht⟩ := h
  refine wpAny_Call_Name_kw (thn ((pe_var (pos := p1) (i := i) hN hv hd hcd).run pinsZ sZ σZ HZ (fun v H1 => v = .ref f ∧ H1 = HZ) IZ ⟨.ref f, hs, rfl, rfl⟩) fun u s1 ⟨v, H1, I1, r1, ev, eH⟩ => ?_)
  subst ev
  rw [eH] at I1
  obtain rfl : u = Value.ref f := r1
  have un : Un (frs X.stack) [] H HZ s.heap s1.heap := I1.base
  have of1 : s1.heap.get? f = some (PySem.W.kla_obj "<lambda>" (X.env.qual ++ "<lambda>") params body scope (cloFrom X.env.cells scope.names []) pm c' ctv) := un.keep f _ hf hfn hfr (fun z => nomatch (show f ∈ ([] : List Addr) from z))
  obtain ⟨⟨oc, vs, t, hoc, hdc, hvc⟩, _, _⟩ := I1.hok c' _ hc
  refine PySem.W.callWith_F0 ⟨_, _, _, _, of1⟩ (wpAny_call (codeAny_mono (R := CR (L2.CX X.prog X.w) (envOfC qg sg s.heap.objs.size g cdg :: X.stack) X.prog X.w HZ s1 Q (WE W σZ)) ?_ fun r s' hq => ?_))
  · refine PySem.W.kla_callFunE hr.r.depth of1 rfl L.co L.gen rfl ⟨c', oc, vs, t, rfl, hoc, hdc, hvc⟩ ?_
    rw [show ([] ++ [] : List Value) = [] from rfl, hbind]
    refine wpAny_pure (wpAny_newFunctionEnv (fun y hy => (L.own y hy).2) (fun y hy => absurd hy (by simp)) (fun h₁ hns hsb => ⟨I1.nolimit.fresh _ hsb, ?_⟩) L.kind)
    show codeAny _ _ (.expr body (lamEnv X scope s1.heap.objs.size f c')) _ _
    have kp : ∀ b o, s1.heap.get? b = some o → h₁.get? b = some o := fun b o e => hsb.extBut b o (Nat.ne_of_lt (Heap.lt_size e)) (Heap.get?_push_of_some _ e)
    have J : Inv (lamCx X (lamA X qg sg s g cdg) (envOfC qg sg s.heap.objs.size g cdg :: X.stack) s1 HZ (WE W σZ) scope f c') [] σ HZ { s1 with heap := h₁, toks := s1.toks + ([] : List (Str × Value)).length } := lam_start2 I L I1.env0 hr.r.hd un hns kp
    refine PySem.W.kla_codeExpr (wpAny_mono ((hbody _ _ s1 HZ _ (hr.deeper _)).run [] _ _ HZ Q J ht) (fun v s' hq => ?_) fun e s' hq => hq)
    exact let ⟨w', H', J', rv, q⟩ := hq; ⟨w', H', J'.os, J'.bare, J'.base, J'.hok, rv, q⟩
  · have hx := passAt tk σZ
    match r, hq with
    | .error e, hq => exact hx pinsZ HZ s1 e s' I1 hq
    | .ok (.ret u), hq => exact I1.after hq
    | .ok .next, hq => exact False.elim hq
    | .ok .brk, hq => exact False.elim hq
    | .ok .cont, hq => exact False.elim hq
end
/-- the def that calls what it got -/
def Given (X : Cx) (Ng : List Str) (x : Str) (sg : Scope) (g : Addr) (cdg : Value) (bg : List Stmt) (a : Str) (q : Str) (TT : (XK → Hp → VK → Prop) → Hp → VK → Prop) : Prop :=
  ∀ (f c' : Addr) (s : Shared) (H : Hp) (Q : VK) (tl : XK → Hp → VK → Prop), RmG 0 (lamA X x sg s g cdg) →
    (∀ (W : WX) (pn : List (Addr × Obj)) (xe : Value → Shared → Prop) (p1 p2 : Pos), Takes ((cxOf C8.CX0 X.prog X.w X.K X.mg X.base Ng x sg g cdg X.A X.stack s H C8.E0).tr pn xe) W →
      PE ((cxOf C8.CX0 X.prog X.w X.K X.mg X.base Ng x sg g cdg X.A X.stack s H C8.E0).tr pn xe) (.Call (.Name a p1) [] [] p2) (fun σZ HZ Q => σZ[0]? = some (some (.ref f)) ∧ HZ c' = some (CodeO c' q) ∧ tl (WE W σZ) HZ Q)) →
    H c' = some (CodeO c' q) → TT tl H Q →
    ∃ t, PSs (cxOf C8.CX0 X.prog X.w X.K X.mg X.base Ng x sg g cdg X.A X.stack s H C8.E0).nox bg t ∧ t { nx := fun _ H' => Q .non H', rt := Q } (L2.start Ng [.ref f]) H
def tLamG (T : List (Addr × Str)) (TT : (XK → Hp → VK → Prop) → Hp → VK → Prop) (t : XK → TE) : TE := fun σ H Q => Tabs T H ∧ ∀ H1, LamNew H H1 → Tabs T H1 → TT (fun E H' Q' => t E σ H' Q') H1 Q
section
variable {X : Cx}
/-- x(lambda: body) -/
theorem pe_lamG {T : List (Addr × Str)} {TT : (XK → Hp → VK → Prop) → Hp → VK → Prop} {x a : Str} {g c P : Addr} {k : Nat} {st : Stmt} {fd : FuncData} {Ng : List Str}
    {params : Arguments} {body : Expr} {scope : Scope} {t : XK → TE} {p lpos pos : Pos} (hg : Gl X x) (hm : X.mg x = some (.ref g)) (F : Fun X.K x x st g fd) (hb : L2.Binds X.K fd [a] []) (Sg : FnScope Ng [a] (defScope st)) (hNg : Ng[0]? = some a) (hva : Vis (defScope st) a)
    (hG : ∀ cdv, Given X Ng x (defScope st) g cdv (defBody st) a (X.env.qual ++ "<lambda>") TT)
    (TB : TabB X.base X.mg c P) (hcode : X.env.code = .ref c) (hmT : (P, X.env.qual ++ "<lambda>") ∈ T) (hu : ∀ p ∈ T, p.1 = P → p.2 = X.env.qual ++ "<lambda>") (hr : RmG (k + 2) X.A) (L : LamS X.env.scope scope) (hdef : defaultsOf params X.env = ([], []))
    (hbind : ∀ (q : Str) (cl : List (Str × Addr)) (pm cv ctv : Value), bindArgs (PySem.W.kla_fn "<lambda>" q params body scope cl pm cv ctv) ⟨[], []⟩ = pure [])
    (hbody : ∀ (A : Around) (outer : List Env) (s : Shared) (H : Hp) (E : XK) (f c' : Addr), RmG k (A.deeper (lamEnv X scope s.heap.objs.size f c')) → PE (lamCx X A outer s H E scope f c') body (t E))
    (hdb : (x == ("__debug__" : Str)) = false := by decide) (hd : (a == ("__debug__" : Str)) = false := by decide) (hcd : (a == ("__classdict__" : Str)) = false := by decide) :
    PE X (.Call (.Name x p) [.Lambda params body scope lpos] [] pos) (tLamG T TT t) := by
  obtain ⟨oc, od, kV, doc, pm, an, cdv, ct, osl, rfl, lk, hcg⟩ := F.ex
  refine ⟨fun pins s σ H Q I h => ?_⟩
  obtain ⟨hT, h⟩ := h
  refine wpAny_Call_Name_kw (ld_glob I hg hm (PySem.W.callWith_K (h₀ := X.base) I.ok.mod.kin F.kp ?_ (by rfl) (by rfl)) hdb)
  show wpAny _ _ (spliced ((false, eval (.Lambda params body scope lpos) X.env) :: backTo pos (starEach [] X.env))) _ _ s
  refine Calls.spliced_cons (lam_make3 I TB hcode hmT hu hT hdef (L.has I.ok) fun f c' pm' ctv H1 s' I1 eN T1 hf hfn hfr hco => Calls.spliced_nil ⟨I1.kIn, wpAny_call (codeAny_mono (R := CR C8.CX0 X.stack X.prog X.w H1 s' Q C8.E0) ?_ fun r s2 hq => ?_)⟩)
  · refine run_ofS (N := Ng) (ps := [a]) (us := [.ref f]) (vs := [.ref f]) lk hcg Sg hr.r I1.env0 (hb s' [.ref f] I1.kIn rfl) (.cons rfl .nil) rfl fun hr' => ?_
    have hR : RmG (k + 1) (lamA X x (defScope st) s' g cdv) := ⟨hr', hr.g⟩
    obtain ⟨t', ht', hq'⟩ := hG cdv f c' s' H1 Q (fun E H' Q' => t E σ H' Q') (hR.mono (Nat.zero_le _)) (fun W pn xe p1 p2 tk => pe_actG (i := 0) I1 L hf hfn hfr (hbind _ _ _ _ _) tk hR (fun A outer s H E hr2 => hbody A outer s H E f c' hr2) hNg hva hd hcd) hco (h H1 eN T1)
    exact ⟨t', ht'.nox, hq'⟩
  · match r, hq with
    | .error e, hq => exact (show False from hq).elim
    | .ok (.ret u), hq => exact I1.after hq
    | .ok .next, hq => exact False.elim hq
    | .ok .brk, hq => exact False.elim hq
    | .ok .cont, hq => exact False.elim hq
end
end PV

/-! met(lambda: body): try: call() / except ..: return .. / return dflt -/
namespace PV
open PySem PySem.Spec PyProof.Rows L2 LamX
theorem SR.lamNew {c : Cn} {env : En} {σ : L2.St} {H H1 F : Hp} (S : SR c env σ H F) (n : LamNew H H1) (t : Tabs c.T H1) : SR c env σ H1 F := by
  obtain ⟨n1, n2, n3⟩ := n
  refine ⟨⟨⟨fun b o e => n1 b o (S.wf.sub b o e) fun ps z => S.wf.nt b ps (by rw [e, z]), fun b o e tp => ?_, S.wf.nt, t, fun a u x e => ?_⟩, S.gr.f, fun b o e nt nr => n1 b o (S.gr.h b o e nt nr) nt, S.gr.new⟩, fun b hb => n3 b (S.there b hb), S.rt, S.len, S.fz, fun i d e => ?_, fun i d e => ?_, S.apart⟩
  · rcases n2 b o e with h | ⟨ps, h⟩ | ⟨q, h⟩
    · exact S.wf.tup b o h tp
    · subst h
      cases tp
    · subst h
      cases tp
  · rcases n2 a _ e with h | ⟨ps, h⟩ | ⟨q, h⟩
    · exact (S.wf.tab.2 a u x h).ext fun c q k => n1 c _ k fun ps z => by cases z
    · cases h
    · cases h
  · obtain ⟨a, o, h1, h2, h3, h4, h5⟩ := S.ow i d e
    exact ⟨a, o, h1, n1 a o h2 h5.ntbl, h3, h4, h5⟩
  · obtain ⟨a, o, h0, h1, h2, h3, h5⟩ := S.rf i d e
    exact ⟨a, o, h0, h1, n1 a o h2 h5.ntbl, h3, h5⟩
/-- what the clauses make of an error -/
def pick : List Hd → Xn → Option PV.D
  | [], _ => none
  | h :: r, x => match h.can.lookup x.cls with
    | some true => h.su x
    | some false => pick r x
    | none => none
/-- the clauses as they stand, told by the things that never change -/
inductive HdsG (X : Cx) (g : Gc) (n : Nat) : List ExceptHandler → List Hd → List (Value × Option Nat × Su) → Prop
  | nil : HdsG X g n [] [] []
  | bare {x : Str} {C : Addr} {h : Hd} {b₀ : Stmt} {suite : List Stmt} {np pos' : Pos} {hds : List ExceptHandler} {hs : List Hd} {l : List (Value × Option Nat × Su)} (hg : Gl X x) (hm : X.mg x = some (.ref C)) (ha : h.at_ = none)
      (hcan : ∀ y b, h.can.lookup y = some b → ∀ C', g.mg y = some (.ref C') → PySem.W.exmOne X.K (.ref C') (.ref C) = some b) (hsu : SuOk X (b₀ :: suite) (fun a cls d D σ H => tU g none a cls d h.su σ H D.rt)) (r : HdsG X g n hds hs l) (hd : (x == ("__debug__" : Str)) = false := by decide) :
      HdsG X g n (.ExceptHandler (some (.Name x np)) none (b₀ :: suite) pos' :: hds) (h :: hs) ((.ref C, none, fun a cls d D σ H => tU g none a cls d h.su σ H D.rt) :: l)
  | as {x nm : Str} {i : Nat} {C : Addr} {h : Hd} {b₀ : Stmt} {suite : List Stmt} {np pos' : Pos} {hds : List ExceptHandler} {hs : List Hd} {l : List (Value × Option Nat × Su)} (hi : X.N[i]? = some nm) (hn : X.env.kindOf nm = some .local) (hlt : i < n) (hg : Gl X x) (hm : X.mg x = some (.ref C)) (ha : h.at_ = some i)
      (hcan : ∀ y b, h.can.lookup y = some b → ∀ C', g.mg y = some (.ref C') → PySem.W.exmOne X.K (.ref C') (.ref C) = some b) (hsu : SuOk X (b₀ :: suite) (fun a cls d D σ H => tU g (some i) a cls d h.su σ H D.rt)) (r : HdsG X g n hds hs l) (hd : (x == ("__debug__" : Str)) = false := by decide) :
      HdsG X g n (.ExceptHandler (some (.Name x np)) (some nm) (b₀ :: suite) pos' :: hds) (h :: hs) ((.ref C, some i, fun a cls d D σ H => tU g (some i) a cls d h.su σ H D.rt) :: l)
theorem HdsG.mix {X : Cx} {g : Gc} {n : Nat} : ∀ {hds : List ExceptHandler} {hs : List Hd} {l : List (Value × Option Nat × Su)}, HdsG X g n hds hs l → MixOk X hds l
  | _, _, _, .nil => .nil
  | _, _, _, .bare hg hm _ _ hsu r hd => .bare ⟨hg, hd, .inl hm⟩ hsu (HdsG.mix r)
  | _, _, _, .as hi hn _ hg hm _ _ hsu r hd => .as hi hn ⟨hg, hd, .inl hm⟩ hsu (HdsG.mix r)
/-- what is wished of an error -/
def wishE (g : Gc) (hs : List Hd) (Q : VK) : XK := fun cls d H => ∃ x F, WF g F H ∧ RepX g F x cls d ∧ ∃ dd, pick hs x = some dd ∧ ∀ v H' F', Go g F H F' H' → Rep g F' dd v → Q v H'
theorem wishE_mix {X : Cx} {g : Gc} {n : Nat} {D : Ends} {Q : VK} (hQ : D.rt = Q) {cls : Value} {d : Option Addr} {σ : L2.St} {H : Hp} (hσ : σ.length = n) {x : Xn} {F : Hp} (w : WF g F H) (rx : RepX g F x cls d) {dd : PV.D} (hq : ∀ v H' F', Go g F H F' H' → Rep g F' dd v → Q v H') :
    ∀ {hds : List ExceptHandler} {hs : List Hd} {l : List (Value × Option Nat × Su)}, HdsG X g n hds hs l → pick hs x = some dd → wMix X.K (fun _ _ _ _ => False) D l cls d σ H := by
  obtain ⟨Cx, e1, e2, e3⟩ := id rx
  subst e2
  intro hds hs l hk
  induction hk with
  | nil => exact fun h => by cases h
  | @bare x' C h b₀ suite np pos' hds hs l hg hm ha hcan hsu r hd ih =>
    intro hp
    unfold pick at hp
    split at hp
    · rename_i hl
      exact ⟨true, hcan _ _ hl _ e1, fun _ a na => ⟨(fun i z => by cases z), x, F, w, rx, dd, hp, by rw [hQ]; exact hq⟩, (fun z => by cases z)⟩
    · rename_i hl
      exact ⟨false, hcan _ _ hl _ e1, (fun z => by cases z), fun _ => ih hp⟩
    · cases hp
  | @as x' nm i C h b₀ suite np pos' hds hs l hi hn hlt hg hm ha hcan hsu r hd ih =>
    intro hp
    unfold pick at hp
    split at hp
    · rename_i hl
      refine ⟨true, hcan _ _ hl _ e1, fun _ a na => ⟨fun j z => ?_, x, F, w, rx, dd, hp, by show ∀ v H' F', _ → _ → D.rt v H'; rw [hQ]; exact hq⟩, (fun z => by cases z)⟩
      cases z
      exact List.getElem?_set_self (by rw [hσ]; exact hlt)
    · rename_i hl
      exact ⟨false, hcan _ _ hl _ e1, (fun z => by cases z), fun _ => ih hp⟩
    · cases hp
/-- what is wished of what comes back -/
def wishQ (g : Gc) (dd : PV.D) (Q : VK) : VK := fun _ H => ∃ F, WF g F H ∧ ∀ v H' F', Go g F H F' H' → Rep g F' dd v → Q v H'
def TTm (g : Gc) (hs : List Hd) (dd : PV.D) : (XK → Hp → VK → Prop) → Hp → VK → Prop := fun tl H Q => ∀ E Q', (∀ cls d H', wishE g hs Q cls d H' → E cls d H') → (∀ v H', wishQ g dd Q v H' → Q' v H') → tl E H Q'
theorem takesN {X : Cx} : Takes X (fun _ _ _ _ => False) := fun _ _ x => by
  obtain ⟨_, _, _, _, _, _, _, _, _, _, _, _, _, _, _, _, z⟩ := x
  exact z.elim
theorem SR.bare {g : Gc} {F H : Hp} (w : WF g F H) (σ : L2.St) : SR ⟨g, none, H, F, false⟩ (List.replicate σ.length .no) σ H F := by
  have no : ∀ (i : Nat) (s : Sl), (List.replicate σ.length Sl.no)[i]? = some s → s = .no := fun i s h => by
    rw [List.getElem?_replicate] at h
    split at h
    · exact (Option.some.inj h).symm
    · cases h
  refine ⟨Gr.refl w, fun _ h => h, fun a e => (by cases e), by simp, fun i d e => ?_, fun i d e => ?_, fun i d e => ?_, fun i j a ⟨_, d, e⟩ => ?_⟩
  · cases no i _ e
  · cases no i _ e
  · cases no i _ e
  · rcases e with e | e <;> cases no i _ e
section
variable {X : Cx}
/-- the def keeps its word -/
theorem met_given {g : Gc} {Ng : List Str} {x a q : Str} {sg : Scope} {gA : Addr} {cdg : Value} {hs : List Hd} {dd : PV.D} {h₀ : ExceptHandler} {hds : List ExceptHandler} {de : Expr} {m0 : En → R PV.D} {e0 : En} {p1 p2 p3 p4 p5 : Pos} (hgK : g.K = X.K) (hND : Ng.Nodup) (hlen : 0 < Ng.length)
    (hh : ∀ s H, RmG 0 (lamA X x sg s gA cdg) → ∃ l, HdsG (cxOf C8.CX0 X.prog X.w X.K X.mg X.base Ng x sg gA cdg X.A X.stack s H C8.E0).nox g Ng.length (h₀ :: hds) hs l)
    (hde : ∀ s H H0 F0, PE (cxOf C8.CX0 X.prog X.w X.K X.mg X.base Ng x sg gA cdg X.A X.stack s H C8.E0).nox de (tE ⟨g, none, H0, F0, false⟩ (fun _ _ _ _ => False) m0)) (hm0 : m0 (List.replicate Ng.length .no) = .ok dd e0) :
    Given X Ng x sg gA cdg [.Try [.Expr (.Call (.Name a p1) [] [] p2) p3] (h₀ :: hds) [] [] p4, .Return (some de) p5] a q (TTm g hs dd) := by
  intro f c' s H Q tl hr act hc hT
  obtain ⟨l, hh⟩ := hh s H hr
  have hσ : (L2.start Ng [V.ref f]).length = Ng.length := by
    unfold L2.start
    simp
    omega
  have h0 : (L2.start Ng [V.ref f])[0]? = some (some (.ref f)) := rfl
  refine ⟨_, pss_cons (ps_try_mix (X := (cxOf C8.CX0 X.prog X.w X.K X.mg X.base Ng x sg gA cdg X.A X.stack s H C8.E0).nox) (tb := fun W D σ H => σ[0]? = some (some (.ref f)) ∧ H c' = some (CodeO c' q) ∧ tl (WE W σ) H (fun _ H1 => D.nx σ H1)) rfl rfl hND takesN (fun W pn xe tk _ => ?_) hh.mix)
    (pss_one (t := fun D σ H => σ.length = Ng.length ∧ ∃ F, WF g F H ∧ ∀ v H' F', Go g F H F' H' → Rep g F' dd v → D.rt v H') (⟨fun pins s1 σ1 H1 D I h => ?_⟩)), ?_⟩
  · exact (pss_one (ps_expr (pos := p3) (act W pn xe p1 p2 tk))).imp fun D σ H h => h
  · obtain ⟨hl, F, w, h⟩ := h
    refine (ps_ret (pos := p5) (hde s H H1 F)).run pins s1 σ1 H1 D I ⟨List.replicate σ1.length .no, F, SR.bare w σ1, ?_⟩
    rw [hl, hm0]
    exact fun v H' F' S' s' rv => h v H' F' ⟨S'.gr, S'.there⟩ rv
  · refine ⟨h0, hc, hT _ _ (fun cls d H' hw => ?_) fun v H' hw => ?_⟩
    · obtain ⟨x', F, w, rx, d', hp, hq⟩ := hw
      exact wishE_mix (X := (cxOf C8.CX0 X.prog X.w X.K X.mg X.base Ng x sg gA cdg X.A X.stack s H C8.E0).nox) rfl hσ w rx hq hh hp
    · obtain ⟨F, w, h⟩ := hw
      exact ⟨hσ, F, w, h⟩
theorem su_ret {g : Gc} {at_ : Option Nat} {a : Addr} {cls : Value} {d : Option Addr} {m : Xn → Option PV.D} {e : Expr} {pos : Pos} (he : PE X e (tU g at_ a cls d m)) : PSs X [.Return (some e) pos] (fun D σ H => tU g at_ a cls d m σ H D.rt) := (pss_one (ps_ret he)).imp fun D σ H q => q
/-- what met makes of an outcome -/
def mMet (hs : List Hd) (dd : PV.D) (m : En → R PV.D) : En → R PV.D := fun env => match m env with
  | .ok _ e => .ok dd e
  | .er x e => (match pick hs x with
    | some d => .ok d e
    | none => .no)
  | .no => .no
theorem met_ok {c : Cn} {W : WX} {hs : List Hd} {dd : PV.D} {m : En → R PV.D} {σ : L2.St} {H : Hp} {Q : VK} (q : tE c W (mMet hs dd m) σ H Q) : tLamG c.T (TTm c.toGc hs dd) (fun E => tE c (wD E) m) σ H Q := by
  obtain ⟨env, F, S, q⟩ := q
  refine ⟨S.wf.tab.1, fun H1 n T1 E Q' hE hQ => ⟨env, F, S.lamNew n T1, ?_⟩⟩
  unfold mMet at q
  cases z : m env with
  | ok d e =>
    rw [z] at q
    exact fun v H' F' S' s' rv => hQ v H' ⟨F', S'.wf, fun v2 H2 F2 g2 r2 => q v2 H2 F2 (S'.go g2) (s'.trans g2.gr.f) r2⟩
  | er x e =>
    rw [z] at q
    have q : Okp c W σ F (rlE c) Q (match pick hs x with | some d => .ok d e | none => .no) := q
    refine fun cls dx H' F' S' s' rx => hE cls dx H' ⟨x, F', S'.wf, rx, ?_⟩
    cases y : pick hs x with
    | none =>
      rw [y] at q
      exact q.elim
    | some d =>
      rw [y] at q
      exact ⟨d, rfl, fun v2 H2 F2 g2 r2 => q v2 H2 F2 (S'.go g2) (s'.trans g2.gr.f) r2⟩
  | no =>
    rw [z] at q
    exact q.elim
end
end PV

/-! what the walks of the laws of errors use -/
namespace PV
open PySem PySem.Spec PyProof.Rows L2 LamX
section
variable {X : Cx} {c : Cn} {W : WX}
theorem re_met {hs : List Hd} {dd : D} {m : En → R D} {x a : Str} {g cA P : Addr} {k : Nat} {st : Stmt} {fd : FuncData} {Ng : List Str} {params : Arguments} {body : Expr} {scope : Scope} {p lpos pos : Pos}
    (hr : RmG (k + 2) X.A) (hg : Gl X x) (hm : X.mg x = some (.ref g)) (F : Fun X.K x x st g fd) (hb : L2.Binds X.K fd [a] []) (Sg : FnScope Ng [a] (defScope st)) (hNg : Ng[0]? = some a) (hva : Vis (defScope st) a)
    (hG : ∀ cdv, Given X Ng x (defScope st) g cdv (defBody st) a (X.env.qual ++ "<lambda>") (TTm c.toGc hs dd))
    (TB : TabB X.base X.mg cA P) (hcode : X.env.code = .ref cA) (hmT : (P, X.env.qual ++ "<lambda>") ∈ c.T) (hu : ∀ p ∈ c.T, p.1 = P → p.2 = X.env.qual ++ "<lambda>") (L : LamS X.env.scope scope) (hdef : defaultsOf params X.env = ([], []))
    (hbind : ∀ (q : Str) (cl : List (Str × Addr)) (pm cv ctv : Value), bindArgs (PySem.W.kla_fn "<lambda>" q params body scope cl pm cv ctv) ⟨[], []⟩ = pure [])
    (hbody : ∀ (A : Around) (outer : List Env) (s : Shared) (H : Hp) (E : XK) (f c' : Addr), RmG k (A.deeper (lamEnv X scope s.heap.objs.size f c')) → PE (lamCx X A outer s H E scope f c') body (tE c (wD E) m))
    (hdb : (x == ("__debug__" : Str)) = false := by decide) (hd : (a == ("__debug__" : Str)) = false := by decide) (hcd : (a == ("__classdict__" : Str)) = false := by decide) :
    PE X (.Call (.Name x p) [.Lambda params body scope lpos] [] pos) (tE c W (mMet hs dd m)) :=
  (pe_lamG (t := fun E => tE c (wD E) m) hg hm F hb Sg hNg hva hG TB hcode hmT hu hr L hdef hbind hbody hdb hd hcd).imp fun σ H Q q => met_ok q
/-- which classes a clause takes -/
def Can (K : PySem.W.Frag) (mg : Str → Option Value) (C : Addr) (l : List (Str × Bool)) : Prop := ∀ y b, l.lookup y = some b → ∀ C', mg y = some (.ref C') → PySem.W.exmOne K (.ref C') (.ref C) = some b
theorem can_nil {K : PySem.W.Frag} {mg : Str → Option Value} {C : Addr} : Can K mg C [] := fun _ _ h => by cases h
theorem can_cons {K : PySem.W.Frag} {mg : Str → Option Value} {C Cy : Addr} {y : Str} {b : Bool} {l : List (Str × Bool)} (hy : mg y = some (.ref Cy)) (h : PySem.W.exmOne K (.ref Cy) (.ref C) = some b) (r : Can K mg C l) : Can K mg C ((y, b) :: l) := fun z b' e C' hz => by
  by_cases q : z = y
  · subst q
    have e' : b = b' := by simpa [List.lookup] using e
    subst e'
    rw [hy] at hz
    cases hz
    exact h
  · have q' : (z == y) = false := by simpa using q
    exact r z b' (by simpa [List.lookup, q'] using e) C' hz
/-- an error of the class at C, held against the class at S -/
theorem exm_by {K : PySem.W.Frag} {C S : Addr} {b : Bool} (h1 : PySem.W.subIn K (.ref S) (.type "BaseException") = some true) (h2 : PySem.W.isClsIn K S = true) (h3 : PySem.W.typeIn K (.ref S) = some (.type "type")) (h4 : PySem.W.subIn K (.ref C) (.ref S) = some b) : PySem.W.exmOne K (.ref C) (.ref S) = some b := by
  have e1 : (PySem.W.subIn K (.ref S) (.type "BaseException") == some true) = true := by rw [h1] <;> rfl
  have e2 : ((PySem.W.clsIn K S).isSome && PySem.W.typeIn K (.ref S) == some (.type "type")) = true := by
    have h2' : (PySem.W.clsIn K S).isSome = true := h2
    rw [h2', h3] <;> rfl
  show (if (PySem.W.subIn K (.ref S) (.type "BaseException") == some true) = true then (if ((PySem.W.clsIn K S).isSome && PySem.W.typeIn K (.ref S) == some (.type "type")) = true then PySem.W.subIn K (.ref C) (.ref S) else none) else none) = some b
  rw [if_pos e1, if_pos e2]
  exact h4
end
theorem hu_of {T : List (Addr × Str)} {P : Addr} {q : Str} (hn : (T.map (·.1)).Nodup) (hm : (P, q) ∈ T) : ∀ p ∈ T, p.1 = P → p.2 = q := by
  induction T with
  | nil => cases hm
  | cons t r ih =>
    intro p hp e
    rw [List.map_cons, List.nodup_cons] at hn
    rcases List.mem_cons.mp hp with rfl | hp
    · rcases List.mem_cons.mp hm with h | h
      · rw [← h]
      · exact absurd (List.mem_map.mpr ⟨_, h, e.symm⟩) hn.1
    · rcases List.mem_cons.mp hm with h | h
      · exact absurd (List.mem_map.mpr ⟨p, hp, by rw [e, ← h]⟩) hn.1
      · exact ih hn.2 h p hp e
/-! ### the law's end -/
theorem law_sp {me : Addr} {lm : Str → Option LamD} {K : PySem.W.Frag} {mg : Str → Option Value} {T : List (Addr × Str)} {f : List D → Rf} (h : ∀ ns : List Int, ns.length ≤ 63 → f [.ro (ns.map D.int)] = .ok (.bl true)) {H : Hp} {a : Addr} {ns : List Int} (hl : ns.length ≤ 63)
    (hT : ∀ p ∈ T, H p.1 = some (.tbl #[])) (hO : ∀ b, H b ≠ none → (∃ ps, H b = some (.tbl ps)) ∨ ∃ o xs, H b = some (.frz o (.lst xs))) (hS : SqL K H a (ns.map V.int)) : spD ⟨K, mg, T, lm, me⟩ false 1 f [.ref a] H (fun v _ => v = .bl true) fun _ _ _ => False := by
  refine ⟨rfl, noTbl H, [.ro (ns.map D.int)], ⟨fun b o e => (noTbl_of e).1, fun b o e t => noTbl_some e (fun ps z => by subst z; cases t), fun b ps e => (noTbl_of e).2 ps rfl, ⟨fun p hp => TabS.nil (hT p hp), fun a u x e => (hO a (by rw [e]; simp)).elim (fun ⟨ps, z⟩ => by rw [e] at z; cases z) fun ⟨o, xs, z⟩ => by rw [e] at z; cases z⟩⟩, .cons (.ro ?_ (Reps.ofInts ns)) .nil, ?_⟩
  · rcases hS with (hS | ⟨o, hS⟩) | hS
    · exact .inl (.inl (noTbl_some hS fun ps z => by cases z))
    · exact .inl (.inr ⟨o, noTbl_some hS fun ps z => by cases z⟩)
    · exact .inr hS
  · rw [h ns hl]
    intro v H' F' g' rv
    have rv := rlQ_rep rv
    cases rv
    rfl
/-- the tables of the lambdas' code: of the defs named so -/
structure TabL (q : Program) (K : PySem.W.Frag) (h : Heap) (x : Str) (c P : Addr) : Prop where
  hd : PySem.W.CodeHd h c P
  emp : h.get? P = some { cls := .none, data := .fields #[] }
  no : K.lookup P = none
theorem tabL_of {q : Program} {K : PySem.W.Frag} {h : Heap} {x : Str} {c P : Addr} {d : DefRec} (TT : TabT q K h) (h1 : (recsOf q).find? (fun e => e.name == x) = some d) (h2 : PySem.W.tabIn K x = some (c, P)) (h3 : K.lookup P = none) : TabL q K h x c P :=
  ⟨(TT x c P d h1 h2).1, (TT x c P d h1 h2).2, h3⟩
inductive TabLs (q : Program) (K : PySem.W.Frag) (h : Heap) : List (Addr × Addr) → Prop
  | nil : TabLs q K h []
  | cons {x : Str} {c P : Addr} {l : List (Addr × Addr)} : TabL q K h x c P → TabLs q K h l → TabLs q K h ((c, P) :: l)
theorem TabLs.all {q : Program} {K : PySem.W.Frag} {h : Heap} : ∀ {l : List (Addr × Addr)}, TabLs q K h l → ∀ p ∈ l, h.get? p.2 = some { cls := .none, data := .fields #[] } ∧ K.lookup p.2 = none ∧ PySem.W.CodeHd h p.1 p.2
  | _, .cons t r, p, hp => by
    rcases List.mem_cons.mp hp with rfl | hp
    · exact ⟨t.emp, t.no, t.hd⟩
    · exact TabLs.all r p hp
theorem tabIn_of {K : PySem.W.Frag} {x : Str} {f cc P : Addr} {oc o1 : Value} {od d1 : Option Addr} {sl s1 : Array (Option Value)} {fd : FuncData} {vs : Array Value} (a : PySem.W.nsIn K mainGlobals x = some (some (.ref f))) (l : K.lookup f = some ⟨oc, od, .func fd, sl⟩) (c : fd.code = .ref cc)
    (cr : K.lookup cc = some ⟨o1, d1, .fields vs, s1⟩) (ci : vs[11]? = some (.ref P)) : PySem.W.tabIn K x = some (cc, P) := by
  unfold PySem.W.tabIn
  simp only [a, l, c, cr, ci]
inductive TT2 : List (Addr × Str) → List (Addr × Addr) → Prop
  | nil : TT2 [] []
  | cons (c P : Addr) (q : Str) {T : List (Addr × Str)} {cs : List (Addr × Addr)} : TT2 T cs → TT2 ((P, q) :: T) ((c, P) :: cs)
theorem TT2.all : ∀ {T : List (Addr × Str)} {cs : List (Addr × Addr)}, TT2 T cs → ∀ p ∈ T, ∃ c, (c, p.1) ∈ cs
  | _, _, .cons c P q r, p, hp => by
    rcases List.mem_cons.mp hp with rfl | hp
    · exact ⟨c, .head _⟩
    · obtain ⟨c', h⟩ := TT2.all r p hp
      exact ⟨c', .tail _ h⟩
theorem bt_repr : bootBuiltins "repr" = some (.builtin "repr") := by decide +kernel
theorem lawG_of {me : Addr} {lm : Str → Option LamD} {l : PySem.W.OpenLaw} {w : World} {q : Program} {K : PySem.W.Frag} {mg : Str → Option Value} {fa : Addr} {h : Heap} {k : Nat} {fd : FuncData} {f : List D → Rf} {cs : List (Addr × Addr)} {T : List (Addr × Str)} (t : TabLs q K h cs) (hTc : ∀ p ∈ T, ∃ c, (c, p.1) ∈ cs) (hf : ∀ ns : List Int, ns.length ≤ 63 → f [.ro (ns.map D.int)] = .ok (.bl true))
    (hb : ∀ (s : Shared) (u : Value), BindsTo s fd ⟨[u], []⟩ [("script", u)]) (hF : ∀ base : Heap, K.In base → base.Ns mainGlobals mg → (∀ p ∈ cs, TabB base mg p.1 p.2) → FnG l.prog w K mg base (L2.CX l.prog w) k fa fd ["script"] (spD ⟨K, mg, T, lm, me⟩ false 1 f)) :
    LawG l w K (L2.CX l.prog w) k 63 "script" mg fa h :=
  ⟨fd, cs, _, fun p hp => (t.all p hp).1, fun p hp => (t.all p hp).2.1, fun p hp => (t.all p hp).2.2, hb, fun H a ns hl hT hO hS => law_sp hf hl (fun p hp => let ⟨c, hc⟩ := hTc p hp; hT _ hc) (fun b nb => (hO b nb).imp (fun z => let ⟨p, hp, e⟩ := List.mem_map.mp z; ⟨_, e ▸ hT p hp⟩) id) hS, hF⟩
end PV

/-! instances with slots: an __init__ fills them -/
namespace PV
open PySem PySem.Spec PyProof.Rows L2
/-! ### the instance under way does not matter for data -/
def Gc.at (g : Gc) (a : Addr) : Gc := { g with me := a }
section
variable {g : Gc} {a : Addr} {H : Hp}
mutual
theorem Rep.at {d : D} {v : V} : Rep g H d v → Rep (g.at a) H d v
  | .non => .non
  | .bl => .bl
  | .int => .int
  | .str => .str
  | .tup h r => .tup h (Reps.at r)
  | .lst h r => .lst h (Reps.at r)
  | .ro h r => .ro h (Reps.at r)
  | .dik h r => .dik h (RepK.at r)
  | .dit h r => .dit h (RepT.at r)
  | .ins m h n q r => .ins m h n q (Reps.at r)
  | .slfz => .slfz
  | .fn m => .fn m
  | .lam m l h => .lam m l h
theorem Reps.at {ds : List D} {vs : List V} : Reps g H ds vs → Reps (g.at a) H ds vs
  | .nil => .nil
  | .cons r t => .cons (Rep.at r) (Reps.at t)
theorem RepK.at {ds : List (Key × D)} {vs : List (Key × V)} : RepK g H ds vs → RepK (g.at a) H ds vs
  | .nil => .nil
  | .cons r t => .cons (Rep.at r) (RepK.at t)
theorem RepT.at {ds : List (List Key × D)} {vs : List (List Key × V)} : RepT g H ds vs → RepT (g.at a) H ds vs
  | .nil => .nil
  | .cons r t => .cons (Rep.at r) (RepT.at t)
end
theorem RepF.at : ∀ {ds : List (Str × D)} {vs : List (Str × V)}, RepF g H ds vs → RepF (g.at a) H ds vs
  | _, _, .nil => .nil
  | _, _, .cons r t => .cons (Rep.at r) (RepF.at t)
theorem RepX.at {x : Xn} {cls : Value} {d : Option Addr} (r : RepX g H x cls d) : RepX (g.at a) H x cls d := by
  obtain ⟨C, h1, h2, h3⟩ := r
  refine ⟨C, h1, h2, ?_⟩
  cases q : x.fs with
  | none =>
    rw [q] at h3
    exact h3
  | some fs =>
    rw [q] at h3
    obtain ⟨dx, vs, e1, e2, e3⟩ := h3
    exact ⟨dx, vs, e1, e2, e3.at⟩
theorem RepX.un {x : Xn} {cls : Value} {d : Option Addr} (r : RepX (g.at a) H x cls d) : RepX g H x cls d := RepX.at (g := g.at a) (a := g.me) r
theorem Rep.un {d : D} {v : V} (r : Rep (g.at a) H d v) : Rep g H d v := Rep.at (g := g.at a) (a := g.me) r
theorem WF.at {F : Hp} (w : WF g F H) : WF (g.at a) F H := ⟨w.sub, w.tup, w.nt, w.tab⟩
theorem WF.un {F : Hp} (w : WF (g.at a) F H) : WF g F H := ⟨w.sub, w.tup, w.nt, w.tab⟩
end
/-! ### slots -/
def pusD (j : Nat) (d : D) (os : List (Option D)) : List (Option D) := (os ++ List.replicate (j + 1 - os.length) Option.none).set j (some d)
theorem RepQ.length {g : Gc} {H : Hp} : ∀ {os : List (Option D)} {vs : List (Option V)}, RepQ g H os vs → vs.length = os.length
  | _, _, .nil => rfl
  | _, _, .non t => by simp [RepQ.length t]
  | _, _, .cons _ t => by simp [RepQ.length t]
theorem RepQ.nones {g : Gc} {H : Hp} : ∀ n : Nat, RepQ g H (List.replicate n Option.none) (List.replicate n Option.none)
  | 0 => .nil
  | n + 1 => .non (RepQ.nones n)
theorem RepQ.app {g : Gc} {H : Hp} : ∀ {os ps : List (Option D)} {vs ws : List (Option V)}, RepQ g H os vs → RepQ g H ps ws → RepQ g H (os ++ ps) (vs ++ ws)
  | _, _, _, _, .nil, q => q
  | _, _, _, _, .non t, q => .non (RepQ.app t q)
  | _, _, _, _, .cons h t, q => .cons h (RepQ.app t q)
theorem RepQ.set {g : Gc} {H : Hp} {d : D} {v : V} (r : Rep g H d v) : ∀ {os : List (Option D)} {vs : List (Option V)} (j : Nat), RepQ g H os vs → RepQ g H (os.set j (some d)) (vs.set j (some v))
  | _, _, _, .nil => .nil
  | _, _, 0, .non t => .cons r t
  | _, _, 0, .cons h t => .cons r t
  | _, _, j + 1, .non t => .non (RepQ.set r j t)
  | _, _, j + 1, .cons h t => .cons h (RepQ.set r j t)
theorem RepQ.put {g : Gc} {H : Hp} {os : List (Option D)} {vs : List (Option V)} {d : D} {v : V} (j : Nat) (q : RepQ g H os vs) (r : Rep g H d v) : RepQ g H (pusD j d os) (putS j v vs) := by
  unfold pusD putS
  rw [q.length]
  exact RepQ.set r j (q.app (RepQ.nones _))
theorem RepQ.get {g : Gc} {H : Hp} : ∀ {os : List (Option D)} {vs : List (Option V)} {j : Nat} {d : D}, RepQ g H os vs → os[j]? = some (some d) → ∃ v, vs[j]? = some (some v) ∧ Rep g H d v
  | _, _, _, _, .nil, e => by simp at e
  | _, _, 0, _, .non t, e => by simp at e
  | _, _, 0, _, .cons h t, e => by
    cases e
    exact ⟨_, rfl, h⟩
  | _, _, j + 1, _, .non t, e => RepQ.get (j := j) t e
  | _, _, j + 1, _, .cons h t, e => RepQ.get (j := j) t e
/-- all slots are filled -/
def alls : List (Option D) → Option (List D)
  | [] => some []
  | some d :: r => (alls r).map (d :: ·)
  | Option.none :: _ => none
theorem alls_ok {g : Gc} {H : Hp} : ∀ {os : List (Option D)} {vs : List (Option V)} {ds : List D}, RepQ g H os vs → alls os = some ds → ∃ us, vs = us.map some ∧ Reps g H ds us
  | _, _, _, .nil, e => by
    cases e
    exact ⟨[], rfl, .nil⟩
  | _, _, _, .non t, e => by cases e
  | _, _, _, @RepQ.cons _ _ x xs v vs h t, e => by
    unfold alls at e
    cases q : alls xs with
    | none =>
      rw [q] at e
      cases e
    | some ds =>
      rw [q] at e
      cases e
      obtain ⟨us, e1, r⟩ := alls_ok t q
      exact ⟨v :: us, by rw [e1]; rfl, .cons h r⟩
theorem slO_ne_code {C dx a : Addr} {vs : List (Option V)} {q : Str} : SlO C dx a vs ≠ LamX.CodeO a q := fun z => by
  have e := HO.ext.inj z
  have h := congrFun e ({ objs := Array.replicate (a + 1) ⟨.none, none, .fields #[.none, .str q 0], #[]⟩ } : Heap)
  have hg : ({ objs := Array.replicate (a + 1) ⟨.none, none, .fields #[.none, .str q 0], #[]⟩ } : Heap).get? a = some ⟨.none, none, .fields #[.none, .str q 0], #[]⟩ := by
    unfold Heap.get?
    simp
  have hp : SlP C dx a vs ({ objs := Array.replicate (a + 1) ⟨.none, none, .fields #[.none, .str q 0], #[]⟩ } : Heap) := by
    rw [h]
    exact ⟨_, _, 0, hg, rfl, rfl⟩
  obtain ⟨us, _, g⟩ := hp
  rw [hg] at g
  cases g
theorem Tabs_putC {T : List (Addr × Str)} {H : Hp} {a : Addr} {u o : HO} (t : TabX T H) (h : H a = some u) (n1 : ∀ ps, u ≠ .tbl ps) (n2 : ∀ q, u ≠ LamX.CodeO a q) (no : ∀ u x, o ≠ .frz u (.own x)) : TabX T (upd H a o) := by
  have hB : ∀ b w x, upd H a o b = some (.frz w (.own x)) → LamAt (upd H a o) w := fun b w x e => by
    have hb : b ≠ a := fun z => by
      subst z
      rw [upd_same] at e
      exact no _ _ (Option.some.inj e)
    rw [upd_ne hb] at e
    refine (t.2 b w x e).ext fun c q k => ?_
    by_cases z : c = a
    · subst z
      rw [h] at k
      exact absurd (Option.some.inj k) (n2 q)
    · rw [upd_ne z]
      exact k
  refine ⟨fun p hp => ?_, hB⟩
  obtain ⟨ps, h1, h2, h3⟩ := t.1 p hp
  have nP : p.1 ≠ a := fun z => by
    rw [z, h] at h1
    exact n1 ps (Option.some.inj h1)
  refine ⟨ps, by rw [upd_ne nP]; exact h1, h2, fun pos cv hc => ?_⟩
  obtain ⟨cc, e1, e2⟩ := h3 pos cv hc
  have nc : cc ≠ a := fun z => by
    subst z
    rw [h] at e2
    exact n2 _ (Option.some.inj e2)
  exact ⟨cc, e1, by rw [upd_ne nc]; exact e2⟩
section
variable {c : Cn} {W : WX} {X : Cx} {env : En} {σ : L2.St} {H F : Hp}
/-- what stands in self's slot -/
def slfV (e : En) (i : Nat) : Option (Str × List (Option D)) := match e[i]? with
  | some (.rf (.slf c os)) => some (c, os)
  | _ => none
theorem slfV_rf {e : En} {i : Nat} {cn : Str} {os : List (Option D)} (h : slfV e i = some (cn, os)) : e[i]? = some (.rf (.slf cn os)) := by
  unfold slfV at h
  split at h
  · rename_i q
    cases h
    exact q
  · cases h
/-- self as the program sees it -/
theorem SR.slf (S : SR c env σ H F) (hme : c.ra = some c.me) {i : Nat} {cn : Str} {os : List (Option D)} (h : slfV env i = some (cn, os)) :
    ∃ C dx vs, c.mg cn = some (.ref C) ∧ σ[i]? = some (some (.ref c.me)) ∧ SlAt H c.me C dx vs ∧ RepQ c.toGc F os vs ∧ F dx = some (.own c.me) ∧ dx ≠ c.me ∧ F c.me = none ∧ (∀ ws, SR c (env.set i (.rf (.slf cn ws))) σ H F → True) := by
  obtain ⟨a, o, e0, e1, e2, e3, r⟩ := S.rf i _ (slfV_rf h)
  rw [hme] at e0
  cases e0
  cases r with
  | slf0 m hd hn => exact ⟨_, _, [], m, e1, ⟨S.wf.sub _ _ hd, hn, .inr ⟨rfl, e2⟩⟩, .nil, hd, hn, e3, fun _ _ => trivial⟩
  | slf m hd hn q => exact ⟨_, _, _, m, e1, ⟨S.wf.sub _ _ hd, hn, .inl e2⟩, q, hd, hn, e3, fun _ _ => trivial⟩
theorem ownV_slf {e : En} {i : Nat} {cn : Str} {os : List (Option D)} (h : slfV e i = some (cn, os)) : ownV e i = some (.slf cn os) := by
  unfold ownV
  rw [slfV_rf h]
theorem setV_slf {e : En} {i : Nat} {cn : Str} {os : List (Option D)} {d : D} (h : slfV e i = some (cn, os)) : setV e i d = e.set i (.rf d) := by
  unfold setV
  rw [slfV_rf h]
/-- one slot is written -/
theorem SR.pus (S : SR c env σ H F) (hme : c.ra = some c.me) {i j : Nat} {cn : Str} {os : List (Option D)} {d : D} {v : V} (h : slfV env i = some (cn, os)) (rv : Rep c.toGc F d v) {C dx : Addr} {vs : List (Option V)}
    (hm : c.mg cn = some (.ref C)) (hd : F dx = some (.own c.me)) (hn : dx ≠ c.me) (q : RepQ c.toGc F os vs) (hs : SlAt H c.me C dx vs) : SR c (env.set i (.rf (.slf cn (pusD j d os)))) σ (upd H c.me (SlO C dx c.me (putS j v vs))) F := by
  obtain ⟨a, o, e0, e1, e2, e3, r⟩ := S.rf i _ (slfV_rf h)
  rw [hme] at e0
  cases e0
  rw [← setV_slf h]
  have nc : ∀ q, o ≠ LamX.CodeO c.me q := by
    rcases hs.2.2 with z | ⟨_, z⟩
    · rw [e2] at z
      rw [Option.some.inj z]
      exact fun q => slO_ne_code
    · rw [e2] at z
      rw [Option.some.inj z]
      exact fun q y => by cases y
  refine S.chg (ownV_slf h) ⟨e1, _, .inr (slfV_rf h)⟩ ⟨⟨fun b u e => ?_, fun b u e t => ?_, S.wf.nt, Tabs_putC S.wf.tab e2 r.ntbl nc (fun u x z => by cases z)⟩, Same.refl _, fun b u e _ hb => ?_, fun _ _ => rfl⟩ upd_there upd_same e3 (.slf hm hd hn (q.put j rv))
  · rw [upd_ne fun z => by rw [z, e3] at e; cases e]
    exact S.wf.sub _ _ e
  · by_cases hb : b = c.me
    · subst hb
      rw [upd_same] at e
      rw [← Option.some.inj e] at t
      cases t
    · rw [upd_ne hb] at e
      exact S.wf.tup _ _ e t
  · rw [upd_ne fun z => hb (by rw [z])]
    exact e
/-! ### reading and writing in an __init__ -/
/-- the slots of the class named cn: f stands at j -/
structure SlF (K : PySem.W.Frag) (mg : Str → Option Value) (cn f : Str) (j : Nat) : Prop where
  ex : ∃ C p, mg cn = some (.ref C) ∧ L2.SCls K C ∧ L2.Slt K C f j p
def mSlf (cn : Str) (i j : Nat) : En → R D := fun env => match slfV env i with
  | some (c', os) => if (c' == cn) = true then (match os[j]? with
    | some (some d) => .ok d env
    | _ => .no) else .no
  | none => .no
theorem slf_case {W : WX} {Q : VK} {cn : Str} {i j : Nat} (h : Okp c W σ F (rlE c) Q (mSlf cn i j env)) : ∃ os d, slfV env i = some (cn, os) ∧ os[j]? = some (some d) ∧ Okp c W σ F (rlE c) Q (.ok d env) := by
  unfold mSlf at h
  cases hs : slfV env i with
  | none =>
    rw [hs] at h
    exact h.elim
  | some y =>
    obtain ⟨c', os⟩ := y
    rw [hs] at h
    dsimp only at h
    split at h
    · rename_i hc
      have hc := eq_of_beq hc
      subst hc
      split at h
      · rename_i d hj
        exact ⟨os, d, rfl, hj, h⟩
      · exact h.elim
    · exact h.elim
theorem re_slf {i j : Nat} {cn f : Str} {e : Expr} {pos : Pos} {W : WX} (hme : c.ra = some c.me) (hK : c.K = X.K) (k : SlF c.K c.mg cn f j) (he : PE X e (tVar i))
    (hb : attributeBase e f X.env (eval e X.env) = eval e X.env := by rfl) : PE X (.Attribute e f pos) (tE c W (mSlf cn i j)) := by
  refine ⟨fun pins s σ H Q I q => ?_⟩
  obtain ⟨env, F, S, q⟩ := q
  obtain ⟨os, d, hs, hj, q⟩ := slf_case q
  obtain ⟨C, dx, vs, hm, h1, h2, h3, _⟩ := S.slf hme hs
  obtain ⟨v, hv, rv⟩ := h3.get hj
  obtain ⟨C', p, e1, e2, e3⟩ := k.ex
  rw [hm] at e1
  cases e1
  rw [hK] at e2 e3
  have hq : tVar i σ H fun x H1 => ∃ a dx vs v, x = .ref a ∧ SlAt H1 a C dx vs ∧ vs[j]? = some (some v) ∧ Q v H1 := ⟨_, h1, _, dx, vs, v, rfl, h2, hv, q v H F S (Same.refl _) rv⟩
  exact (pe_slot (C := C) e2 e3 he hb).run pins s σ H Q I hq
/-- self.f = e -/
def sPut (cn : Str) (i j : Nat) (m : En → R D) : En → Rs := fun env => (m env).bs fun d e => match slfV e i with
  | some (c', os) => if (c' == cn) = true then .nx (e.set i (.rf (.slf cn (pusD j d os)))) else .no
  | none => .no
theorem rs_put {i j : Nat} {cn f : Str} {o value : Expr} {pos pos' : Pos} {W : WX} {m : En → R D} (hme : c.ra = some c.me) (hK : c.K = X.K) (k : SlF c.K c.mg cn f j) (ho : PE X o (tVar i)) (hv : PE X value (tE c W m))
    (hs : swapsWith value (some (.Attribute o f pos')) pos.line X.env = pure false := by rfl) : PS X (.Assign [.Attribute o f pos'] value pos) (tS c W (sPut cn i j m)) := by
  obtain ⟨C, p, e1, e2, e3⟩ := k.ex
  rw [hK] at e2 e3
  refine (ps_slot (C := C) e2 e3 ho hv hs).imp fun Z σ H q => ?_
  obtain ⟨env, F, S, q⟩ := q
  unfold sPut at q
  refine tM_bs S q fun d e v H1 F1 S1 s1 r1 h1 => ?_
  cases z : slfV e i with
  | none =>
    rw [z] at h1
    exact h1.elim
  | some y =>
    obtain ⟨c', os⟩ := y
    rw [z] at h1
    dsimp only at h1
    split at h1
    · rename_i hc
      have hc := eq_of_beq hc
      subst hc
      obtain ⟨C', dx, vs, hm, g1, g2, g3, g4, g5, g6, _⟩ := S1.slf hme z
      rw [hm] at e1
      cases e1
      exact ⟨_, g1, _, dx, vs, rfl, g2, h1 _ _ _ (S1.pus hme z r1 hm g4 g5 g3 g2) (Same.refl _)⟩
    · exact h1.elim
/-! several targets -/
theorem wpAny_assign_Attr {M : Model} {A : Around} {E : Value → Shared → Prop} {s : Shared} {env : Env} {o : Expr} {attr : Str} {pos : Pos} {v : Value} {Q : Unit → Shared → Prop}
    (h : wpAny M A (eval o env) (fun ov s₂ => wpAny M A (setAttr ov attr v) Q E s₂) E s) : wpAny M A (assign (.Attribute o attr pos) env v) Q E s := fun Γ p hΓ => by
  simp only [assign_Attribute, Sem.wp_bind', Sem.wp_holding, Sem.wp_cmd_standAt, Sem.wp_release]
  exact Sem.wp_mono M Γ _ (fun ov p₁ s₂ h₂ => h₂ Γ _ hΓ) (fun _ _ _ h' => h') _ _ (h Γ p hΓ)
def slsH (H : Hp) (a C dx : Addr) : List (Option V) → List Nat → List V → Hp
  | vs, j :: js, w :: ws => slsH (upd H a (SlO C dx a (putS j w vs))) a C dx (putS j w vs) js ws
  | _, _, _ => H
def gFls (C : Addr) (i : Nat) (js : List Nat) : TGs := fun ws σ H Q => ws.length = js.length ∧ ∃ a dx vs, σ[i]? = some (some (.ref a)) ∧ SlAt H a C dx vs ∧ Q σ (slsH H a C dx vs js ws)
theorem pgf_nil {C : Addr} {i : Nat} : PGs X [] (gFls C i []) := pgs_nil.imp fun v σ H Q ⟨h1, a, dx, vs, _, _, h2⟩ => by
  cases v with
  | nil => exact ⟨rfl, h2⟩
  | cons a b => cases h1
def gFl (C : Addr) (i j : Nat) : TG := fun v σ H Q => ∃ a dx vs, σ[i]? = some (some (.ref a)) ∧ SlAt H a C dx vs ∧ Q σ (upd H a (SlO C dx a (putS j v vs)))
theorem pg_fl {C p : Addr} {i j : Nat} {o : Expr} {f : Str} {pos : Pos} (e2 : L2.SCls X.K C) (e3 : L2.Slt X.K C f j p) (ho : PE X o (tVar i)) : PG X (.Attribute o f pos) (gFl C i j) :=
  ⟨fun pins s σ H v u Q I ru ⟨a, dx, vs, h1, h2, q⟩ => by
    have hq : tVar i σ H fun x H1 => x = .ref a ∧ H1 = H := ⟨_, h1, rfl, rfl⟩
    refine wpAny_assign_Attr (thn (ho.run pins s σ H _ I hq) fun ov s2 ⟨x, H2, I2, rx, ex, eH⟩ => ?_)
    subst ex eH
    obtain rfl : ov = Value.ref a := rx
    exact setslot_ok I2 h2 e2 e3 ru fun s3 I3 => ⟨σ, _, I3, q⟩⟩
theorem pgf_cons {C p : Addr} {i j : Nat} {js : List Nat} {o : Expr} {f : Str} {pos : Pos} {es : List Expr} (e2 : L2.SCls X.K C) (e3 : L2.Slt X.K C f j p) (ho : PE X o (tVar i)) (h2 : PGs X es (gFls C i js))
    (hs : (assignEach (.Attribute o f pos :: es) X.env).map (·.2) = assign (.Attribute o f pos) X.env :: (assignEach es X.env).map (·.2) := by rfl) : PGs X (.Attribute o f pos :: es) (gFls C i (j :: js)) :=
  (pgs_cons (pg_fl e2 e3 ho) h2 hs).imp fun vs σ H Q ⟨h1, a, dx, os, h3, h4, h5⟩ => by
    cases vs with
    | nil => cases h1
    | cons v vs => exact ⟨v, vs, rfl, a, dx, os, h3, h4, Nat.succ.inj h1, a, dx, _, h3, h4.here, h5⟩
def putsD : List (Option D) → List Nat → List D → List (Option D)
  | os, j :: js, d :: ds => putsD (pusD j d os) js ds
  | os, _, _ => os
theorem slfV_set {e : En} {i : Nat} {cn : Str} {os ws : List (Option D)} (h : slfV e i = some (cn, os)) : slfV (e.set i (.rf (.slf cn ws))) i = some (cn, ws) := by
  have hi : i < e.length := by
    by_cases hi : i < e.length
    · exact hi
    · have := slfV_rf h
      rw [List.getElem?_eq_none (by omega)] at this
      cases this
  unfold slfV
  rw [List.getElem?_set_self hi]
theorem SR.puts (hme : c.ra = some c.me) {i : Nat} {cn : Str} : ∀ {js : List Nat} {ds : List D} {ws : List V} {env : En} {H : Hp} {os : List (Option D)} {C dx : Addr} {vs : List (Option V)}, SR c env σ H F → slfV env i = some (cn, os) → Reps c.toGc F ds ws →
    c.mg cn = some (.ref C) → F dx = some (.own c.me) → dx ≠ c.me → RepQ c.toGc F os vs → SlAt H c.me C dx vs → SR c (env.set i (.rf (.slf cn (putsD os js ds)))) σ (slsH H c.me C dx vs js ws) F
  | [], ds, ws, env, H, os, C, dx, vs, S, h, _, _, _, _, _, _ => by
    have e : env.set i (.rf (.slf cn (putsD os [] ds))) = env := by
      unfold putsD
      have := slfV_rf h
      apply List.ext_getElem?
      intro k
      by_cases hk : k = i
      · subst hk
        have hi : k < env.length := by
          by_cases hi : k < env.length
          · exact hi
          · rw [List.getElem?_eq_none (by omega)] at this
            cases this
        rw [List.getElem?_set_self hi, this]
      · rw [List.getElem?_set_ne (Ne.symm hk)]
    rw [e]
    unfold slsH
    exact S
  | j :: js, _, _, env, H, os, C, dx, vs, S, h, .nil, _, _, _, _, _ => by
    have e : env.set i (.rf (.slf cn (putsD os (j :: js) []))) = env := by
      unfold putsD
      have := slfV_rf h
      apply List.ext_getElem?
      intro k
      by_cases hk : k = i
      · subst hk
        have hi : k < env.length := by
          by_cases hi : k < env.length
          · exact hi
          · rw [List.getElem?_eq_none (by omega)] at this
            cases this
        rw [List.getElem?_set_self hi, this]
      · rw [List.getElem?_set_ne (Ne.symm hk)]
    rw [e]
    unfold slsH
    exact S
  | j :: js, _, _, env, H, os, C, dx, vs, S, h, @Reps.cons _ _ d ds w ws rd t, hm, hd, hn, q, hs => by
    have S1 := S.pus hme (j := j) h rd hm hd hn q hs
    have S2 := SR.puts hme (js := js) S1 (slfV_set h) t hm hd hn (q.put j rd) hs.here
    rw [List.set_set] at S2
    exact S2
/-- self.f, self.g = e1, e2 -/
def sPuts (cn : Str) (i : Nat) (js : List Nat) (m : En → R D) : En → Rs := fun env => (m env).bs fun d e => match d with
  | .tup ds => (match slfV e i with
    | some (c', os) => if (c' == cn) = true ∧ ds.length = js.length then .nx (e.set i (.rf (.slf cn (putsD os js ds)))) else .no
    | none => .no)
  | _ => .no
theorem rs_puts {i : Nat} {js : List Nat} {cn : Str} {W : WX} {m : En → R D} {C : Addr} {ts : List Expr} {value : Expr} {k1 : Nat} {p1 pos : Pos} (hme : c.ra = some c.me) (hK : c.K = X.K) (hC : c.mg cn = some (.ref C)) (hc : X.calm = true) (ha : PE X value (tE c W m)) (hg : PGs X ts (gFls C i js))
    (hst : (assignEach ts X.env).findIdx? (·.1) = none := by rfl) (hlen : (assignEach ts X.env).length = js.length := by rfl)
    (hs : swapsWithSole [.Tuple ts k1 p1] value pos.line X.env = pure false := by rfl) (hw : swappedStores [.Tuple ts k1 p1] value X.env = pure none := by rfl)
    (h1 : (assignEach [.Tuple ts k1 p1] X.env).map (·.2) = [assign (.Tuple ts k1 p1) X.env] := by rfl) : PS X (.Assign [.Tuple ts k1 p1] value pos) (tS c W (sPuts cn i js m)) :=
  (ps_asg ha (pg_tup (n := js.length) hc hg hlen hst) hs hw h1).imp fun Z σ H q => by
    obtain ⟨env, F, S, q⟩ := q
    unfold sPuts at q
    refine tM_bs S q fun d e v H1 F1 S1 s1 r1 h1 => ?_
    cases r1 with
    | tup qt rt =>
      dsimp only at h1
      rename_i ds ws
      cases z : slfV e i with
      | none =>
        rw [z] at h1
        exact h1.elim
      | some y =>
        obtain ⟨c', os⟩ := y
        rw [z] at h1
        dsimp only at h1
        split at h1
        · rename_i hcl
          obtain ⟨hcn, hl⟩ := hcl
          have hcn := eq_of_beq hcn
          subst hcn
          obtain ⟨C', dx, vs, hm, g1, g2, g3, g4, g5, g6, _⟩ := S1.slf hme z
          rw [hC] at hm
          cases hm
          refine ⟨_, _, rfl, hK ▸ sqT_mono S1.wf.sub qt, by rw [← rt.length, hl], by rw [← rt.length, hl], _, dx, vs, g1, g2, ?_⟩
          exact h1 _ _ _ (SR.puts hme S1 z rt hC g4 g5 g3 g2) (Same.refl _)
        · exact h1.elim
    | _ => exact h1.elim
end
end PV

/-! making an instance -/
namespace PV
open PySem PySem.Spec PyProof.Rows L2
/-- from (F, H) to (F', H'): all stays but at a -/
structure Gn (g : Gc) (a : Addr) (F H F' H' : Hp) : Prop where
  wf : WF g F' H'
  f : Same F F'
  h : ∀ b o, H b = some o → (∀ ps, o ≠ .tbl ps) → b ≠ a → H' b = some o
  new : ∀ b, H b ≠ none → b ≠ a → F' b = F b
  there : ∀ b, H b ≠ none → H' b ≠ none
/-- an __init__'s promise: the instance is what f says -/
def spN (g : Gc) (cn : Str) (n : Nat) (f : List D → Rf) : Sp := fun vs H Q E => vs.length = n + 1 ∧ ∃ F a C dx ds vs', vs = .ref a :: vs' ∧ WF g F H ∧ g.mg cn = some (.ref C) ∧ F dx = some (.own a) ∧ dx ≠ a ∧ H a = some (.ins C dx []) ∧ F a = none ∧ Reps g F ds vs' ∧ (match f ds with
  | .ok d => ∀ H' F', Gn g a F H F' H' → Rep g F' d (.ref a) → Q .non H'
  | .er x => ∀ cls dx H' F', Gn g a F H F' H' → RepX g F' x cls dx → E cls dx H'
  | .no => False)
/-- what an __init__ makes -/
def runN (cn : Str) (n : Nat) (m : En → Rs) (ds : List D) : Rf := match m (.rf (.slf cn []) :: startE n ds) with
  | .nx e => (match slfV e 0 with
    | some (c', os) => if (c' == cn && !os.isEmpty) = true then (match alls os with
      | some fs => .ok (.ins cn fs)
      | none => .no) else .no
    | none => .no)
  | .er x _ => .er x
  | _ => .no
section
variable {P : Program} {w : World} {K : PySem.W.Frag} {mg : Str → Option Value} {base : Heap}
theorem okN {g : Gc} {cn : Str} {x qual : Str} {st : Stmt} {f : Addr} {fd : FuncData} {y : Str} {N ps : List Str} {k n : Nat} {m : En → Rs} (Fn : Fun K x qual st f fd) (S : FnScope (y :: N) ps (defScope st)) (hn : ps.length = n + 1) (hps : n ≤ N.length)
    (hbody : ∀ (a : Addr) (cdv : Value) (A : Around) (outer : List Env) (s : Shared) (H : Hp) (E : XK) (H0 F0 : Hp), fd.code = cdv → RmG k (A.deeper (envOfC qual (defScope st) s.heap.objs.size f cdv)) →
      PSs (cxOf (L2.CX P w) P w K mg base (y :: N) qual (defScope st) f cdv A outer s H E) (defBody st) (tS ⟨g.at a, some a, H0, F0, false⟩ (wD E) m)) :
    FnG P w K mg base (L2.CX P w) (k + 1) f fd ps (spN g cn n (runN cn N.length m)) := by
  refine okG Fn S (fun vs H Q E h => by rw [h.1, hn]) (fun cdv A outer s H vs Q E hcv hr h => ?_)
  obtain ⟨hl, F, a, C, dx, ds, vs', rfl, wf, hm, hd, hne, ha, fa, r, h⟩ := h
  have hl' : vs'.length = n := by simpa using hl
  obtain ⟨h1, h2⟩ := start_at (g := g.at a) (Reps.at r) (N := N) (by omega)
  have hs : L2.start (y :: N) (.ref a :: vs') = some (.ref a) :: L2.start N vs' := by
    unfold L2.start
    simp
  have S0 : SR ⟨g.at a, some a, H, F, false⟩ (.rf (.slf cn []) :: startE N.length ds) (L2.start (y :: N) (.ref a :: vs')) H F := by
    rw [hs]
    have no : ∀ (i : Nat) (d : D), (startE N.length ds)[i]? = some (.ow d) ∨ (startE N.length ds)[i]? = some (.rf d) → False := fun i d e => by
      rcases e with e | e <;> (rcases start_fz e with z | ⟨_, z⟩ <;> cases z)
    refine ⟨⟨wf.at, Same.refl _, fun b u e _ _ => e, fun _ _ => rfl⟩, fun _ h => h, fun b e => ?_, by simp [h1], fun i d e => ?_, fun i d e => ?_, fun i d e => ?_, fun i j b ⟨_, d, e⟩ ⟨_, d', e'⟩ => ?_⟩
    · cases e
      show H _ ≠ none
      rw [ha]
      simp
    · cases i with
      | zero => cases e
      | succ i => exact h2 i d e
    · cases i with
      | zero => cases e
      | succ i => exact (no i d (.inl e)).elim
    · cases i with
      | zero =>
        cases e
        exact ⟨a, _, rfl, rfl, ha, fa, .slf0 hm hd hne⟩
      | succ i => exact (no i d (.inr e)).elim
    · cases i with
      | zero =>
        cases j with
        | zero => rfl
        | succ j => exact (no j d' e').elim
      | succ i => exact (no i d e).elim
  refine ⟨_, hbody a cdv A outer s H E H F hcv hr, _, F, S0, ?_⟩
  have gn : ∀ {e : En} {σ : L2.St} {H' F' : Hp}, SR ⟨g.at a, some a, H, F, false⟩ e σ H' F' → Gn g a F H F' H' := fun S' => ⟨S'.gr.wf.un, S'.gr.f, fun b o e n hb => S'.gr.h b o e n (fun z => hb (Option.some.inj z)), fun b e _ => S'.gr.new b e, S'.there⟩
  unfold runN at h
  cases z : m (.rf (.slf cn []) :: startE N.length ds) with
  | nx e =>
    rw [z] at h
    dsimp only at h
    cases z2 : slfV e 0 with
    | none =>
      rw [z2] at h
      exact h.elim
    | some yy =>
      obtain ⟨c', os⟩ := yy
      rw [z2] at h
      dsimp only at h
      by_cases hc : (c' == cn && !os.isEmpty) = true
      · rw [if_pos hc] at h
        rw [Bool.and_eq_true] at hc
        obtain ⟨hc, hos⟩ := hc
        have hc := eq_of_beq hc
        subst hc
        cases z3 : alls os with
        | none =>
          rw [z3] at h
          exact h.elim
        | some fs =>
          rw [z3] at h
          have h : ∀ H' F', Gn g a F H F' H' → Rep g F' (.ins c' fs) (.ref a) → Q .non H' := h
          intro σ H' F' S' s'
          obtain ⟨C', dx', vs, g1, g2, g3, g4, g5, g6, g7, _⟩ := S'.slf rfl z2
          obtain ⟨us, e1, rf⟩ := alls_ok g4 z3
          subst e1
          have G := gn S'
          obtain ⟨b, o, b0, b1, b2, b3, br⟩ := S'.rf 0 _ (slfV_rf z2)
          cases b0
          have ho : ∃ C dx us, g.mg c' = some (.ref C) ∧ F' dx = some (.own a) ∧ dx ≠ a ∧ o = SlO C dx a (us.map some) ∧ Reps g F' fs us ∨ os = [] := by
            cases br with
            | slf0 m0 q0 n0 => exact ⟨0, 0, [], .inr rfl⟩
            | slf m0 q0 n0 r0 =>
              obtain ⟨us', e1', rf'⟩ := alls_ok r0 z3
              subst e1'
              exact ⟨_, _, us', .inl ⟨m0, q0, n0, rfl, Reps.at (g := g.at a) (a := g.me) rf'⟩⟩
          obtain ⟨C2, dx2, us2, ho⟩ := ho
          rcases ho with ⟨m0, q0, n0, rfl, rf'⟩ | ho
          · have sm : Same F' (upd F' a (SlO C2 dx2 a (us2.map some))) := Same_upd b3
            have wf2 : WF g (upd F' a (SlO C2 dx2 a (us2.map some))) H' := by
              refine ⟨fun b u e => ?_, fun b u e t => sm _ _ (G.wf.tup b u e t), fun b ps e => ?_, G.wf.tab⟩
              · by_cases hb : b = a
                · subst hb
                  rw [upd_same] at e
                  rw [b2, e]
                · rw [upd_ne hb] at e
                  exact G.wf.sub _ _ e
              · by_cases hb : b = a
                · subst hb
                  rw [upd_same] at e
                  cases e
                · rw [upd_ne hb] at e
                  exact G.wf.nt _ _ e
            refine h H' _ ⟨wf2, G.f.trans sm, G.h, fun b hb hne => ?_, G.there⟩ (.ins m0 (sm _ _ q0) n0 upd_same (rf'.mono sm))
            rw [upd_ne hne]
            exact G.new b hb hne
          · subst ho
            cases hos
      · rw [if_neg hc] at h
        exact h.elim
  | er x e =>
    rw [z] at h
    exact fun cls dx σ H' F' S' s' rx => h cls dx H' F' (gn S') rx.un
  | rt d e =>
    rw [z] at h
    exact h.elim
  | bk e =>
    rw [z] at h
    exact h.elim
  | ct e =>
    rw [z] at h
    exact h.elim
  | no =>
    rw [z] at h
    exact h.elim
end
end PV

/-! the class is called; attributes, properties; isinstance -/
namespace PV
open PySem PySem.Spec PyProof.Rows L2
section
variable {c : Cn} {W : WX} {X : Cx} {k : Nat} {f C : Addr} {fd : FuncData} {ps : List Str} {n : Nat} {fn : List D → Rf} {x cn : Str} {p pos : Pos} {e : Expr} {es : List Expr} {ms : List (En → R D)}
theorem RmG.make {A : Around} (r : RmG (k + 1) A) (C : Addr) (us : List Value) (kw : List (Str × Value)) : RmG k (A.under (.builtin "type.__call__" ⟨.ref C :: us, kw⟩)) := ⟨r.r.make C us kw, r.g⟩
theorem RmG.in1 {A : Around} (r : RmG (k + 1) A) : RmG k A.in1 := ⟨r.r.in1, r.g⟩
theorem run_makeG {pins : List (Addr × Obj)} {σ : L2.St} {H : Hp} {s : Shared} {Q : VK} {us : List Value} {vs : List V} {sp : Sp} {E : L2.St → XK} {CX : CXT} (M : Mk X.K C f) (F : FnG X.prog X.w X.K X.mg X.base CX k f fd ps sp) (hb : Binds X.K fd ps []) (hr : RmG (k + 1) X.A) (hx : PassesAt CX X σ (E σ)) (I : Inv X pins σ H s) (r : Vals vs us)
    (h : ∀ x dx, H x = Option.none → H dx = Option.none → dx ≠ x → sp (V.ref x :: vs) (upd (upd H dx (.own x)) x (.ins C dx [])) (fun v H2 => v = .non ∧ Q (.ref x) H2) (E σ)) :
    wpAny (model X.prog X.w) X.A (call (.ref C) us) (EP X pins σ Q) X.xe s := by
  have hq := h (s.heap.objs.size + 1) s.heap.objs.size (I.hok.fresh (Nat.le_succ _)) (I.hok.fresh (Nat.le_refl _)) (Nat.ne_of_lt (Nat.lt_succ_self _))
  have I2 := Inv.made (C := C) I
  have r2 : Vals (V.ref (s.heap.objs.size + 1) :: vs) (Value.ref (s.heap.objs.size + 1) :: us) := .cons rfl r
  have hl : (Value.ref (s.heap.objs.size + 1) :: us).length = ps.length := r2.length.symm.trans (F.len _ _ _ _ hq)
  have b := hb _ (Value.ref (s.heap.objs.size + 1) :: us) I2.kIn (by rw [List.append_nil]; exact hl)
  rw [List.append_nil] at b
  refine wpAny_call (make_map (f := f) I.kIn M.makes M.init (beq_iff_eq.mp M.fn) (codeAny_mono (F.run _ X.stack _ _ ⟨Value.ref (s.heap.objs.size + 1) :: us, []⟩ (Value.ref (s.heap.objs.size + 1) :: us) _ _ (E σ) (hr.make C us []) (I2.env0.make C us []) b r2 hq) fun r s' hq' => ?_))
  cases r with
  | error e => exact hx pins _ _ e s' I2 hq'
  | ok fl =>
    cases fl with
    | ret u =>
      obtain ⟨v, H', I3, rv, ev, q3⟩ := I2.after hq'
      subst ev
      exact ⟨rv, ⟨V.ref (s.heap.objs.size + 1), H', I3, rfl, q3⟩⟩
    | next => exact False.elim hq'
    | brk => exact False.elim hq'
    | cont => exact False.elim hq'
theorem make_ok {σ : L2.St} {H : Hp} {Q : VK} (hm : c.mg cn = some (.ref C)) (hn : ms.length = n) (q : tE c W (mCall fn ms) σ H Q) : tMs c W ms σ H fun vs H1 => ∀ x dx, H1 x = Option.none → H1 dx = Option.none → dx ≠ x →
    spN c.toGc cn n fn (V.ref x :: vs) (upd (upd H1 dx (.own x)) x (.ins C dx [])) (fun v H2 => v = .non ∧ Q (.ref x) H2) (WE W σ) := by
  obtain ⟨env, F, S, q⟩ := q
  refine tMsA ms S q fun ds e vs H1 F1 S1 s1 r1 hl h1 x dx hx hdx hne => ?_
  have fx : F1 x = none := S1.wf.sub.free hx
  have fdx : F1 dx = none := S1.wf.sub.free hdx
  have sm : Same F1 (upd F1 dx (.own x)) := Same_upd fdx
  have hd2 : (upd H1 dx (.own x)) x = none := by
    rw [upd_ne (Ne.symm hne)]
    exact hx
  have keep : ∀ b, b ≠ x → b ≠ dx → (upd (upd H1 dx (.own x)) x (.ins C dx [])) b = H1 b := fun b h1 h2 => by rw [upd_ne h1, upd_ne h2]
  have wf2 : WF c.toGc (upd F1 dx (.own x)) (upd (upd H1 dx (.own x)) x (.ins C dx [])) := by
    refine ⟨fun b u e => ?_, fun b u e t => ?_, fun b ps e => ?_, Tabs_upd (Tabs_upd S1.wf.tab hdx (fun _ _ z => by cases z)) hd2 (fun _ _ z => by cases z)⟩
    · by_cases hb : b = dx
      · subst hb
        rw [upd_same] at e
        rw [upd_ne hne, upd_same, e]
      · rw [upd_ne hb] at e
        have hbx : b ≠ x := fun z => by
          subst z
          rw [fx] at e
          cases e
        rw [keep b hbx hb]
        exact S1.wf.sub _ _ e
    · by_cases hbx : b = x
      · subst hbx
        rw [upd_same] at e
        cases e
        cases t
      · by_cases hb : b = dx
        · subst hb
          rw [upd_ne hne, upd_same] at e
          cases e
          cases t
        · rw [keep b hbx hb] at e
          rw [upd_ne hb]
          exact S1.wf.tup _ _ e t
    · by_cases hb : b = dx
      · subst hb
        rw [upd_same] at e
        cases e
      · rw [upd_ne hb] at e
        exact S1.wf.nt _ _ e
  refine ⟨by simp only [List.length_cons]; rw [r1.length_eq, hl, hn], upd F1 dx (.own x), x, C, dx, ds, vs, rfl, wf2, hm, upd_same, hne, upd_same, by rw [upd_ne (Ne.symm hne)]; exact fx, r1.mono sm, ?_⟩
  have go : ∀ {H' F' : Hp}, Gn c.toGc x (upd F1 dx (.own x)) (upd (upd H1 dx (.own x)) x (.ins C dx [])) F' H' → Go c.toGc F1 H1 F' H' := fun {H' F'} G => by
    have ne : ∀ b, H1 b ≠ none → b ≠ x ∧ b ≠ dx := fun b hb => ⟨fun z => by subst z; exact hb hx, fun z => by subst z; exact hb hdx⟩
    refine ⟨⟨G.wf, sm.trans G.f, fun b o e nt _ => ?_, fun b hb => ?_⟩, fun b hb => ?_⟩
    · obtain ⟨n1, n2⟩ := ne b (by rw [e]; simp)
      exact G.h b o (by rw [keep b n1 n2]; exact e) nt n1
    · obtain ⟨n1, n2⟩ := ne b hb
      rw [G.new b (by rw [keep b n1 n2]; exact hb) n1, upd_ne n2]
    · obtain ⟨n1, n2⟩ := ne b hb
      exact G.there b (by rw [keep b n1 n2]; exact hb)
  cases z : fn ds with
  | ok d =>
    rw [z] at h1
    exact fun H' F' G rv => ⟨rfl, h1 _ H' F' (S1.go (go G)) (go G).gr.f rv⟩
  | er x =>
    rw [z] at h1
    exact fun cls dx H' F' G rx => h1 cls dx H' F' (S1.go (go G)) (go G).gr.f rx
  | no =>
    rw [z] at h1
    exact h1
theorem re_make (M : Mk X.K C f) (Fo : FnG X.prog X.w X.K X.mg X.base (L2.CX X.prog X.w) k f fd ps (spN c.toGc cn n fn)) (hr : RmG (k + 1) X.A) (hg : Gl X x) (hm : X.mg x = some (.ref C)) (hmc : c.mg cn = some (.ref C)) (hb : Binds X.K fd ps []) (tk : Takes X W)
    (ha : PA X (e :: es) (tMs c W ms)) (hn : ms.length = n := by rfl) (hdb : (x == ("__debug__" : Str)) = false := by decide) (he : starEach (e :: es) X.env = (false, eval e X.env) :: starEach es X.env := by rfl) (hpl : (backTo pos (starEach es X.env)).any (·.1) = false := by rfl) :
    PE X (.Call (.Name x p) (e :: es) [] pos) (tE c W (mCall fn ms)) := by
  refine ⟨fun pins s σ H Q I h => ?_⟩
  refine wpAny_Call_Name_kw (ld_glob I hg hm ?_ hdb)
  refine PySem.W.callWith_K (h₀ := X.base) I.ok.mod.kin M.kp (thn (ha.run pos pins s σ H _ I (make_ok hmc hn h)) fun us s1 ⟨vs, H1, I1, r, q⟩ => ⟨I1.kIn, ?_⟩) he hpl
  exact run_makeG (E := WE W) M Fo hb hr (passAt tk σ) I1 r q
/-! ### attributes -/
/-- e.f, a slot of a made instance -/
def mFld (cn : Str) (j : Nat) (m : En → R D) : En → R D := fun env => (m env).bind fun d e => match d with
  | .ins c' fs => if (c' == cn) = true then (match fs[j]? with
    | some d' => .ok d' e
    | none => .no) else .no
  | _ => .no
theorem Rep.ins_at {g : Gc} {F H : Hp} {cn : Str} {fs : List D} {v : V} (w : WF g F H) (r : Rep g F (.ins cn fs) v) : ∃ a C dx vs, v = .ref a ∧ g.mg cn = some (.ref C) ∧ SlAt H a C dx (vs.map some) ∧ Reps g F fs vs := by
  cases r with
  | ins m h n q r => exact ⟨_, _, _, _, rfl, m, ⟨w.sub _ _ h, n, .inl (w.sub _ _ q)⟩, r⟩
theorem re_fld {cn f : Str} {j : Nat} {m : En → R D} (hK : c.K = X.K) (kf : SlF c.K c.mg cn f j) (he : PE X e (tE c W m)) (hb : attributeBase e f X.env (eval e X.env) = eval e X.env := by rfl) : PE X (.Attribute e f pos) (tE c W (mFld cn j m)) := by
  obtain ⟨C, p, e1, e2, e3⟩ := kf.ex
  rw [hK] at e2 e3
  refine (pe_slot (C := C) e2 e3 he hb).imp fun σ H Q ⟨env, F, S, q⟩ => ?_
  unfold mFld at q
  refine tM_bind S q fun d e v H1 F1 S1 s1 r1 h1 => ?_
  cases d with
  | ins c' fs =>
    dsimp only at h1
    split at h1
    · rename_i hc
      have hc := eq_of_beq hc
      subst hc
      split at h1
      · rename_i d' hj
        obtain ⟨a, C', dx, vs, rfl, hm, hs, r⟩ := r1.ins_at S1.wf
        rw [hm] at e1
        cases e1
        obtain ⟨u, hu, ru⟩ := r.get hj
        exact ⟨a, dx, _, u, rfl, hs, by rw [List.getElem?_map, hu]; rfl, h1 _ H1 F1 S1 (Same.refl _) ru⟩
      · exact h1.elim
    · exact h1.elim
  | _ => exact h1.elim
/-- what a property of the class at C asks -/
structure PrF (K : PySem.W.Frag) (mg : Str → Option Value) (cn f : Str) (g : Addr) : Prop where
  ex : ∃ C p, mg cn = some (.ref C) ∧ L2.SCls K C ∧ PropOf K C f p g
/-- e.f, a property -/
def mProp (cn : Str) (fn : List D → Rf) (m : En → R D) : En → R D := fun env => (m env).bind fun d e => match d with
  | .ins c' fs => if (c' == cn) = true then (match fn [.ins c' fs] with
    | .ok d' => .ok d' e
    | _ => .no) else .no
  | _ => .no
theorem cx_never {P : Program} {w : World} {st : List Env} {H : Hp} {s : Shared} {e : Value} {s' : Shared} (h : L2.CX P w st H s (fun _ _ _ => False) e s') : False := by
  obtain ⟨_, _, _, _, _, _, _, _, _, _, _, _, q⟩ := h
  exact q
theorem getprop_G {pins : List (Addr × Obj)} {σ : L2.St} {H : Hp} {s : Shared} {Q : VK} {b : Bool} {E' : Value → Shared → Prop} {a dx C g p : Addr} {vs : List (Option V)} {f : Str} {sp : Sp} (I : Inv X pins σ H s) (h : SlAt H a C dx vs) (sc : L2.SCls X.K C) (hp : PropOf X.K C f p g)
    (F : FnG X.prog X.w X.K X.mg X.base (L2.CX X.prog X.w) k g fd ps sp) (hr : RmG (k + 1) X.A) (hb : Binds X.K fd ps []) (q : sp [.ref a] H Q (fun _ _ _ => False)) :
    wpAny (model X.prog X.w) X.A (getAttr (.ref a) f b) (EP X pins σ Q) E' s := by
  obtain ⟨us, od, _, _, J⟩ := slAt_get I h
  obtain ⟨rest, hrec⟩ := hp.rec_
  have I1 := I.tok (s.toks + 1)
  have hl : ([Value.ref a] ++ []).length = ps.length := by
    rw [← F.len _ _ _ _ q]
    rfl
  have pg : PySem.W.plainGet X.K C f = true := sc.pg
  refine PySem.W.get_bind I.kIn J (PySem.W.plainGet_of pg).1 (PySem.W.findObj_data sc.ic hp.at_ hp.get hp.tak) (PySem.W.plainGet_of pg).2 (wpAny_call (PySem.W.prop_get (s := { s with toks := s.toks + 1 }) I.kIn hrec ?_))
  refine codeAny_mono (F.run X.A.in1 X.stack { s with toks := s.toks + 1 } H ⟨[.ref a], []⟩ [.ref a] [.ref a] Q (fun _ _ _ => False) hr.in1 I1.env0.in1 (hb _ [.ref a] I1.kIn hl) (.cons rfl .nil) q) fun r s' hq => ?_
  cases r with
  | error er => exact (cx_never hq).elim
  | ok fl =>
    cases fl with
    | ret u =>
      obtain ⟨v, H', I3, rv, q3⟩ := I1.after hq
      show wpAny _ _ (handedOut u) _ _ _
      rw [PySem.W.handedOut_of (handed_of rv)]
      exact wpAny_pure ⟨v, H', I3, rv, q3⟩
    | next => exact False.elim hq
    | brk => exact False.elim hq
    | cont => exact False.elim hq
theorem re_prop {cn f : Str} {g : Addr} {m : En → R D} (hK : c.K = X.K) (kf : PrF c.K c.mg cn f g) (Fo : FnG X.prog X.w X.K X.mg X.base (L2.CX X.prog X.w) k g fd ps (spD c.toGc false 1 fn)) (hr : RmG (k + 1) X.A) (hb : Binds X.K fd ps [])
    (he : PE X e (tE c W m)) (hab : attributeBase e f X.env (eval e X.env) = eval e X.env := by rfl) : PE X (.Attribute e f pos) (tE c W (mProp cn fn m)) := by
  obtain ⟨C, p, e1, e2, e3⟩ := kf.ex
  rw [hK] at e2 e3
  refine ⟨fun pins s σ H Q I h => ?_⟩
  have h' : tE c W m σ H fun v H1 => ∃ a dx vs, v = .ref a ∧ SlAt H1 a C dx vs ∧ spD c.toGc false 1 fn [.ref a] H1 Q (fun _ _ _ => False) := by
    obtain ⟨env, F, S, q⟩ := h
    unfold mProp at q
    refine tM_bind S q fun d e v H1 F1 S1 s1 r1 h1 => ?_
    cases d with
    | ins c' fs =>
      dsimp only at h1
      split at h1
      · rename_i hc
        have hc := eq_of_beq hc
        subst hc
        cases z : fn [.ins c' fs] with
        | ok d' =>
          rw [z] at h1
          obtain ⟨a, C', dx, vs, rfl, hm, hs, r⟩ := r1.ins_at S1.wf
          rw [hm] at e1
          cases e1
          refine ⟨a, dx, _, rfl, hs, rfl, F1, _, S1.wf, .cons r1 .nil, ?_⟩
          rw [z]
          exact fun v H' F' g' rv => h1 v H' F' (S1.go g') g'.gr.f (rlQ_rep rv)
        | er x =>
          rw [z] at h1
          exact h1.elim
        | no =>
          rw [z] at h1
          exact h1.elim
      · exact h1.elim
    | _ => exact h1.elim
  refine attr_of hab (thn (he.run pins s σ H _ I h') fun u s1 ⟨x, H1, I1, rx, a, dx, vs, ex, hs, q⟩ => ?_)
  subst ex
  obtain rfl : u = Value.ref a := rx
  exact getprop_G I1 hs e2 e3 Fo hr hb q
/-! ### isinstance -/
/-- what isinstance asks of a class of the text -/
structure ClI (K : PySem.W.Frag) (mg : Str → Option Value) (cn : Str) : Prop where
  ex : ∃ C, mg cn = some (.ref C) ∧ L2.SCls K C ∧ SlX.SIsi K C ∧ PySem.W.typeIn K (.ref C) = some (.type "type") ∧
    (PySem.W.subIn K (.ref C) (.type "bool") = some false ∧ PySem.W.subIn K (.ref C) (.type "int") = some false ∧ PySem.W.subIn K (.ref C) (.type "str") = some false ∧ PySem.W.subIn K (.ref C) (.type "tuple") = some false ∧ PySem.W.subIn K (.ref C) (.type "list") = some false ∧ PySem.W.subIn K (.ref C) (.type "dict") = some false) ∧
    (PySem.W.subIn K (.type "NoneType") (.ref C) = some false ∧ PySem.W.subIn K (.type "bool") (.ref C) = some false ∧ PySem.W.subIn K (.type "int") (.ref C) = some false ∧ PySem.W.subIn K (.type "str") (.ref C) = some false ∧ PySem.W.subIn K (.type "tuple") (.ref C) = some false ∧ PySem.W.subIn K (.type "list") (.ref C) = some false ∧ PySem.W.subIn K (.type "dict") (.ref C) = some false)
/-- the classes of the law, and that none is below another one -/
structure Cls (K : PySem.W.Frag) (mg : Str → Option Value) (cs : List Str) : Prop where
  all : ∀ cn ∈ cs, ClI K mg cn
  two : ∀ cn ∈ cs, ∀ cm ∈ cs, (cn == cm) = false → ∀ C D, mg cn = some (.ref C) → mg cm = some (.ref D) → C ≠ D ∧ PySem.W.subIn K (.ref C) (.ref D) = some false
def isX (cs : List Str) (nm : String) : D → Option Bool
  | .ins c' _ => if (cs.contains c' && ["bool", "int", "str", "tuple", "list", "dict"].contains nm) = true then some false else none
  | d => match tyN d with
    | some a => if ["bool", "int", "str", "tuple", "list", "dict"].contains nm = true then some (subN a nm) else none
    | none => none
def mIsX (cs : List Str) (nm : String) (m : En → R D) : En → R D := fun env => (m env).bind fun d e => match isX cs nm d with
  | some b => .ok (.bl b) e
  | none => .no
def isC (cs : List Str) (cn : Str) : D → Option Bool
  | .ins c' _ => if cs.contains c' = true then some (c' == cn) else none
  | d => match tyN d with
    | some a => some false
    | none => none
def mIsC (cs : List Str) (cn : Str) (m : En → R D) : En → R D := fun env => (m env).bind fun d e => match isC cs cn d with
  | some b => .ok (.bl b) e
  | none => .no
/-- an instance of a class at C, or a value of a built-in type -/
def TyS (K : PySem.W.Frag) (H : Hp) (v : V) (t : Value) : Prop := TyX K H v t ∨ ∃ a C dx vs, v = .ref a ∧ t = .ref C ∧ SlAt H a C dx vs ∧ L2.SCls K C ∧ SlX.SIsi K C
def rIsiS (K : PySem.W.Frag) : List V → Hp → VK → Prop := fun xs H Q => ∃ (x c : V) (t u : Value) (b : Bool), xs = [x, c] ∧ ClsV c u ∧ TyS K H x t ∧ PySem.W.kitOne K t u = some b ∧ Q (.bl b) H
theorem call_isiS : CallR X (.builtin "isinstance") (rIsiS X.K) := by
  intro pins s σ H xs us Q I r h
  obtain ⟨x, cv, t, u, b, rfl, k, ty, e, q⟩ := h
  rcases ty with ty | ⟨a, C, dx, vs, rfl, rfl, hs, hc, hi⟩
  · exact call_isi pins s σ H _ us Q I r ⟨x, cv, t, u, b, rfl, k, ty, e, q⟩
  · obtain ⟨u1, u2, rfl, r1, r2⟩ := r.two
    cases (show u1 = Value.ref a from r1)
    have e2 := k.eq r2
    subst e2
    obtain ⟨us', od, _, _, J⟩ := slAt_get I hs
    have pg : PySem.W.plainGet X.K C "__class__" = true := hc.pg
    exact PySem.W.kia_one (OwX.kitx_slt hc.ic pg hi.ca hi.cn hi.ct hi.cm) I.kIn J e (fun z => nomatch z) fun tk => ⟨.bl b, H, I.tok _, rfl, q⟩
theorem kit_ins {K : PySem.W.Frag} {mg : Str → Option Value} {cn : Str} {nm : String} {C : Addr} (k : ClI K mg cn) (hm : mg cn = some (.ref C)) (hn : ["bool", "int", "str", "tuple", "list", "dict"].contains nm = true) : PySem.W.kitOne K (.ref C) (.type nm) = some false := by
  obtain ⟨C', e1, _, _, _, ⟨b1, b2, b3, b4, b5, b6⟩, _⟩ := k.ex
  rw [hm] at e1
  cases e1
  have hn' : nm = "bool" ∨ nm = "int" ∨ nm = "str" ∨ nm = "tuple" ∨ nm = "list" ∨ nm = "dict" := by simpa using hn
  have hne : ((Value.ref C) == (Value.type nm)) = false := by
    refine Bool.eq_false_iff.mpr fun z => ?_
    cases (beq_iff_eq.mp z)
  unfold PySem.W.kitOne
  rw [hne, if_neg Bool.false_ne_true]
  unfold PySem.W.kitCls
  rcases hn' with rfl | rfl | rfl | rfl | rfl | rfl
  · exact (if_pos (by decide +kernel)).trans b1
  · exact (if_pos (by decide +kernel)).trans b2
  · exact (if_pos (by decide +kernel)).trans b3
  · exact (if_pos (by decide +kernel)).trans b4
  · exact (if_pos (by decide +kernel)).trans b5
  · exact (if_pos (by decide +kernel)).trans b6
theorem kit_own {K : PySem.W.Frag} {C : Addr} {t : Value} {b : Bool} (hc : L2.SCls K C) (ht : PySem.W.typeIn K (.ref C) = some (.type "type")) (hne : t ≠ .ref C) (hs : PySem.W.subIn K t (.ref C) = some b) : PySem.W.kitOne K t (.ref C) = some b := by
  have hne' : (t == Value.ref C) = false := Bool.eq_false_iff.mpr fun z => hne (beq_iff_eq.mp z)
  have hcl : (PySem.W.clsIn K C).isSome = true := hc.ic
  unfold PySem.W.kitOne
  rw [hne', if_neg Bool.false_ne_true]
  unfold PySem.W.kitCls
  refine (if_pos ?_).trans hs
  rw [hcl, ht]
  exact beq_self_eq_true _
theorem kit_ty2 {K : PySem.W.Frag} {mg : Str → Option Value} {cn : Str} {d : D} {a : String} {C : Addr} (k : ClI K mg cn) (hm : mg cn = some (.ref C)) (h : tyN d = some a) : PySem.W.kitOne K (.type a) (.ref C) = some false := by
  obtain ⟨C', e1, hc, _, ht, _, ⟨b0, b1, b2, b3, b4, b5, b6⟩⟩ := k.ex
  rw [hm] at e1
  cases e1
  refine kit_own hc ht (fun z => by cases z) ?_
  cases d <;> first | (cases h; assumption) | cases h
theorem tyS_of {cs : List Str} {g : Gc} {F H : Hp} {d : D} {v : V} {a : String} (w : WF g F H) (r : Rep g F d v) (h : tyN d = some a) : TyS g.K H v (.type a) := .inl (ty_of w r h)
theorem tyS_ins {g : Gc} {F H : Hp} {cn : Str} {fs : List D} {v : V} (w : WF g F H) (r : Rep g F (.ins cn fs) v) (k : ClI g.K g.mg cn) : ∃ C, g.mg cn = some (.ref C) ∧ TyS g.K H v (.ref C) := by
  obtain ⟨a, C, dx, vs, rfl, hm, hs, _⟩ := r.ins_at w
  obtain ⟨C', e1, hc, hi, _⟩ := k.ex
  rw [hm] at e1
  cases e1
  exact ⟨C, hm, .inr ⟨a, C, dx, _, rfl, rfl, hs, hc, hi⟩⟩
theorem re_isX {cs : List Str} {e : Expr} {x : Str} {nm : String} {m : En → R D} {p p2 pos : Pos} (hK : c.K = X.K) (kc : Cls c.K c.mg cs) (hg : Gl X "isinstance") (hm : X.mg "isinstance" = none) (hv : bootBuiltins "isinstance" = some (.builtin "isinstance")) (hg2 : Gl X x) (hm2 : X.mg x = none) (hv2 : bootBuiltins x = some (.type nm)) (he : PE X e (tE c W m))
    (hx : x ≠ "__name__" := by decide) (hdx : (x == ("__debug__" : Str)) = false := by decide) (hs0 : starEach [e, .Name x p2] X.env = (false, eval e X.env) :: starEach [.Name x p2] X.env := by rfl) (hs1 : starEach [.Name x p2] X.env = (false, eval (.Name x p2) X.env) :: starEach [] X.env := by rfl)
    (hpl : (backTo pos (starEach [.Name x p2] X.env)).any (·.1) = false := by rfl) : PE X (.Call (.Name "isinstance" p) [e, .Name x p2] [] pos) (tE c W (mIsX cs nm m)) :=
  (pe_callB call_isiS hg hm hv (pa_cons he (pa_cons (pe_bltn (v := .ty nm) hg2 hm2 hv2 rfl hx hdx) pa_nil hs1) hs0) (by decide) (by decide) hs0 hpl).imp fun σ H Q ⟨env, F, S, q⟩ => by
    unfold mIsX at q
    refine tM_bind S q fun d e v H1 F1 S1 s1 r1 h1 => ?_
    split at h1
    · rename_i b hb
      have base : ∀ a, tyN d = some a → isX cs nm d = (if ["bool", "int", "str", "tuple", "list", "dict"].contains nm = true then some (subN a nm) else none) := fun a ha => by
        cases d <;> first | (cases ha; rfl) | cases ha
      cases ht : tyN d with
      | some a =>
        rw [base a ht] at hb
        by_cases hn : ["bool", "int", "str", "tuple", "list", "dict"].contains nm = true
        · rw [if_pos hn] at hb
          have hb'' := Option.some.inj hb
          subst hb''
          refine ⟨v, .ty nm, .type a, .type nm, subN a nm, rfl, .ty nm, ?_, kit_of ht hn, h1 _ H1 F1 S1 (Same.refl _) .bl⟩
          rw [← hK]
          exact .inl (ty_of S1.wf r1 ht)
        · rw [if_neg hn] at hb
          cases hb
      | none =>
        cases d with
        | ins c' fs =>
          have hb' : (if (cs.contains c' && ["bool", "int", "str", "tuple", "list", "dict"].contains nm) = true then some false else none) = some b := hb
          by_cases hcc : (cs.contains c' && ["bool", "int", "str", "tuple", "list", "dict"].contains nm) = true
          · rw [if_pos hcc] at hb'
            rw [Bool.and_eq_true] at hcc
            have hb'' := Option.some.inj hb'
            subst hb''
            have ki := kc.all c' (by simpa using hcc.1)
            obtain ⟨C, hmC, ty⟩ := tyS_ins S1.wf r1 ki
            refine ⟨v, .ty nm, .ref C, .type nm, false, rfl, .ty nm, hK ▸ ty, hK ▸ kit_ins ki hmC hcc.2, h1 _ H1 F1 S1 (Same.refl _) .bl⟩
          · rw [if_neg hcc] at hb'
            cases hb'
        | _ => first | (cases hb; done) | (cases ht; done)
    · exact h1.elim
theorem re_isC {cs : List Str} {e : Expr} {cn : Str} {C : Addr} {m : En → R D} {p p2 pos : Pos} (hK : c.K = X.K) (hM : c.mg = X.mg) (kc : Cls c.K c.mg cs) (hcn : cn ∈ cs) (hg : Gl X "isinstance") (hm : X.mg "isinstance" = none) (hv : bootBuiltins "isinstance" = some (.builtin "isinstance")) (hg2 : Gl X cn) (hm2 : X.mg cn = some (.ref C)) (he : PE X e (tE c W m))
    (hdx : (cn == ("__debug__" : Str)) = false := by decide) (hs0 : starEach [e, .Name cn p2] X.env = (false, eval e X.env) :: starEach [.Name cn p2] X.env := by rfl) (hs1 : starEach [.Name cn p2] X.env = (false, eval (.Name cn p2) X.env) :: starEach [] X.env := by rfl)
    (hpl : (backTo pos (starEach [.Name cn p2] X.env)).any (·.1) = false := by rfl) : PE X (.Call (.Name "isinstance" p) [e, .Name cn p2] [] pos) (tE c W (mIsC cs cn m)) :=
  (pe_callB call_isiS hg hm hv (pa_cons he (pa_cons (pe_glob (v := .ref C) hg2 hm2 rfl hdx) pa_nil hs1) hs0) (by decide) (by decide) hs0 hpl).imp fun σ H Q ⟨env, F, S, q⟩ => by
    unfold mIsC at q
    refine tM_bind S q fun d e v H1 F1 S1 s1 r1 h1 => ?_
    have ki := kc.all cn hcn
    have hmc : c.mg cn = some (.ref C) := by rw [hM]; exact hm2
    split at h1
    · rename_i b hb
      have base : ∀ a, tyN d = some a → isC cs cn d = some false := fun a ha => by
        cases d <;> first | (cases ha; rfl) | cases ha
      cases ht : tyN d with
      | some a =>
        rw [base a ht] at hb
        have hb'' := Option.some.inj hb
        subst hb''
        refine ⟨v, .ref C, .type a, .ref C, false, rfl, .own C, ?_, hK ▸ kit_ty2 ki hmc ht, h1 _ H1 F1 S1 (Same.refl _) .bl⟩
        rw [← hK]
        exact .inl (ty_of S1.wf r1 ht)
      | none =>
        cases d with
        | ins c' fs =>
          have hb' : (if cs.contains c' = true then some (c' == cn) else none) = some b := hb
          by_cases hcc : cs.contains c' = true
          · rw [if_pos hcc] at hb'
            have hb'' := Option.some.inj hb'
            subst hb''
            have hin : c' ∈ cs := by simpa using hcc
            have kj := kc.all c' hin
            obtain ⟨C', hmC, ty⟩ := tyS_ins S1.wf r1 kj
            refine ⟨v, .ref C, .ref C', .ref C, (c' == cn), rfl, .own C, hK ▸ ty, ?_, h1 _ H1 F1 S1 (Same.refl _) .bl⟩
            rw [← hK]
            cases hcb : c' == cn with
            | true =>
              have := eq_of_beq hcb
              subst this
              rw [hmc] at hmC
              cases hmC
              unfold PySem.W.kitOne
              rw [if_pos (beq_self_eq_true _)]
            | false =>
              obtain ⟨hne, hs⟩ := kc.two c' hin cn hcn hcb C' C hmC hmc
              obtain ⟨C2, e1, hc, _, htp, _⟩ := ki.ex
              rw [hmc] at e1
              cases e1
              exact kit_own hc htp (fun z => hne (by cases z; rfl)) hs
          · rw [if_neg hcc] at hb'
            cases hb'
        | _ => first | (cases hb; done) | (cases ht; done)
    · exact h1.elim
end
end PV

/-! the classes of a law -/
namespace PV
open PySem PySem.Spec PyProof.Rows L2
/-- the statements of a class body -/
def clsBody : Stmt → List Stmt
  | .ClassDef _ _ _ body _ _ _ _ _ _ _ => body
  | _ => []
section
variable {K : PySem.W.Frag} {mg : Str → Option Value}
theorem cls_one {a : Str} (k : ClI K mg a) : Cls K mg [a] where
  all := fun cn h => by
    cases List.mem_singleton.mp h
    exact k
  two := fun cn h cm h' e => by
    cases List.mem_singleton.mp h
    cases List.mem_singleton.mp h'
    rw [beq_self_eq_true] at e
    cases e
theorem cls_two {a b : Str} {A B : Addr} (ka : ClI K mg a) (kb : ClI K mg b) (ha : mg a = some (.ref A)) (hb : mg b = some (.ref B)) (hne : A ≠ B) (h1 : PySem.W.subIn K (.ref A) (.ref B) = some false) (h2 : PySem.W.subIn K (.ref B) (.ref A) = some false) : Cls K mg [a, b] where
  all := fun cn h => by
    rcases List.mem_cons.mp h with rfl | h
    · exact ka
    · cases List.mem_singleton.mp h
      exact kb
  two := fun cn h cm h' e C D e1 e2 => by
    rcases List.mem_cons.mp h with rfl | h
    · rcases List.mem_cons.mp h' with rfl | h'
      · rw [beq_self_eq_true] at e
        cases e
      · cases List.mem_singleton.mp h'
        rw [ha] at e1
        rw [hb] at e2
        cases e1
        cases e2
        exact ⟨hne, h1⟩
    · cases List.mem_singleton.mp h
      rcases List.mem_cons.mp h' with rfl | h'
      · rw [hb] at e1
        rw [ha] at e2
        cases e1
        cases e2
        exact ⟨Ne.symm hne, h2⟩
      · cases List.mem_singleton.mp h'
        rw [beq_self_eq_true] at e
        cases e
end
end PV

/-! a call of a local that holds a def -/
namespace PV
open PySem PySem.Spec PyProof.Rows L2
/-- one of the given defs, of n parameters -/
structure HeldG (P : Program) (w : World) (K : PySem.W.Frag) (mg : Str → Option Value) (base : Heap) (g : Gc) (k n : Nat) (x : Str) (fn : List D → Rf) : Prop where
  ex : ∃ (f : Addr) (fd : FuncData) (ps : List Str), g.mg x = some (.ref f) ∧ FnG P w K mg base (L2.CX P w) k f fd ps (spD g false n fn) ∧ PySem.W.keepIn K (.ref f) = true ∧ Binds K fd ps []
inductive TabG (P : Program) (w : World) (K : PySem.W.Frag) (mg : Str → Option Value) (base : Heap) (g : Gc) (k n : Nat) : List (Str × (List D → Rf)) → Prop
  | nil : TabG P w K mg base g k n []
  | cons {x : Str} {fn : List D → Rf} {t : List (Str × (List D → Rf))} : HeldG P w K mg base g k n x fn → TabG P w K mg base g k n t → TabG P w K mg base g k n ((x, fn) :: t)
def lookF (x : Str) : List (Str × (List D → Rf)) → Option (List D → Rf)
  | [] => none
  | (y, f) :: t => if (y == x) = true then some f else lookF x t
theorem TabG.get {P : Program} {w : World} {K : PySem.W.Frag} {mg : Str → Option Value} {base : Heap} {g : Gc} {k n : Nat} {x : Str} {fn : List D → Rf} : ∀ {t : List (Str × (List D → Rf))}, TabG P w K mg base g k n t → lookF x t = some fn → HeldG P w K mg base g k n x fn
  | _, .nil, e => by cases e
  | _, @TabG.cons _ _ _ _ _ _ _ _ y f t h r, e => by
    unfold lookF at e
    split at e
    · rename_i hy
      cases e
      rw [← eq_of_beq hy]
      exact h
    · exact r.get e
def fnD : D → Option Str
  | .fn x => some x
  | _ => none
def mCallV (tab : List (Str × (List D → Rf))) (i : Nat) (ms : List (En → R D)) : En → R D := fun env => match (PV.val env i).bind fnD with
  | some x => (match lookF x tab with
    | some f => mCall f ms env
    | none => .no)
  | none => .no
theorem heldG {P : Program} {w : World} {K : PySem.W.Frag} {mg : Str → Option Value} {base : Heap} {g : Gc} {k j n : Nat} {x : Str} {fn : List D → Rf} {f : Addr} {fd : FuncData} {ps : List Str} (F : FnG P w K mg base (L2.CX P w) j f fd ps (spD g false n fn)) (hj : j ≤ k) (hm : g.mg x = some (.ref f)) (hk : PySem.W.keepIn K (.ref f) = true) (hb : Binds K fd ps []) :
    HeldG P w K mg base g k n x fn := ⟨f, fd, ps, hm, F.mono hj, hk, hb⟩
section
variable {c : Cn} {W : WX} {X : Cx} {k n i : Nat} {x : Str} {p pos : Pos} {e : Expr} {es : List Expr} {ms : List (En → R D)} {tab : List (Str × (List D → Rf))}
theorem re_callV (T : TabG X.prog X.w X.K X.mg X.base c.toGc k n tab) (hr : RmG k X.A) (he : PE X (.Name x p) (tVar i)) (tk : Takes X W) (ha : PA X (e :: es) (tMs c W ms)) (hn : ms.length = n := by rfl)
    (hs : starEach (e :: es) X.env = (false, eval e X.env) :: starEach es X.env := by rfl) (hpl : (backTo pos (starEach es X.env)).any (·.1) = false := by rfl) :
    PE X (.Call (.Name x p) (e :: es) [] pos) (tE c W (mCallV tab i ms)) := by
  refine ⟨fun pins s σ H Q I q => ?_⟩
  obtain ⟨env, F, S, q⟩ := q
  unfold mCallV at q
  cases z : (PV.val env i).bind fnD with
  | none =>
    rw [z] at q
    exact q.elim
  | some y =>
    rw [z] at q
    dsimp only at q
    cases z2 : lookF y tab with
    | none =>
      rw [z2] at q
      exact q.elim
    | some fn =>
      rw [z2] at q
      dsimp only at q
      obtain ⟨f, fd, ps, hm, Fo, hk, hb⟩ := (T.get z2).ex
      obtain ⟨d, hd, hf⟩ := Option.bind_eq_some_iff.mp z
      have hd' : d = .fn y := by
        cases d <;> first | (cases hf; rfl) | cases hf
      subst hd'
      obtain ⟨v, g1, rv⟩ := S.val hd
      have hv : v = .ref f := by
        rcases rv with rv | ⟨_, _, rv⟩
        · cases rv with
          | fn m =>
            rw [hm] at m
            cases m
            rfl
          | lam m =>
            rw [hm] at m
            cases m
        · cases rv
      subst hv
      refine wpAny_Call_Name_kw (thn (he.run pins s σ H (fun v H1 => v = .ref f ∧ H1 = H) I ⟨.ref f, g1, rfl, rfl⟩) fun u s1 ⟨v, H1, I1, r1, q1⟩ => ?_)
      obtain ⟨rfl, rfl⟩ := q1
      cases r1
      refine PySem.W.callWith_K (h₀ := X.base) I.ok.mod.kin hk (thn (ha.run pos pins s1 σ _ _ I1 (call_ok hn ⟨env, F, S, q⟩)) fun us s2 ⟨vs, H2, I2, r, q⟩ => ⟨I2.kIn, ?_⟩) hs hpl
      exact run_fnG (E := WE W) Fo hr hb (passAt tk σ) I2 r q
end
end PV

/-! min, max of one list; three stores at once -/
namespace PV
open PySem PySem.Spec PyProof.Rows L2
def minL : List Int → Option Int
  | [] => none
  | [a] => some a
  | a :: r => (minL r).map fun m => if a ≤ m then a else m
def maxL : List Int → Option Int
  | [] => none
  | [a] => some a
  | a :: r => (maxL r).map fun m => if m ≤ a then a else m
theorem minL_ok : ∀ {ns : List Int} {m : Int}, minL ns = some m → m ∈ ns ∧ ∀ y ∈ ns, m ≤ y
  | [], _, h => by cases h
  | [a], _, h => by
    cases h
    exact ⟨.head _, fun y hy => by cases List.mem_singleton.mp hy; exact Int.le_refl _⟩
  | a :: b :: r, m, h => by
    unfold minL at h
    cases q : minL (b :: r) with
    | none =>
      rw [q] at h
      cases h
    | some k =>
      rw [q] at h
      obtain ⟨h1, h2⟩ := minL_ok q
      have e : (if a ≤ k then a else k) = m := Option.some.inj h
      by_cases hk : a ≤ k
      · rw [if_pos hk] at e
        subst e
        exact ⟨.head _, fun y hy => by
          rcases List.mem_cons.mp hy with rfl | hy
          · exact Int.le_refl _
          · exact Int.le_trans hk (h2 y hy)⟩
      · rw [if_neg hk] at e
        subst e
        exact ⟨.tail _ h1, fun y hy => by
          rcases List.mem_cons.mp hy with rfl | hy
          · omega
          · exact h2 y hy⟩
theorem maxL_ok : ∀ {ns : List Int} {m : Int}, maxL ns = some m → m ∈ ns ∧ ∀ y ∈ ns, y ≤ m
  | [], _, h => by cases h
  | [a], _, h => by
    cases h
    exact ⟨.head _, fun y hy => by cases List.mem_singleton.mp hy; exact Int.le_refl _⟩
  | a :: b :: r, m, h => by
    unfold maxL at h
    cases q : maxL (b :: r) with
    | none =>
      rw [q] at h
      cases h
    | some k =>
      rw [q] at h
      obtain ⟨h1, h2⟩ := maxL_ok q
      have e : (if k ≤ a then a else k) = m := Option.some.inj h
      by_cases hk : k ≤ a
      · rw [if_pos hk] at e
        subst e
        exact ⟨.head _, fun y hy => by
          rcases List.mem_cons.mp hy with rfl | hy
          · exact Int.le_refl _
          · exact Int.le_trans (h2 y hy) hk⟩
      · rw [if_neg hk] at e
        subst e
        exact ⟨.tail _ h1, fun y hy => by
          rcases List.mem_cons.mp hy with rfl | hy
          · omega
          · exact h2 y hy⟩
def oMin1 : List D → Option D
  | [d] => (((lstD d).bind intsD).bind minL).map .int
  | _ => none
def oMax1 : List D → Option D
  | [d] => (((lstD d).bind intsD).bind maxL).map .int
  | _ => none
section
variable {g : Gc}
theorem oa_min1 : OpA g (rMin g.K) oMin1 := fun ds vs d F H Q w R e k => by
  unfold oMin1 at e
  split at e
  · rename_i d1
    cases q : (lstD d1).bind intsD with
    | none =>
      rw [q] at e
      cases e
    | some ns =>
      rw [q] at e
      cases q2 : minL ns with
      | none =>
        have e' : (minL ns).map D.int = some d := e
        rw [q2] at e'
        cases e'
      | some m =>
        have e' : (minL ns).map D.int = some d := e
        rw [q2] at e'
        cases e'
        obtain ⟨x, rfl, h1⟩ := R.one
        obtain ⟨a, rfl, h2⟩ := lst_ints w h1 q
        obtain ⟨m1, m2⟩ := minL_ok q2
        refine ⟨a, ns, rfl, h2, List.length_pos_of_mem m1, fun m' k1 k2 => ?_⟩
        have : m' = m := Int.le_antisymm (k2 m m1) (m2 m' k1)
        subst this
        exact k _ H F (Go.refl w) .int
  · cases e
theorem oa_max1 : OpA g (rMax g.K) oMax1 := fun ds vs d F H Q w R e k => by
  unfold oMax1 at e
  split at e
  · rename_i d1
    cases q : (lstD d1).bind intsD with
    | none =>
      rw [q] at e
      cases e
    | some ns =>
      rw [q] at e
      cases q2 : maxL ns with
      | none =>
        have e' : (maxL ns).map D.int = some d := e
        rw [q2] at e'
        cases e'
      | some m =>
        have e' : (maxL ns).map D.int = some d := e
        rw [q2] at e'
        cases e'
        obtain ⟨x, rfl, h1⟩ := R.one
        obtain ⟨a, rfl, h2⟩ := lst_ints w h1 q
        obtain ⟨m1, m2⟩ := maxL_ok q2
        refine ⟨a, ns, rfl, h2, List.length_pos_of_mem m1, fun m' k1 k2 => ?_⟩
        have : m' = m := Int.le_antisymm (m2 m' k1) (k2 m m1)
        subst this
        exact k _ H F (Go.refl w) .int
  · cases e
end
section
variable {c : Cn} {W : WX} {X : Cx} {σ : L2.St} {H : Hp}
theorem par3_ok {Z : Ends} {i j l : Nat} {os : List Oe} (h3 : os.length = 3) (q : tS c W (sMul [i, j, l] os) Z σ H) : tPar3 i j l (tOesK c W os) Z σ H := by
  obtain ⟨env, F, S, q⟩ := q
  unfold sMul at q
  refine oes_ok os S (fun ds e vs H1 F1 z S1 s1 ro => ?_) (fun z => ?_) (fun x e z cls dx H' F' S' s' rx => ?_)
  · rw [z] at q
    have q : OkS c W F Z (if okIs e [i, j, l] = true ∧ [i, j, l].length = os.length then .nx (setAll e [i, j, l] os ds) else .no) := q
    split at q
    · rename_i hk
      have hl : vs.length = 3 := by rw [ro.len, h3]
      have S2 := setAll_ok [i, j, l] S1 ro hk.1 hk.2
      match vs, hl, S2 with
      | [u, v, w], _, S2 => exact ⟨u, v, w, rfl, q _ _ _ S2 s1⟩
    · exact q.elim
  · rw [z] at q
    exact q.elim
  · rw [z] at q
    exact q cls dx σ H' F' S' s' rx
theorem rs_par3 {i j l : Nat} {x y z : Str} {a b d : Expr} {os : List Oe} {px py pz pt pos : Pos} {kt k2 pt2} (hc : X.calm = true) (hN : X.N.Nodup) (hi : X.N[i]? = some x) (hj : X.N[j]? = some y) (hl : X.N[l]? = some z) (hij : i ≠ j) (hil : i ≠ l) (hjl : j ≠ l)
    (hx : X.env.scope.names.lookup x = some .local) (hy : X.env.scope.names.lookup y = some .local) (hz : X.env.scope.names.lookup z = some .local) (ha : PA X [a, b, d] (tOesK c W os)) (h3 : os.length = 3 := by rfl)
    (hw : swappedStores [.Tuple [.Name x px, .Name y py, .Name z pz] kt pt] (.Tuple [a, b, d] k2 pt2) X.env = pure (some [x, y, z]) := by rfl)
    (hs : swapsWithSole [.Tuple [.Name x px, .Name y py, .Name z pz] kt pt] (.Tuple [a, b, d] k2 pt2) pos.line X.env = pure false := by rfl) :
    PS X (.Assign [.Tuple [.Name x px, .Name y py, .Name z pz] kt pt] (.Tuple [a, b, d] k2 pt2) pos) (tS c W (sMul [i, j, l] os)) :=
  (ps_par3 hc hN hi hj hl hij hil hjl hx hy hz ha hw hs).imp fun Z σ H q => par3_ok h3 q
end
/-! ### is, is not of bools -/
def oIsB : List D → Option D
  | [.bl a, .bl b] => some (.bl (decide (a = b)))
  | _ => none
def oNotB : List D → Option D
  | [.bl a, .bl b] => some (.bl (!decide (a = b)))
  | _ => none
section
variable {g : Gc}
theorem oa_isB : OpA g (r2 rIsB) oIsB := fun ds vs d F H Q w R e k => by
  unfold oIsB at e
  split at e
  · cases e
    obtain ⟨x, y, rfl, h1, h2⟩ := R.two
    exact ⟨_, _, h1.bl_, h2.bl_, k _ H F (Go.refl w) .bl⟩
  · cases e
theorem oa_notB : OpA g (r2 rNotB) oNotB := fun ds vs d F H Q w R e k => by
  unfold oNotB at e
  split at e
  · cases e
    obtain ⟨x, y, rfl, h1, h2⟩ := R.two
    exact ⟨_, _, h1.bl_, h2.bl_, k _ H F (Go.refl w) .bl⟩
  · cases e
end
end PV

/-! {k: v, ..} -/
namespace PV
open PySem PySem.Spec PyProof.Rows L2
def evKV : List ((En → R D) × (En → R D)) → En → R (List (D × D))
  | [], env => .ok [] env
  | p :: r, env => (p.1 env).bind fun k e => (p.2 e).bind fun d e' => (evKV r e').bind fun ps e'' => .ok ((k, d) :: ps) e''
def keyed : List (D × D) → Option (List (Key × D))
  | [] => some []
  | p :: r => (keyD p.1).bind fun k => (keyed r).map fun t => (k, p.2) :: t
def mergeD (kvs more : List (Key × D)) : List (Key × D) := more.foldl (fun acc kv => putD acc kv.1 kv.2) kvs
def mDisp (ps : List ((En → R D) × (En → R D))) : En → R D := fun env => match evKV ps env with
  | .ok kds e => (match keyed kds with
    | some kvs => .ok (.dik (mergeD [] kvs)) e
    | none => .no)
  | _ => .no
inductive RepPr (g : Gc) (F : Hp) : List (D × D) → List (V × V) → Prop
  | nil : RepPr g F [] []
  | cons {p : D × D} {q : V × V} {ps : List (D × D)} {qs : List (V × V)} : Rep g F p.1 q.1 → Rep g F p.2 q.2 → RepPr g F ps qs → RepPr g F (p :: ps) (q :: qs)
theorem keyV {g : Gc} {F : Hp} {d : D} {v : V} {k : Key} (r : Rep g F d v) (h : keyD d = some k) : v = kV k := by
  cases d with
  | int i =>
    cases h
    cases r
    rfl
  | str z =>
    cases h
    cases r
    rfl
  | _ => cases h
theorem keyed_ok {g : Gc} {F : Hp} : ∀ {ps : List (D × D)} {qs : List (V × V)} {kvs : List (Key × D)}, RepPr g F ps qs → keyed ps = some kvs → ∃ ws : List (Key × V), qs = ws.map (fun kv => (kV kv.1, kv.2)) ∧ RepK g F kvs ws ∧ ws.length = ps.length
  | _, _, _, .nil, h => by
    cases h
    exact ⟨[], rfl, .nil, rfl⟩
  | _, _, _, @RepPr.cons _ _ p q ps qs h1 h2 t, h => by
    unfold keyed at h
    cases z : keyD p.1 with
    | none =>
      rw [z] at h
      cases h
    | some k =>
      rw [z] at h
      cases z2 : keyed ps with
      | none =>
        have h' : (keyed ps).map (fun t => (k, p.2) :: t) = some _ := h
        rw [z2] at h'
        cases h'
      | some r =>
        have h' : (keyed ps).map (fun t => (k, p.2) :: t) = some _ := h
        rw [z2] at h'
        cases h'
        obtain ⟨ws, e1, e2, e3⟩ := keyed_ok t z2
        refine ⟨(k, q.2) :: ws, ?_, .cons h2 e2, by simp [e3]⟩
        rw [List.map_cons, ← e1, ← keyV h1 z]
theorem RepK.merge {g : Gc} {F : Hp} : ∀ {more : List (Key × D)} {vs : List (Key × V)} {kvs : List (Key × D)} {ws : List (Key × V)}, RepK g F more vs → RepK g F kvs ws → RepK g F (mergeD kvs more) (mergeK ws vs)
  | _, _, _, _, .nil, q => q
  | _, _, kvs, ws, @RepK.cons _ _ k x xs v vs h t, q => (RepK.merge (kvs := putD kvs k x) (ws := putK ws k v) t (RepK.put h q) : RepK g F (mergeD (putD kvs k x) xs) (mergeK (putK ws k v) vs))
section
variable {c : Cn} {W : WX} {X : Cx} {σ : L2.St}
theorem pairs_ok {HK : Hp} {K : List (V × V) → Hp → Prop} : ∀ {ps : List ((En → R D) × (En → R D))} {env e : En} {H F : Hp} {kds : List (D × D)}, SR (c.kp HK) env σ H F → evKV ps env = .ok kds e →
    (k : ∀ vs H1 F1, SR (c.kp HK) e σ H1 F1 → Same F F1 → RepPr c.toGc F1 kds vs → K vs H1) → tPairs (ps.map fun p => ((Oe.st p.1).tk c W, (Oe.st p.2).tk c W)) σ H K
  | [], env, e, H, F, kds, S, h, k => by
    cases h
    exact k [] H F S (Same.refl _) .nil
  | p :: r, env, e, H, F, kds, S, h, k => by
    unfold evKV at h
    cases z1 : p.1 env with
    | ok k1 e1 =>
      rw [z1] at h
      have h : ((p.2 e1).bind fun d e' => (evKV r e').bind fun ps e'' => R.ok ((k1, d) :: ps) e'') = .ok kds e := h
      cases z2 : p.2 e1 with
      | ok d1 e2 =>
        rw [z2] at h
        have h : ((evKV r e2).bind fun ps e'' => R.ok ((k1, d1) :: ps) e'') = .ok kds e := h
        cases z3 : evKV r e2 with
        | ok ts e3 =>
          rw [z3] at h
          have h : R.ok ((k1, d1) :: ts) e3 = .ok kds e := h
          cases h
          refine ⟨HK, env, F, S, ?_⟩
          rw [z1]
          intro v1 H1 F1 S1 s1 r1
          refine ⟨HK, e1, F1, S1, ?_⟩
          rw [z2]
          intro v2 H2 F2 S2 s2 r2
          refine pairs_ok S2 z3 fun vs H3 F3 S3 s3 r3 => ?_
          exact k ((v1, v2) :: vs) H3 F3 S3 ((s1.trans s2).trans s3) (.cons ((r1 : Rep c.toGc F1 k1 v1).mono (s2.trans s3)) ((r2 : Rep c.toGc F2 d1 v2).mono s3) r3)
        | er x e3 =>
          rw [z3] at h
          cases h
        | no =>
          rw [z3] at h
          cases h
      | er x e2 =>
        rw [z2] at h
        cases h
      | no =>
        rw [z2] at h
        cases h
    | er x e1 =>
      rw [z1] at h
      cases h
    | no =>
      rw [z1] at h
      cases h
theorem re_disp {ps : List ((En → R D) × (En → R D))} {keys : List (Option Expr)} {values : List Expr} {pos : Pos} (hp : PPs X pos keys values (ps.map fun p => ((Oe.st p.1).tk c W, (Oe.st p.2).tk c W))) (hn : ps.length ≤ 15 := by decide) (hall : keys.all (·.isSome) = true := by rfl) (hl : keys.length = values.length := by rfl) (h0 : keys ≠ [] := by exact List.cons_ne_nil _ _)
    (h15 : keys.length ≤ 15 := by decide) : PE X (.Dict keys values pos) (tF c W (mDisp ps)) :=
  (pe_disp hp hall hl h0 h15).imp fun σ H Q ⟨env, F, S, q⟩ => by
    intro p nP
    have h0P : c.H0 p = none := S.h0 nP
    have hrP : c.ra ≠ some p := fun z => S.rtH p z nP
    have fP : F p = none := S.wf.sub.free nP
    have f0P : c.F0 p = none := S.gr.f.free fP
    have S1 := S.fresh (a := p) (o := .dK []) nP rfl
    have no : ∀ i, ¬ Own env σ i p := fun i h => (S.own_there h).1 nP
    have K1 := S1.keep upd_same fP h0P no
    unfold mDisp at q
    cases z : evKV ps env with
    | ok kds e =>
      rw [z] at q
      dsimp only at q
      cases z2 : keyed kds with
      | none =>
        rw [z2] at q
        exact q.elim
      | some kvs =>
        rw [z2] at q
        refine pairs_ok K1 z fun vs H2 F2 S2 s2 r2 => ?_
        obtain ⟨k1, k2, k3⟩ := S2.kept (fun ps z => by cases z) hrP f0P
        have S3 := S2.unkeep h0P hrP
        obtain ⟨ws, e1, rk, hlen⟩ := keyed_ok r2 z2
        have hlk : kds.length = ps.length := by
          have : ∀ {ps : List ((En → R D) × (En → R D))} {env e : En} {kds : List (D × D)}, evKV ps env = .ok kds e → kds.length = ps.length := by
            intro ps
            induction ps with
            | nil => intro env e kds h; cases h; rfl
            | cons p r ih =>
              intro env e kds h
              unfold evKV at h
              cases z1 : p.1 env with
              | ok k1 e1 =>
                rw [z1] at h
                have h : ((p.2 e1).bind fun d e' => (evKV r e').bind fun ps e'' => R.ok ((k1, d) :: ps) e'') = .ok kds e := h
                cases z2 : p.2 e1 with
                | ok d1 e2 =>
                  rw [z2] at h
                  have h : ((evKV r e2).bind fun ps e'' => R.ok ((k1, d1) :: ps) e'') = .ok kds e := h
                  cases z3 : evKV r e2 with
                  | ok ts e3 =>
                    rw [z3] at h
                    have h : R.ok ((k1, d1) :: ts) e3 = .ok kds e := h
                    cases h
                    simp [ih z3]
                  | er x e3 =>
                    rw [z3] at h
                    cases h
                  | no =>
                    rw [z3] at h
                    cases h
                | er x e2 =>
                  rw [z2] at h
                  cases h
                | no =>
                  rw [z2] at h
                  cases h
              | er x e1 =>
                rw [z1] at h
                cases h
              | no =>
                rw [z1] at h
                cases h
          exact this z
        refine ⟨k1, ws, e1, by rw [hlen, hlk]; exact hn, ?_⟩
        exact q _ _ F2 (S3.put k1 k2 h0P k3 (fun ps z => by cases z) (fun φ z => by cases z) rfl) s2 ⟨p, _, rfl, upd_same, k2, h0P, hrP, k3, .dik (rk.merge .nil)⟩
    | er x e =>
      rw [z] at q
      exact q.elim
    | no =>
      rw [z] at q
      exact q.elim
end
end PV

/-! own == and != of instances -/
namespace PV
open PySem PySem.Spec PyProof.Rows L2
/-- the class named cn has its own def for the name, at g -/
structure EqF (K : PySem.W.Frag) (mg : Str → Option Value) (cn nm : Str) (g : Addr) : Prop where
  ex : ∃ C, mg cn = some (.ref C) ∧ L2.SCls K C ∧ PySem.W.findIn K (.ref C) nm = some (some (.ref g)) ∧ PySem.W.isFn K (.ref g) = true
def mEqI (cn : Str) (cs : List Str) (fn : List D → Rf) (m1 m2 : En → R D) : En → R D := fun env => (m1 env).bind fun d1 e1 => (m2 e1).bind fun d2 e2 => match d1 with
  | .ins c' fs => if (c' == cn && ((tyN d2).isSome || insIn cs d2)) = true then (match fn [.ins c' fs, d2] with
    | .ok (.bl b) => .ok (.bl b) e2
    | _ => .no) else .no
  | _ => .no
where insIn (cs : List Str) : D → Bool
  | .ins c _ => cs.contains c
  | _ => false
section
variable {c : Cn} {W : WX} {X : Cx} {k : Nat} {fd : FuncData} {ps : List Str} {fn : List D → Rf} {cn : Str} {cs : List Str} {pos : Pos} {a b : Expr} {m1 m2 : En → R D} {g : Addr}
def rEqG (K : PySem.W.Frag) (C : Addr) (sp : Sp) : R2 := fun x y H Q => ∃ a dx vs tb, x = .ref a ∧ SlAt H a C dx vs ∧ TyS K H y tb ∧ PySem.W.notFirst K C tb = true ∧ sp [x, y] H (fun v H' => (∃ b, v = .bl b) ∧ Q v H') (fun _ _ _ => False)
theorem tyS_looks {pins : List (Addr × Obj)} {σ : L2.St} {H : Hp} {s : Shared} {y : V} {u tb : Value} (I : Inv X pins σ H s) (ry : RelV y u) (t : TyS X.K H y tb) : ∀ M : Model, PySem.W.Looks M s.heap (typeOf u) tb := by
  rcases t with t | ⟨a, C, dx, vs, rfl, rfl, hs, _⟩
  · obtain ⟨P, Z, p, _⟩ := L2.kit_of I ry t
    exact fun M => Z.ty M s.heap I.kIn p
  · cases (show u = Value.ref a from ry)
    obtain ⟨us, od, _, _, J⟩ := slAt_get I hs
    exact fun M => J.type
theorem op_eqI {op : CmpOp} {C : Addr} {sp : Sp} (hop : ∀ a b, compareOp op a b = richCompare op a b) (hs : PySem.W.findIn X.K (.ref C) (cmpInfo op).2.1 = some (some (.ref g))) (hf : PySem.W.isFn X.K (.ref g) = true)
    (F : FnG X.prog X.w X.K X.mg X.base (L2.CX X.prog X.w) k g fd ps sp) (hb : Binds X.K fd ps []) (hr : RmG k X.A) : OpR X (compareOp op) (rEqG X.K C sp) := by
  intro pins s σ H x y v u Q I rx ry h
  obtain ⟨a, dx, vs, tb, rfl, ha, ty, hn, q⟩ := h
  cases (show v = Value.ref a from rx)
  obtain ⟨us, od, _, _, J⟩ := slAt_get I ha
  obtain ⟨m, hF⟩ := I.fr
  rw [hop]
  refine PySem.W.cmp_K (op := op) (tb := tb) hr.r.units0 hF I.ok.mod.kin J (tyS_looks I ry ty _) hn hs hf ?_
  refine wpAny_mono (run_fnG (E := fun _ _ _ _ => False) (us := [.ref a, u]) (vs := [.ref a, y]) F hr hb (fun _ _ _ _ _ _ z => (cx_never z).elim) I (.cons rfl (.cons ry .nil)) q) (fun w s' z => ?_) fun _ _ x => x
  obtain ⟨z', H', I', rz, ⟨bb, eb⟩, qz⟩ := z
  subst eb
  cases (show w = Value.bool bb from rz)
  exact ⟨_, H', I', rz, qz⟩
theorem eqI_ok {C : Addr} {σ : L2.St} {H : Hp} {Q : VK} (hK : c.K = X.K) (kc : Cls c.K c.mg cs) (hcn : cn ∈ cs) (hm : c.mg cn = some (.ref C)) (q : tE c W (mEqI cn cs fn m1 m2) σ H Q) :
    tE c W m1 σ H fun x H1 => tE c W m2 σ H1 fun y H2 => rEqG X.K C (spD c.toGc false 2 fn) x y H2 Q := by
  obtain ⟨env, F, S, q⟩ := q
  unfold mEqI at q
  refine tM_bind S q fun d1 e1 v1 H1 F1 S1 s1 r1 h1 => ?_
  refine tM_bind S1 h1 fun d2 e2 v2 H2 F2 S2 s2 r2 h2 => ?_
  cases d1 with
  | ins c' fs =>
    dsimp only at h2
    split at h2
    · rename_i hc
      rw [Bool.and_eq_true] at hc
      have hcc := eq_of_beq hc.1
      subst hcc
      obtain ⟨a, C', dx, vs, rfl, hm', hs, r⟩ := (Rep.mono s2 r1).ins_at S2.wf
      rw [hm] at hm'
      cases hm'
      have ki := kc.all c' hcn
      obtain ⟨C2, e1', hsc, _, htc, _, hib⟩ := ki.ex
      rw [hm] at e1'
      cases e1'
      have ty : ∃ tb, TyS X.K H2 v2 tb ∧ PySem.W.notFirst X.K C tb = true := by
        rw [← hK]
        rcases Bool.or_eq_true _ _ ▸ hc.2 with ht | hi
        · obtain ⟨t, ht⟩ := Option.isSome_iff_exists.mp ht
          refine ⟨.type t, .inl (ty_of S2.wf r2 ht), ?_⟩
          have hsub : PySem.W.subIn c.K (.type t) (.ref C) = some false := by
            obtain ⟨b0, b1, b2, b3, b4, b5, b6⟩ := hib
            cases d2 <;> first | (cases ht; assumption) | cases ht
          unfold PySem.W.notFirst
          rw [hsub]
          exact Bool.or_true _
        · cases d2 with
          | ins c2 fs2 =>
            have hin : c2 ∈ cs := by
              have : cs.contains c2 = true := hi
              simpa using this
            obtain ⟨C3, hm3, ty3⟩ := tyS_ins S2.wf r2 (kc.all c2 hin)
            refine ⟨.ref C3, ty3, ?_⟩
            unfold PySem.W.notFirst
            cases hcb : c2 == c' with
            | true =>
              have := eq_of_beq hcb
              subst this
              rw [hm] at hm3
              cases hm3
              rw [beq_self_eq_true]
              rfl
            | false =>
              obtain ⟨_, hsub⟩ := kc.two c2 hin c' hcn hcb C3 C hm3 hm
              rw [hsub]
              exact Bool.or_true _
          | _ => cases hi
      obtain ⟨tb, t1, t2⟩ := ty
      refine ⟨a, dx, _, tb, rfl, hs, t1, t2, rfl, F2, _, S2.wf, .cons (Rep.mono s2 r1) (.cons r2 .nil), ?_⟩
      cases z : fn [.ins c' fs, d2] with
      | ok d' =>
        rw [z] at h2
        cases d' with
        | bl bb =>
          intro v H' F' g' rv
          have rv' := rlQ_rep rv
          cases rv'
          exact ⟨⟨bb, rfl⟩, h2 _ H' F' (S2.go g') g'.gr.f .bl⟩
        | _ => exact h2.elim
      | er x =>
        rw [z] at h2
        exact h2.elim
      | no =>
        rw [z] at h2
        exact h2.elim
    · exact h2.elim
  | _ => exact h2.elim
theorem re_eqI {op : CmpOp} {C : Addr} {nm : Str} (hop : ∀ a b, compareOp op a b = richCompare op a b) (hnm : (cmpInfo op).2.1 = nm) (hK : c.K = X.K) (kc : Cls c.K c.mg cs) (hcn : cn ∈ cs) (hm : c.mg cn = some (.ref C)) (kf : EqF c.K c.mg cn nm g)
    (F : FnG X.prog X.w X.K X.mg X.base (L2.CX X.prog X.w) k g fd ps (spD c.toGc false 2 fn)) (hb : Binds X.K fd ps []) (hr : RmG k X.A) (ha : PE X a (tE c W m1)) (hb2 : PE X b (tE c W m2)) (hmk : behindInMarks op b = false) :
    PE X (.Compare a [op] [b] pos) (tE c W (mEqI cn cs fn m1 m2)) := by
  obtain ⟨C', e1, _, e3, e4⟩ := kf.ex
  rw [hm] at e1
  cases e1
  rw [hK] at e3 e4
  exact (pe_cmpR (op_eqI hop (by rw [hnm]; exact e3) e4 F hb hr) ha hb2 hmk).imp fun σ H Q q => eqI_ok hK kc hcn hm q
theorem rt_eqI {op : CmpOp} {C : Addr} {nm : Str} (hop : ∀ a b, compareOp op a b = richCompare op a b) (hnm : (cmpInfo op).2.1 = nm) (hK : c.K = X.K) (kc : Cls c.K c.mg cs) (hcn : cn ∈ cs) (hm : c.mg cn = some (.ref C)) (kf : EqF c.K c.mg cn nm g)
    (F : FnG X.prog X.w X.K X.mg X.base (L2.CX X.prog X.w) k g fd ps (spD c.toGc false 2 fn)) (hb : Binds X.K fd ps []) (hr : RmG k X.A) (ha : PE X a (tE c W m1)) (hb2 : PE X b (tE c W m2)) (hmk : behindInMarks op b = false) :
    PT X (.Compare a [op] [b] pos) (tT c W (mT (mEqI cn cs fn m1 m2))) := by
  obtain ⟨C', e1, _, e3, e4⟩ := kf.ex
  rw [hm] at e1
  cases e1
  rw [hK] at e3 e4
  exact (pt_cmpR (op_eqI hop (by rw [hnm]; exact e3) e4 F hb hr) ha hb2 hmk).imp fun σ H Q q => eqI_ok hK kc hcn hm (tT_ok q)
end
end PV

/-! defs that hand back something new, or what no container is in: own containers may be lent to them -/
namespace PV
open PySem PySem.Spec PyProof.Rows L2
def runW (n : Nat) (m : En → Rs) (ds : List D) : Rf := match m (startE n ds) with
  | .rt d _ => .ok d
  | .er x _ => .er x
  | _ => .no
def rlW (g : Gc) (H F' H' : Hp) (d : D) (v : V) : Prop := (∃ a o, v = .ref a ∧ H' a = some o ∧ F' a = none ∧ H a = none ∧ RepO g F' d o) ∨ (imm d = true ∧ Rep g F' d v)
def spW (g : Gc) (n : Nat) (f : List D → Rf) : Sp := fun vs H Q E => vs.length = n ∧ ∃ F ds, WF g F H ∧ Reps g F ds vs ∧ (match f ds with
  | .ok d => ∀ v H' F', Go g F H F' H' → rlW g H F' H' d v → Q v H'
  | .er x => ∀ cls dx H' F', Go g F H F' H' → RepX g F' x cls dx → E cls dx H'
  | .no => False)
section
variable {P : Program} {w : World} {K : PySem.W.Frag} {mg : Str → Option Value} {base : Heap}
theorem rlR_w {g : Gc} {ra : Option Addr} {H0 F0 : Hp} {e : En} {σ : L2.St} {F H : Hp} {d : D} {v : V} (h : rlR ⟨g, ra, H0, F0, true⟩ e σ F H d v) : rlW g H0 F H d v := by
  unfold rlR at h
  rw [if_pos rfl] at h
  rcases h with ⟨a, o, h1, h2, h3, h4, _, _, h5⟩ | h
  · exact .inl ⟨a, o, h1, h2, h3, h4, h5⟩
  · exact .inr h
theorem okW {g : Gc} {x qual : Str} {st : Stmt} {f : Addr} {fd : FuncData} {N ps : List Str} {k : Nat} {m : En → Rs} (Fn : Fun K x qual st f fd) (S : FnScope N ps (defScope st)) (hps : ps.length ≤ N.length)
    (hbody : ∀ (cdv : Value) (A : Around) (outer : List Env) (s : Shared) (H : Hp) (E : XK) (H0 F0 : Hp), fd.code = cdv → RmG k (A.deeper (envOfC qual (defScope st) s.heap.objs.size f cdv)) →
      PSs (cxOf (L2.CX P w) P w K mg base N qual (defScope st) f cdv A outer s H E) (defBody st) (tS ⟨g, none, H0, F0, true⟩ (wD E) m)) :
    FnG P w K mg base (L2.CX P w) (k + 1) f fd ps (spW g ps.length (runW N.length m)) := by
  refine okG Fn S (fun vs H Q E h => h.1) (fun cdv A outer s H vs Q E hcv hr h => ?_)
  obtain ⟨hl, F, ds, wf, r, h⟩ := h
  refine ⟨_, hbody cdv A outer s H E H F hcv hr, startE N.length ds, F, SR.start wf r (by omega), ?_⟩
  unfold runW at h
  cases z : m (startE N.length ds) with
  | rt d e =>
    rw [z] at h
    exact fun v σ H' F' S' s' rv => h v H' F' ⟨S'.gr, S'.there⟩ (rlR_w rv)
  | er x e =>
    rw [z] at h
    exact fun cls dx σ H' F' S' s' rx => h cls dx H' F' ⟨S'.gr, S'.there⟩ rx
  | nx e =>
    rw [z] at h
    exact h.elim
  | bk e =>
    rw [z] at h
    exact h.elim
  | ct e =>
    rw [z] at h
    exact h.elim
  | no =>
    rw [z] at h
    exact h.elim
end
/-- own containers lent for the time of the call: the result is new, its parts hold no container; or no container is in it -/
def mCallLW (f : List D → Rf) (os : List Od) : En → R D := fun env => (evA os env).bind fun ds e => if ds.any lockO = true then .no else match f ds with
  | .ok d => if (imm d || immO d) = true then .ok d e else .no
  | .er x => if x.fs.isNone = true then .er x e else .no
  | .no => .no
section
variable {c : Cn} {W : WX} {X : Cx} {k : Nat} {f : Addr} {fd : FuncData} {ps : List Str} {n : Nat} {fn : List D → Rf} {x : Str} {p pos : Pos} {e : Expr} {es : List Expr} {os : List Od}
theorem callLW_ok {σ : L2.St} {H : Hp} {Q : VK} (hn : ∀ env e ds, evA os env = .ok ds e → ds.length = n) (q : tE c W (mCallLW fn os) σ H Q) : tOds c W os σ H fun vs H1 => spW c.toGc n fn vs H1 Q (WE W σ) := by
  obtain ⟨env, F, S, q⟩ := q
  have q2 : Okp c W σ F (rlE c) Q ((evA os env).bind fun ds e => if ds.length = n then (if ds.any lockO = true then .no else match fn ds with
    | .ok d => if (imm d || immO d) = true then .ok d e else .no
    | .er x => if x.fs.isNone = true then .er x e else .no
    | .no => .no) else .no) := by
    cases z : evA os env with
    | ok ds e =>
      unfold mCallLW at q
      rw [z] at q
      show Okp c W σ F (rlE c) Q (if ds.length = n then _ else _)
      rw [if_pos (hn env e ds z)]
      exact q
    | er x e =>
      unfold mCallLW at q
      rw [z] at q
      exact q
    | no =>
      unfold mCallLW at q
      rw [z] at q
      exact q
  refine tOdsA os S q2 fun ds e vs H1 F1 S1 s1 r1 h1 => ?_
  split at h1
  · rename_i hl
    have hlk : ds.any lockO = false := by
      cases q : ds.any lockO with
      | false => rfl
      | true =>
        rw [q, if_pos rfl] at h1
        exact h1.elim
    rw [hlk, if_neg Bool.false_ne_true] at h1
    refine ⟨by rw [r1.length, hl], noTbl H1, ds, S1.wf.all.1, r1.all S1.wf hlk, ?_⟩
    -- the frozen part of ours behind the call
    have back : ∀ {H' F' : Hp}, Go c.toGc (noTbl H1) H1 F' H' → ∃ F'', Go c.toGc F1 H1 F'' H' ∧ (∀ b, H1 b = none → F'' b = F' b) ∧ ∀ a u, F' a = some u → tupy u = true → F'' a = some u := fun {H' F'} g' => by
      obtain ⟨fu, hfu⟩ : ∃ fu : Hp, ∀ b, fu b = if (H1 b).isSome = true then F1 b else F' b := ⟨fun b => if (H1 b).isSome = true then F1 b else F' b, fun _ => rfl⟩
      have at1 : ∀ b, H1 b ≠ none → fu b = F1 b := fun b hb => by
        rw [hfu, if_pos]
        cases q : H1 b with
        | none => exact absurd q hb
        | some u => rfl
      have at2 : ∀ b, H1 b = none → fu b = F' b := fun b hb => by
        rw [hfu, hb, if_neg]
        simp
      have tp : ∀ a u, F' a = some u → tupy u = true → fu a = some u := fun a u e t => by
        by_cases hb : H1 a = none
        · rw [at2 a hb]; exact e
        · rw [at1 a hb]
          have e2 := (g'.gr.new a hb).symm.trans e
          exact S1.wf.tup a u (noTbl_of e2).1 t
      refine ⟨fu, ⟨⟨⟨fun b u e => ?_, fun b u e t => ?_, fun b ps e => ?_, g'.gr.wf.tab⟩, fun b u e => ?_, g'.gr.h, at1⟩, g'.th⟩, at2, tp⟩
      · by_cases hb : H1 b = none
        · rw [at2 b hb] at e
          exact g'.gr.wf.sub _ _ e
        · rw [at1 b hb] at e
          exact g'.gr.h b u (S1.wf.sub _ _ e) (fun ps z => by subst z; exact S1.wf.nt _ _ e) (by simp)
      · exact tp b u (g'.gr.wf.tup b u e t) t
      · by_cases hb : H1 b = none
        · rw [at2 b hb] at e
          exact g'.gr.wf.nt _ _ e
        · rw [at1 b hb] at e
          exact S1.wf.nt _ _ e
      · rw [at1 b (by rw [S1.wf.sub _ _ e]; simp)]
        exact e
    cases z : fn ds with
    | ok d =>
      rw [z] at h1
      intro v H' F' g' rv
      obtain ⟨F'', g'', nw, tp⟩ := back g'
      have h1' : Okp c W σ F1 (rlE c) Q (if (imm d || immO d) = true then .ok d e else .no) := h1
      split at h1'
      · rename_i hi
        rcases rv with ⟨a, o, ev, a1, a2, a3, a4⟩ | ⟨hi2, rv⟩
        · have hio : immO d = true := by
            cases z3 : immO d with
            | true => rfl
            | false =>
              rw [z3, Bool.or_false] at hi
              exfalso
              cases a4 <;> cases hi
          have ro : RepO c.toGc F'' d o := a4.imm tp hio
          have hF : F'' a = none := by rw [nw a a3]; exact a2
          obtain ⟨S3, s3⟩ := (S1.go g'').freeze a1 hF (S1.h0 a3) (fun i h => (S1.own_there h).1 a3) ro
          have hl : lockO d = false := by
            cases d <;> first | rfl | cases hio
          rw [ev]
          exact h1' _ H' _ S3 (g''.gr.f.trans s3) ((ro.mono s3).rep hl upd_same)
        · exact h1' v H' F'' (S1.go g'') g''.gr.f (rv.imm tp hi2)
      · exact h1'.elim
    | er y =>
      rw [z] at h1
      intro cls dx H' F' g' rx
      obtain ⟨F'', g'', nw, tp⟩ := back g'
      have h1' : Okp c W σ F1 (rlE c) Q (if y.fs.isNone = true then .er y e else .no) := h1
      split at h1'
      · rename_i hi
        refine h1' cls dx H' F'' (S1.go g'') g''.gr.f ?_
        obtain ⟨C, e1, e2, e3⟩ := rx
        refine ⟨C, e1, e2, ?_⟩
        cases q : y.fs with
        | none =>
          rw [q] at e3
          exact e3
        | some fs =>
          rw [q] at hi
          cases hi
      · exact h1'.elim
    | no =>
      rw [z] at h1
      exact h1
  · exact h1.elim
theorem re_callLW (Fo : FnG X.prog X.w X.K X.mg X.base (L2.CX X.prog X.w) k f fd ps (spW c.toGc n fn)) (hr : RmG k X.A) (hg : Gl X x) (hm : X.mg x = some (.ref f)) (hk : PySem.W.keepIn X.K (.ref f) = true) (hb : Binds X.K fd ps []) (tk : Takes X W)
    (ha : PA X (e :: es) (tOds c W os)) (hn : os.length = n := by rfl) (hdb : (x == ("__debug__" : Str)) = false := by decide) (he : starEach (e :: es) X.env = (false, eval e X.env) :: starEach es X.env := by rfl) (hpl : (backTo pos (starEach es X.env)).any (·.1) = false := by rfl) :
    PE X (.Call (.Name x p) (e :: es) [] pos) (tE c W (mCallLW fn os)) :=
  (pe_callG (E := WE W) Fo hr hg hm hk hb (fun σ => passAt tk σ) ha hdb he hpl).imp fun σ H Q q => callLW_ok (fun env e ds h => (evA_len os h).trans hn) q
/-- x[::-1], new -/
theorem re_revF {e : Expr} {o : Od} {k : Nat} {p1 p2 p3 pos : Pos} (hK : c.K = X.K) (he : PE X e (o.t c W)) : PE X (.Subscript e (.Slice none none (some (.UnaryOp .USub (.Constant (.int 1) k p1) p2)) p3) pos) (tF c W (mOp oRevL [o])) :=
  (pe_revL he).imp fun σ H Q q => by
    rw [← hK]
    refine tOpF_ok (os := [o]) (r := r1 fun x H1 Q => ∃ a xs, x = .ref a ∧ SqL c.K H1 a xs ∧ ∀ p, H1 p = none → Q (.ref p) (upd H1 p (.lst xs.reverse))) (fun ds vs d F H Q w R e k => ?_) q
    unfold oRevL at e
    split at e
    · rename_i d1
      obtain ⟨x, rfl, h1⟩ := R.one
      cases q1 : lstD d1 with
      | none =>
        rw [q1] at e
        cases e
      | some xs =>
        rw [q1] at e
        cases e
        obtain ⟨a, vs, rfl, h2, h4⟩ := h1.list_ w q1
        exact ⟨a, vs, rfl, h2, fun p n => k p _ n (.lst h4.rev)⟩
    · cases e
end
end PV

/-! {k: v for target in iter if ..} -/
namespace PV
open PySem PySem.Spec PyProof.Rows L2
def dcL (T : Tg) (t : En → R Bool) (mk mv : En → R PV.D) (vs : List Nat) : List PV.D → List (Key × PV.D) → En → R (List (Key × PV.D))
  | [], acc, e => .ok acc e
  | d :: r, acc, e => match bindT T d e with
    | none => .no
    | some e1 => (match t e1 with
      | .ok true e2 => (match mk e2 with
        | .ok kd e3 => (match mv e3 with
          | .ok y e4 => (match keyD kd with
            | some k => dcL T t mk mv vs r (putD acc k y) (wipeE e4 vs)
            | none => .no)
          | _ => .no)
        | _ => .no)
      | .ok false e2 => dcL T t mk mv vs r acc (wipeE e2 vs)
      | _ => .no)
def mDc (mi : En → R (List PV.D)) (T : Tg) (t : En → R Bool) (mk mv : En → R PV.D) (vs : List Nat) : En → R PV.D := fun env => (mi env).bind fun ds e => if ds.length ≤ lim then (dcL T t mk mv vs ds [] (wipeE e vs)).bind fun ys e' => .ok (.dik ys) (backE e e' vs) else .no
theorem putD_len (kvs : List (Key × PV.D)) (k : Key) (d : PV.D) : (putD kvs k d).length ≤ kvs.length + 1 := by
  unfold putD
  split
  · rw [List.length_map]
    exact Nat.le_succ _
  · simp
section
variable {c : Cn} {W : WX} {X : Cx} {σ : L2.St} {H : Hp}
theorem dc_ok {mi : En → R (List PV.D)} {T : Tg} {t : En → R Bool} {mk mv : En → R PV.D} {vs : List Nat} {Q : VK} (hT : okT vs T = true) (q : tF c W (mDc mi T t mk mv vs) σ H Q) : tDc (tI c W mi) (tGx c T) (tTx c t) (tEx c mk) (tEx c mv) vs σ H Q := by
  obtain ⟨env, F, S, q⟩ := q
  refine tM_bind S q fun ds e0 J H1 F1 S1 s1 r1 h1 => ?_
  split at h1
  · rename_i hlen
    intro Dd nD
    have h0D : c.H0 Dd = none := S1.h0 nD
    have hrD : c.ra ≠ some Dd := fun z => S1.rtH Dd z nD
    have f0D : c.F0 Dd = none := S1.gr.f.free (S1.wf.sub.free nD)
    refine ⟨fun i n H' => n + i = ds.length ∧ ∃ e F' acc vacc, SR c e (wipe σ vs) H' F' ∧ Same F1 F' ∧ H' Dd = some (.dK vacc) ∧ F' Dd = none ∧ (∀ j, ¬ Own e (wipe σ vs) j Dd) ∧ RepK c.toGc F' acc vacc ∧ acc.length ≤ i ∧
      Okp c W σ F' (rlF c) Q ((dcL T t mk mv vs (ds.drop i) acc e).bind fun ys e' => .ok (.dik ys) (backE e0 e' vs)), ⟨ds.length, by simp, ?_⟩, ?_⟩
    · have SW := S1.wipe vs
      exact ⟨wipeE e0 vs, F1, [], [], SW.fresh nD rfl, Same.refl _, upd_same, S1.wf.sub.free nD, fun j h => (SW.own_there h).1 nD, .nil, Nat.zero_le _, h1⟩
    · rintro i n H2 ⟨hn, e, F2, acc, vacc, S2, s2, hD, hFD, no, ra, hacc, q2⟩
      by_cases hi : i < ds.length
      · have hd : ds.drop i = ds[i] :: ds.drop (i + 1) := List.drop_eq_getElem_cons hi
        rw [hd] at q2
        unfold dcL at q2
        obtain ⟨g1, g2⟩ := r1.go i ds[i] F2 H2 (List.getElem?_eq_getElem hi) s2 S2.wf
        refine .inr ⟨g1, fun H' => n - 1 + (i + 1) = ds.length ∧ ∃ e F' acc vacc, SR c e (wipe σ vs) H' F' ∧ Same F1 F' ∧ H' Dd = some (.dK vacc) ∧ F' Dd = none ∧ (∀ j, ¬ Own e (wipe σ vs) j Dd) ∧ RepK c.toGc F' acc vacc ∧ acc.length ≤ i + 1 ∧
          Okp c W σ F' (rlF c) Q ((dcL T t mk mv vs (ds.drop (i + 1)) acc e).bind fun ys e' => .ok (.dik ys) (backE e0 e' vs)), fun H' h => ⟨n - 1, by omega, h⟩, fun x H3 y => ?_⟩
        obtain ⟨F3, go3, r3⟩ := g2 x H3 y
        have S3 := S2.go go3
        have hD3 : H3 Dd = some (.dK vacc) := go3.gr.h Dd _ hD (fun ps z => by cases z) (by simp)
        have hF3 : F3 Dd = none := (go3.gr.new Dd (by rw [hD]; simp)).trans hFD
        have K3 := S3.keep hD3 hF3 h0D no
        refine ⟨upd c.H0 Dd (.dK vacc), e, F3, ds[i], K3, r3, ?_⟩
        cases z : bindT T ds[i] e with
        | none =>
          rw [z] at q2
          exact q2.elim
        | some e1 =>
          rw [z] at q2
          intro σ4 H4 F4 S4 s4 o4
          have ew : wipe σ4 vs = wipe σ vs := (wipe_off hT o4).trans (wipe_wipe σ vs)
          refine ⟨ew, upd c.H0 Dd (.dK vacc), e1, F4, S4, ?_⟩
          have s24 : Same F2 F4 := go3.gr.f.trans s4
          have fin : ∀ {e5 : En} {H5 F5 : Hp}, SR (c.kp (upd c.H0 Dd (.dK vacc))) e5 σ4 H5 F5 → SR c (wipeE e5 vs) (wipe σ vs) H5 F5 ∧ H5 Dd = some (.dK vacc) ∧ F5 Dd = none ∧ ∀ j, ¬ Own (wipeE e5 vs) (wipe σ vs) j Dd := fun {e5 H5 F5} S5 => by
            obtain ⟨k1, k2, k3⟩ := S5.kept (fun ps z => by cases z) hrD f0D
            have S6 := (S5.unkeep h0D hrD).wipe vs
            rw [ew] at S6
            exact ⟨S6, k1, k2, fun j h => k3 j (own_wipe (by rw [ew]; exact h))⟩
          have q3 : Okp c W σ F2 (rlF c) Q ((match t e1 with
            | .ok true e2 => (match mk e2 with
              | .ok kd e3 => (match mv e3 with
                | .ok y e4 => (match keyD kd with
                  | some k => dcL T t mk mv vs (ds.drop (i + 1)) (putD acc k y) (wipeE e4 vs)
                  | none => .no)
                | _ => .no)
              | _ => .no)
            | .ok false e2 => dcL T t mk mv vs (ds.drop (i + 1)) acc (wipeE e2 vs)
            | _ => .no).bind fun ys e' => .ok (.dik ys) (backE e0 e' vs)) := q2
          cases zt : t e1 with
          | ok b e2 =>
            rw [zt] at q3
            intro b' H5 F5 S5 s5 eb
            have eb' : b = b' := eb
            subst eb'
            have s25 : Same F2 F5 := s24.trans s5
            cases b with
            | true =>
              refine iteT ⟨upd c.H0 Dd (.dK vacc), e2, F5, S5, ?_⟩
              cases zm : mk e2 with
              | ok kd e3 =>
                simp only [zm] at q3
                intro vk H6 F6 S6 s6 rk
                refine ⟨upd c.H0 Dd (.dK vacc), e3, F6, S6, ?_⟩
                cases zv : mv e3 with
                | ok y e4 =>
                  simp only [zv] at q3
                  cases zk : keyD kd with
                  | none =>
                    simp only [zk] at q3
                    exact q3.elim
                  | some k =>
                    simp only [zk] at q3
                    intro v H7 F7 S7 s7 rv
                    obtain ⟨f1, f2, f3, f4⟩ := fin S7
                    have s27 : Same F2 F7 := (s25.trans s6).trans s7
                    have hl : vacc.length < lim := by rw [← ra.length]; omega
                    have hk : vk = kV k := keyV (g := c.toGc) rk zk
                    have pl := putD_len acc k y
                    refine ⟨vacc, k, hk, f2, lim_lt hl, by omega, wipeE e4 vs, F7, putD acc k y, putK vacc k v, f1.put f2 f3 h0D f4 (fun ps z => by cases z) (fun φ z => by cases z) rfl, s2.trans s27, upd_same, f3, f4, RepK.put rv (ra.mono s27), by omega, ?_⟩
                    exact Okp.mono q3 s27
                | er x e4 =>
                  simp only [zv] at q3
                  exact q3.elim
                | no =>
                  simp only [zv] at q3
                  exact q3.elim
              | er x e3 =>
                simp only [zm] at q3
                exact q3.elim
              | no =>
                simp only [zm] at q3
                exact q3.elim
            | false =>
              obtain ⟨f1, f2, f3, f4⟩ := fin S5
              refine iteF ⟨by omega, wipeE e2 vs, F5, acc, vacc, f1, s2.trans s25, f2, f3, f4, ra.mono s25, by omega, Okp.mono q3 s25⟩
          | er x e2 =>
            rw [zt] at q3
            exact q3.elim
          | no =>
            rw [zt] at q3
            exact q3.elim
      · have ei : i = ds.length := by omega
        subst ei
        rw [List.drop_length] at q2
        unfold dcL at q2
        have q2' : Okp c W σ F2 (rlF c) Q (.ok (.dik acc) (backE e0 e vs)) := q2
        exact .inl ⟨r1.stop F2 H2 s2 S2.wf, q2' (.ref Dd) H2 F2 (S1.back S2 s2) (Same.refl _) ⟨Dd, .dK vacc, rfl, hD, hFD, h0D, hrD, fun j h => no j (own_back h), .dik ra⟩⟩
  · exact h1.elim
theorem re_dc {kx vx tg iter : Expr} {ifs : List Expr} {scope : Scope} {pos : Pos} {mi : En → R (List PV.D)} {T : Tg} {t : En → R Bool} {mk mv : En → R PV.D} {own : List (Str × Nat)} (hc : X.calm = true) (hN : X.N.Nodup) (ok : BlkOk X.N X.env.scope scope own) (hT : okT (own.map (·.2)) T = true) (hi : PI X tg iter (tI c W mi))
    (hg : ∀ (s : Shared) (H : Hp) (C : Addr) (cl : List (Str × Addr)) (fp : List Addr), PG (X.blk s H scope (compEnvC scope cl C X.env) fp) tg (tGx c T)) (ht : ∀ (s : Shared) (H : Hp) (C : Addr) (cl : List (Str × Addr)) (fp : List Addr), PTs (X.blk s H scope (compEnvC scope cl C X.env) fp) ifs (tTx c t))
    (hk : ∀ (s : Shared) (H : Hp) (C : Addr) (cl : List (Str × Addr)) (fp : List Addr), PE (X.blk s H scope (compEnvC scope cl C X.env) fp) kx (tEx c mk))
    (he : ∀ (s : Shared) (H : Hp) (C : Addr) (cl : List (Str × Addr)) (fp : List Addr), PE (X.blk s H scope (compEnvC scope cl C X.env) fp) vx (tEx c mv)) (hs : ∀ x, foldedSetIterable iter X.env x = pure x := by intro _; rfl) :
    PE X (.DictComp kx vx [⟨tg, iter, ifs, 0⟩] scope pos) (tF c W (mDc mi T t mk mv (own.map (·.2)))) := (pe_dc hc hN hi ok hg ht hk he hs).imp fun σ H Q q => dc_ok hT q
end
end PV

namespace PV
open PySem PySem.Spec PyProof.Rows L2
theorem cls_nil {K : PySem.W.Frag} {mg : Str → Option Value} : Cls K mg [] where
  all := fun _ h => by cases h
  two := fun _ h => by cases h
theorem fnG_no {P : Program} {w : World} {K : PySem.W.Frag} {mg : Str → Option Value} {base : Heap} {CX : CXT} {g : Gc} {fr : Bool} {k n : Nat} {f : Addr} {fd : FuncData} {ps : List Str} (hl : ps.length = n) : FnG P w K mg base CX k f fd ps (spD g fr n (fun _ => .no)) :=
  ⟨fun vs H Q E h => h.1.trans hl.symm, fun A outer s H args us vs Q E _ _ _ _ q => by
    obtain ⟨_, _, _, _, _, q⟩ := q
    exact q.elim⟩
end PV

/-! x[k] op= e, x an own list or dict -/
namespace PV
open PySem PySem.Spec PyProof.Rows L2
theorem get_list {X : Cx} : PGet X (rIxL X.K) := by
  intro pins s σ H x y v u Q I rx ry h
  obtain ⟨p, xs, i, z, rfl, rfl, hq, he, q⟩ := h
  cases rx
  obtain ⟨t, rfl⟩ := ry
  obtain ⟨its, r, pl, hz⟩ := I.list hq
  obtain ⟨j, h1, h2, h3, h4, h5⟩ := atI_get he
  obtain ⟨w, ew, rw'⟩ := r.get h2
  have hl := r.length
  have hn := line63
  have fin : EP X pins σ Q w s := ⟨z, H, I, rw', q⟩
  by_cases h0 : 0 ≤ i
  · have hj : i.toNat = j := by
      rw [seqIndex_of h0 h5] at h1
      exact Option.some.inj h1
    exact wpAny_getItem_list pl.isList h0 (by omega) (by rw [hj]; simpa using ew) fin
  · have hj : (i + (its.toArray.size : Int)).toNat = j := by
      rw [seqIndex_neg (by omega) h4] at h1
      rw [List.size_toArray, ← hl]
      exact Option.some.inj h1
    exact wpAny_getItem_list_neg pl.isList (by omega) (by rw [List.size_toArray] <;> omega) (by omega) (by rw [hj]; simpa using ew) fin
def getL : D → List D → Option D
  | .int i, xs => L2.atI xs i
  | _, _ => none
def sAugL (i : Nat) (f : List D → Option D) (mk me : En → R D) : En → Rs := fun env => match val env i with
  | none => .no
  | some _ => (mk env).bs fun k e1 => match ownV e1 i with
    | some (.lst xs) => (match getL k xs with
      | some old => (me e1).bs fun d e2 => match f [old, d] with
        | some y => (match ownV e2 i with
          | some (.lst ys) => (match kSetIx ys k y with
            | some zs => .nx (setV e2 i (.lst zs))
            | none => .no)
          | _ => .no)
        | none => .no
      | none => .no)
    | _ => .no
def sAugD (i : Nat) (f : List D → Option D) (mk me : En → R D) : En → Rs := fun env => match val env i with
  | none => .no
  | some _ => (mk env).bs fun k e1 => match ownV e1 i with
    | some (.dik xs) => (match (keyD k).bind (valD xs) with
      | some old => (me e1).bs fun d e2 => match f [old, d] with
        | some y => (match ownV e2 i with
          | some (.dik ys) => (match kSub (.dik ys) k y with
            | some z => .nx (setV e2 i z)
            | none => .no)
          | _ => .no)
        | none => .no
      | none => .no)
    | _ => .no
def isDk : Option D → Bool
  | some (.dik _) => true
  | _ => false
def sAugK (i : Nat) (f : List D → Option D) (mk me : En → R D) : En → Rs := fun env => if isDk (val env i) = true then sAugD i f mk me env else sAugL i f mk me env
section
variable {c : Cn} {W : WX} {X : Cx} {env : En} {σ : L2.St} {H F : Hp}
theorem own_eq {i : Nat} {e : En} {u : V} {b : Addr} (h : σ[i]? = some (some u)) (k : Own e σ i b) : u = .ref b := by
  have e1 := k.1
  rw [h] at e1
  cases e1
  rfl
theorem augL_ok {Z : Ends} {i : Nat} {r : R2} {f : List D → Option D} {mk me : En → R D} (hf : OpA c.toGc (r2 r) f) (q : tS c W (sAugL i f mk me) Z σ H) : tAugS (tVar i) (tE c W mk) (tE c W me) (rIxL c.K) r L2.rSetL Z σ H := by
  obtain ⟨env, F, S, q⟩ := q
  unfold sAugL at q
  split at q
  · exact q.elim
  · rename_i d0 hv
    obtain ⟨u, g1, _⟩ := S.val hv
    refine ⟨u, g1, ?_⟩
    refine tM_bs S q fun k e1 y H1 F1 S1 s1 r1 h1 => ?_
    split at h1
    · rename_i xs z1
      obtain ⟨a, o, ow, k1, k2, k3, k4⟩ := S1.own_at z1
      have ev := own_eq g1 ow
      subst ev
      cases k3 with
      | @lst _ vs rx =>
        split at h1
        · rename_i old ho
          cases r1 with
          | @int n =>
            obtain ⟨v, hv1, hv2⟩ := rx.atI (i := n) ho
            refine ⟨a, vs, n, v, rfl, rfl, SqL.of k1, hv1, ?_⟩
            refine tM_bs S1 h1 fun d e2 w H2 F2 S2 s2 r2' h2 => ?_
            split at h2
            · rename_i y' hy
              refine hf [old, d] [v, w] y' F2 H2 _ S2.wf (.cons (.st (hv2.mono s2)) (.cons (.st r2') .nil)) hy fun nv H3 F3 g3 rn => ?_
              have S3 := S2.go g3
              have h3 := OkS.mono h2 g3.gr.f
              split at h3
              · rename_i ys z2
                obtain ⟨b, o2, ow2, j1, j2, j3, j4⟩ := S3.own_at z2
                have eb := own_eq g1 ow2
                cases eb
                have j3' := j3
                cases j3 with
                | @lst _ ws ry =>
                  split at h3
                  · rename_i zs hz
                    unfold kSetIx at hz
                    have hz' : (ixN ys.length n).map (fun j => ys.set j y') = some zs := hz
                    cases q1 : ixN ys.length n with
                    | none =>
                      rw [q1] at hz'
                      cases hz'
                    | some j =>
                      rw [q1] at hz'
                      cases hz'
                      exact ⟨a, ws, n, j, rfl, rfl, j1, by rw [← ry.length]; exact q1, h3 σ _ F3 (S3.wr z2 ow2 j1 j2 j3' (.lst (ry.set rn j))) (Same.refl _)⟩
                  · exact h3.elim
              · exact h3.elim
            · exact h2.elim
          | _ => cases ho
        · exact h1.elim
    · exact h1.elim
theorem augD_ok {Z : Ends} {i : Nat} {r : R2} {f : List D → Option D} {mk me : En → R D} (hf : OpA c.toGc (r2 r) f) (q : tS c W (sAugD i f mk me) Z σ H) : sDAug (tVar i) (tE c W mk) (tE c W me) r Z σ H := by
  obtain ⟨env, F, S, q⟩ := q
  unfold sAugD at q
  split at q
  · exact q.elim
  · rename_i d0 hv
    obtain ⟨u, g1, _⟩ := S.val hv
    refine ⟨u, g1, ?_⟩
    refine tM_bs S q fun k e1 y H1 F1 S1 s1 r1 h1 => ?_
    split at h1
    · rename_i xs z1
      obtain ⟨a, o, ow, k1, k2, k3, k4⟩ := S1.own_at z1
      have ev := own_eq g1 ow
      subst ev
      cases k3 with
      | @dik _ vs rx =>
        split at h1
        · rename_i old ho
          cases qk : keyD k with
          | none =>
            rw [qk] at ho
            cases ho
          | some ky =>
            rw [qk] at ho
            obtain ⟨v, hv1, hv2⟩ := (rx.val ky).1 old ho
            refine ⟨a, v, rfl, .inl ⟨vs, ky, .inl k1, keyD_ok qk (.st r1 : Rep1 _ F1 H1 _ _), hv1.symm⟩, ?_⟩
            refine tM_bs S1 h1 fun d e2 w H2 F2 S2 s2 r2' h2 => ?_
            split at h2
            · rename_i y' hy
              refine hf [old, d] [v, w] y' F2 H2 _ S2.wf (.cons (.st (hv2.mono s2)) (.cons (.st r2') .nil)) hy fun nv H3 F3 g3 rn => ?_
              have S3 := S2.go g3
              have h3 := OkS.mono h2 g3.gr.f
              split at h3
              · rename_i ys z2
                obtain ⟨b, o2, ow2, j1, j2, j3, j4⟩ := S3.own_at z2
                have eb := own_eq g1 ow2
                cases eb
                have j3' := j3
                cases j3 with
                | @dik _ ws ry =>
                  split at h3
                  · rename_i zs hz
                    have hz' : (if ys.length < lim then (keyD k).map fun k => D.dik (putD ys k y') else none) = some zs := hz
                    split at hz'
                    · rename_i hl
                      rw [qk] at hz'
                      cases hz'
                      exact ⟨_, .inl ⟨ws, ky, j1, keyD_ok qk (.st ((r1.mono s2).mono g3.gr.f) : Rep1 _ F3 H3 _ _), lim_lt (by rw [← ry.length]; exact hl), rfl⟩, h3 σ _ F3 (S3.wr z2 ow2 j1 j2 j3' (.dik (ry.put rn))) (Same.refl _)⟩
                    · cases hz'
                  · exact h3.elim
              · exact h3.elim
            · exact h2.elim
        · exact h1.elim
    · exact h1.elim
theorem rs_augK {op : Operator} {i : Nat} {r : R2} {f : List D → Option D} {mk me : En → R D} {a idx e : Expr} {tpos pos : Pos} (hK : c.K = X.K) (hu : X.A.units + 64 < cLine) (ho : PE X a (tVar i)) (hi : PE X idx (tE c W mk)) (hop : OpR X (inplaceOp op) r) (hf : OpA c.toGc (r2 r) f) (he : PE X e (tE c W me))
    (ha : ∀ ov iv new, augStore idx ov iv new = (do holding [new, ov, iv] (setItem ov iv new); release [new, ov, iv] []; pure .next) := by intros; rfl) :
    PS X (.AugAssign (.Subscript a idx tpos) op e pos) (tS c W (sAugK i f mk me)) :=
  ((ps_augS ho hi get_list he hop set_list ha).or (ps_daug (by omega) ho hi he hop ha)).imp fun Z σ H ⟨env, F, S, q⟩ => by
    unfold sAugK at q
    split at q
    · exact .inr (augD_ok hf ⟨env, F, S, q⟩)
    · exact .inl (hK ▸ augL_ok hf ⟨env, F, S, q⟩)
end
end PV

/-! a lambda with parameters and no captured names, as a value; its call by a local name -/
namespace PV
open PySem PySem.Spec PyProof.Rows L2 LamX
theorem clo_none (cells : List (Str × Addr)) : ∀ (names : List (Str × NameKind)) (acc : List (Str × Addr)), (∀ y ∈ names, y.2 ≠ .free) → cloFrom cells names acc = acc
  | [], _, _ => rfl
  | (n, k) :: r, acc, h => by
    have hk : (k == NameKind.free) = false := by
      have := h (n, k) (List.mem_cons_self ..)
      cases k <;> first | rfl | exact absurd rfl this
    unfold cloFrom
    rw [hk, if_neg Bool.false_ne_true]
    exact clo_none cells r acc fun y hy => h y (List.mem_cons_of_mem _ hy)
theorem frz_ok {P : Program} {w : World} {H : Hp} {h : Heap} {a : Addr} {u : Obj} (e : h.get? a = some u) : ObjOk P w H h a (.frz u (.own a)) := ⟨e, ⟨u, e⟩⟩
section
variable {X : Cx} {pins : List (Addr × Obj)} {σ : L2.St} {H : Hp} {s : Shared}
/-- the lambda's object is made and tracked -/
theorem lam_make4 {T : List (Addr × Str)} {c P : Addr} {params : Arguments} {body : Expr} {scope : Scope} {pos : Pos} {E : Value → Shared → Prop} {Q : Value → Shared → Prop} (I : Inv X pins σ H s) (TB : TabB X.base X.mg c P) (hcode : X.env.code = .ref c)
    (hm : (P, X.env.qual ++ "<lambda>") ∈ T) (hu : ∀ p ∈ T, p.1 = P → p.2 = X.env.qual ++ "<lambda>") (hT : Tabs T H) (hdef : defaultsOf params X.env = ([], [])) (hn : ∀ y ∈ scope.names, y.2 ≠ .free)
    (h : ∀ (f c' : Addr) (pm ctv : Value) (H1 : Hp) (s' : Shared), LamNew H H1 → Tabs T H1 → H1 f = none → H1 c' = some (CodeO c' (X.env.qual ++ "<lambda>")) →
      Inv X pins σ (upd H1 f (.frz (LamU ⟨X.env.qual ++ "<lambda>", params, body, scope⟩ pm c' ctv) (.own f))) s' → Q (.ref f) s') :
    wpAny (model X.prog X.w) X.A (eval (.Lambda params body scope pos) X.env) Q E s := by
  have hclo : closureFor scope X.env = pure [] := by
    have := closure_ok (scope := scope) (env := X.env) fun y hy z => absurd z (hn y hy)
    rw [clo_none _ _ _ hn] at this
    exact this
  obtain ⟨ps, hP, ht, ha⟩ := hT _ hm
  have tabAt : s.heap.get? P = some { cls := .none, data := .fields ps } := I.hok P _ hP
  refine PySem.W.kla_eval hdef ?_
  cases told : codeAmong pos ps.toList with
  | some cv =>
    obtain ⟨c', rfl, hco⟩ := ha pos cv told
    refine PySem.W.kla_makeFunctionHit (mg := X.mg) (c := c) (P := P) (ps := ps) hclo I.ok.glob (I.mod.glob.keeps I.bk) hcode (TB.code.keeps I.bk) tabAt ht told (TB.bm.keeps I.bk) fun ctv h' tk hx hsz => ?_
    refine h h'.objs.size c' ((X.mg "__name__").getD .none) ctv H _ (LamNew.refl H) hT (I.hok.fresh hsz) hco ?_
    exact I.laid (t' := tk) (fun b o e => Heap.get?_push_of_some _ (hx b o e)) hsz (frz_ok (Heap.get?_push_size _ rfl))
  | none =>
    refine PySem.W.kla_makeFunction (mg := X.mg) (c := c) (P := P) (ps := ps) hclo I.ok.glob (I.mod.glob.keeps I.bk) hcode (TB.code.keeps I.bk) tabAt ht told TB.gP (TB.bm.keeps I.bk) fun c' ctv h' tk hx hge hlt hrec htb => ?_
    obtain ⟨_, oc, vs, t, e2, hoc, hd, hv⟩ := hrec
    cases e2
    have nC : H c' = none := I.hok.fresh hge
    have nPc : P ≠ c' := ne_of_none hP nC
    have I1 := inv_table (t' := tk) (more := #[rawInt pos.line, rawInt pos.col, .ref c']) (h' := h') I hP hx htb hge ⟨oc, vs, t, hoc, hd, hv⟩
    have eL : (ps ++ #[rawInt pos.line, rawInt pos.col, .ref c']).toList = ps.toList ++ [rawInt pos.line, rawInt pos.col, .ref c'] := by simp
    have nw : LamNew H (upd (upd H P (.tbl (ps ++ #[rawInt pos.line, rawInt pos.col, .ref c']))) c' (CodeO c' (X.env.qual ++ "<lambda>"))) := by
      refine ⟨fun b o e n => ?_, fun b o e => ?_, fun b hb => upd_there b (upd_there b hb)⟩
      · rw [upd_ne (ne_of_none e nC), upd_ne (fun z => n ps (Option.some.inj (e.symm.trans (by rw [z]; exact hP))))]
        exact e
      · by_cases hb : b = c'
        · subst hb
          rw [upd_same] at e
          cases e
          exact .inr (.inr ⟨_, rfl⟩)
        · rw [upd_ne hb] at e
          by_cases hb2 : b = P
          · subst hb2
            rw [upd_same] at e
            cases e
            exact .inr (.inl ⟨_, rfl⟩)
          · rw [upd_ne hb2] at e
            exact .inl e
    have tabs : Tabs T (upd (upd H P (.tbl (ps ++ #[rawInt pos.line, rawInt pos.col, .ref c']))) c' (CodeO c' (X.env.qual ++ "<lambda>"))) := fun p hp => by
      obtain ⟨qs, a1, a2, a3⟩ := hT p hp
      by_cases hb : p.1 = P
      · rw [hu p hp hb, hb]
        refine ⟨_, by rw [upd_ne nPc, upd_same], by rw [eL]; exact PySem.TriplesOk_snoc _ _ _ _ ht, fun p' cv hcv => ?_⟩
        rw [eL] at hcv
        rcases among_app _ ht hcv with z | z
        · obtain ⟨c0, e1, e2⟩ := ha p' cv z
          exact ⟨c0, e1, nw.1 _ _ e2 codeO_ne⟩
        · exact ⟨c', z, upd_same⟩
      · refine ⟨qs, by rw [upd_ne (ne_of_none a1 nC), upd_ne hb]; exact a1, a2, fun p' cv hcv => ?_⟩
        obtain ⟨c0, e1, e2⟩ := a3 p' cv hcv
        exact ⟨c0, e1, nw.1 _ _ e2 codeO_ne⟩
    refine h h'.objs.size c' ((X.mg "__name__").getD .none) ctv _ _ nw tabs (I1.hok.fresh (Nat.le_refl _)) upd_same ?_
    exact I1.laid (t' := tk) (fun b o e => Heap.get?_push_of_some _ e) (Nat.le_refl _) (frz_ok (Heap.get?_push_size _ rfl))
end
/-- .. laid -/
theorem Go.lam {g : Gc} {F H : Hp} {a : Addr} {u : Obj} (w : WF g F H) (n : H a = none) (l : LamAt H u) : Go g F H (upd F a (.frz u (.own a))) (upd H a (.frz u (.own a))) := by
  have nF : F a = none := w.sub.free n
  have ne : ∀ b, H b ≠ none → b ≠ a := fun b hb z => hb (by rw [z]; exact n)
  refine ⟨⟨⟨fun b o e => ?_, fun b o e t => ?_, fun b ps e => ?_, w.tab.1.ext fun b o e => ?_, fun b v x e => ?_⟩, Same_upd nF, fun b o e _ _ => Same_upd n b o e, fun b hb => by rw [upd_ne (ne b hb)]⟩, upd_there⟩
  · by_cases hb : b = a
    · subst hb
      rw [upd_same] at e ⊢
      exact e
    · rw [upd_ne hb] at e ⊢
      exact w.sub _ _ e
  · by_cases hb : b = a
    · subst hb
      rw [upd_same] at e ⊢
      exact e
    · rw [upd_ne hb] at e ⊢
      exact w.tup _ _ e t
  · by_cases hb : b = a
    · subst hb
      rw [upd_same] at e
      cases e
    · rw [upd_ne hb] at e
      exact w.nt _ _ e
  · rw [upd_ne (ne b (by rw [e]; simp))]
    exact e
  · have k : ∀ c q, H c = some (CodeO c q) → upd H a (.frz u (.own a)) c = some (CodeO c q) := fun c q e => by
      rw [upd_ne (ne c (by rw [e]; simp))]
      exact e
    by_cases hb : b = a
    · subst hb
      rw [upd_same] at e
      cases e
      exact l.ext k
    · rw [upd_ne hb] at e
      exact (w.tab.2 b v x e).ext k
theorem re_lamV {X : Cx} {c : Cn} {W : WX} {nm : Str} {cA P : Addr} {params : Arguments} {body : Expr} {scope : Scope} {pos : Pos} (hmn : c.mg nm = none) (hlm : c.lm nm = some ⟨X.env.qual ++ "<lambda>", params, body, scope⟩)
    (TB : TabB X.base X.mg cA P) (hcode : X.env.code = .ref cA) (hmT : (P, X.env.qual ++ "<lambda>") ∈ c.T) (hu : ∀ p ∈ c.T, p.1 = P → p.2 = X.env.qual ++ "<lambda>") (hdef : defaultsOf params X.env = ([], [])) (hn : ∀ y ∈ scope.names, y.2 ≠ .free) :
    PE X (.Lambda params body scope pos) (tE c W (mK (.fn nm))) := by
  refine ⟨fun pins s σ H Q I ⟨env, F, S, q⟩ => ?_⟩
  refine lam_make4 I TB hcode hmT hu S.wf.tab.1 hdef hn fun f c' pm ctv H1 s' nw T1 nf hc I' => ?_
  have S1 := S.lamNew nw T1
  have g2 := Go.lam (u := LamU ⟨X.env.qual ++ "<lambda>", params, body, scope⟩ pm c' ctv) S1.wf nf ⟨c', _, pm, ctv, rfl, hc⟩
  exact ⟨.ref f, _, I', rfl, q _ _ _ (S1.go g2) g2.gr.f (.lam hmn hlm upd_same)⟩
/-! ### the call -/
/-- what the call of a lambda with the text L asks of its body -/
structure LamB (P : Program) (w : World) (K : PySem.W.Frag) (mg : Str → Option Value) (base : Heap) (g : Gc) (k : Nat) (N ps : List Str) (L : LamD) (m : En → R D) : Prop where
  S : FnScope N ps L.scope
  len : ps.length ≤ N.length
  bind : ∀ (pm cv ctv : Value) (us : List Value), us.length = ps.length → bindArgs (PySem.W.kla_fn "<lambda>" L.q L.params L.body L.scope [] pm cv ctv) ⟨us, []⟩ = pure (ps.zip us)
  body : ∀ (f : Addr) (cdv : Value) (A : Around) (outer : List Env) (s : Shared) (H : Hp) (E : XK) (H0 F0 : Hp), RmG k (A.deeper (envOfC L.q L.scope s.heap.objs.size f cdv)) →
    PE (cxOf (L2.CX P w) P w K mg base N L.q L.scope f cdv A outer s H E) L.body (tE ⟨g, none, H0, F0, false⟩ (wD E) m)
/-- what it computes -/
def runE (n : Nat) (m : En → R D) (ds : List D) : Rf := match m (startE n ds) with
  | .ok d _ => .ok d
  | .er x _ => .er x
  | .no => .no
section
variable {P : Program} {w : World} {K : PySem.W.Frag} {mg : Str → Option Value} {base : Heap}
theorem run_lam {g : Gc} {k : Nat} {N ps : List Str} {L : LamD} {m : En → R D} (B : LamB P w K mg base g k N ps L m) {f c' : Addr} {pm ctv : Value} {A : Around} {outer : List Env} {s : Shared} {H : Hp} {us : List Value} {vs : List V} {Q : VK} {E : XK}
    (hf : s.heap.get? f = some (LamU L pm c' ctv)) (hc : s.heap.CodeRec (.ref c') L.q) (hlim : s.heap.NoLimit) (hr : RmG (k + 1) A) (e0 : Env0 P w K mg base A outer s H) (r : Vals vs us) (h : spD g false ps.length (runE N.length m) vs H Q E) :
    codeAny (model P w) A (.call (.ref f) ⟨us, []⟩) (CR (L2.CX P w) outer P w H s Q E) s := by
  obtain ⟨hl, F, ds, wf, rr, h⟩ := h
  have lu : us.length = ps.length := by rw [← r.length, hl]
  refine PySem.W.kla_callFunE hr.depth hf rfl B.S.co B.S.gen rfl hc ?_
  rw [show (bindArgs (PySem.W.kla_fn "<lambda>" L.q L.params L.body L.scope [] pm (.ref c') ctv) ⟨us, []⟩) = pure (ps.zip us) from B.bind _ _ _ us lu]
  have hkind : ∀ y ∈ ps.zip us, L.scope.names.lookup y.1 = some .local ∨ (L.scope.names.lookup y.1 = some .cell ∧ ((cellsFrom (s.heap.objs.size + 1) L.scope.names []).lookup y.1).isSome = true) := fun ⟨n, v⟩ hy => by
    rcases B.S.par n (List.of_mem_zip hy).1 with q | q
    · exact .inl q
    · exact .inr ⟨q, PySem.W.cellsFrom_some _ _ _ (.inl q)⟩
  refine wpAny_pure (wpAny_newFunctionEnv_cells B.S.kind hkind fun env he s1 x => ?_)
  subst he
  refine ⟨hlim.keeps x.toInCall.keep, ?_⟩
  have I : Inv (cxOf (L2.CX P w) P w K mg base N L.q L.scope f (.ref c') A outer s H E) [] (L2.start N vs) H s1 := inv_start B.S hr.r.hd e0 hl r x
  have hb := B.body f (.ref c') A outer s H E H F (hr.deeper _)
  refine PySem.W.kla_codeExpr (wpAny_mono (hb.run [] s1 (L2.start N vs) H Q I ⟨startE N.length ds, F, SR.start wf rr (by have h1 := rr.length; have h2 := B.len; omega), ?_⟩) (fun v s' hq => ?_) fun e s' hq => hq)
  · unfold runE at h
    cases z : m (startE N.length ds) with
    | ok d e =>
      rw [z] at h
      exact fun v H' F' S' s' rv => h v H' F' ⟨S'.gr, S'.there⟩ (by unfold rlQ; rw [if_neg Bool.false_ne_true]; exact rv)
    | er y e =>
      rw [z] at h
      exact fun cls dx H' F' S' s' rx => h cls dx H' F' ⟨S'.gr, S'.there⟩ rx
    | no =>
      rw [z] at h
      exact h.elim
  · exact let ⟨w', H', J', rv, q⟩ := hq; ⟨w', H', J'.os, J'.bare, J'.base, J'.hok, rv, q⟩
end
/-- a def, or a lambda, by its name -/
inductive HeldV (P : Program) (w : World) (K : PySem.W.Frag) (mg : Str → Option Value) (base : Heap) (g : Gc) (k n : Nat) (x : Str) (fn : List D → Rf) : Prop
  | df : HeldG P w K mg base g k n x fn → HeldV P w K mg base g k n x fn
  | lam {N ps : List Str} {L : LamD} {m : En → R D} {j : Nat} : g.mg x = none → g.lm x = some L → LamB P w K mg base g j N ps L m → j + 1 ≤ k → ps.length = n → fn = runE N.length m → HeldV P w K mg base g k n x fn
inductive TabV (P : Program) (w : World) (K : PySem.W.Frag) (mg : Str → Option Value) (base : Heap) (g : Gc) (k n : Nat) : List (Str × (List D → Rf)) → Prop
  | nil : TabV P w K mg base g k n []
  | cons {x : Str} {fn : List D → Rf} {t : List (Str × (List D → Rf))} : HeldV P w K mg base g k n x fn → TabV P w K mg base g k n t → TabV P w K mg base g k n ((x, fn) :: t)
theorem TabV.get {P : Program} {w : World} {K : PySem.W.Frag} {mg : Str → Option Value} {base : Heap} {g : Gc} {k n : Nat} {x : Str} {fn : List D → Rf} : ∀ {t : List (Str × (List D → Rf))}, TabV P w K mg base g k n t → lookF x t = some fn → HeldV P w K mg base g k n x fn
  | _, .nil, e => by cases e
  | _, @TabV.cons _ _ _ _ _ _ _ _ y f t h r, e => by
    unfold lookF at e
    split at e
    · rename_i hy
      cases e
      rw [← eq_of_beq hy]
      exact h
    · exact r.get e
theorem codeAt_rec {X : Cx} {pins : List (Addr × Obj)} {σ : L2.St} {H : Hp} {s : Shared} {c : Addr} {q : Str} (I : Inv X pins σ H s) (h : H c = some (CodeO c q)) : s.heap.CodeRec (.ref c) q := by
  obtain ⟨⟨oc, vs, t, hoc, hd, hv⟩, _, _⟩ := I.hok c _ h
  exact ⟨c, oc, vs, t, rfl, hoc, hd, hv⟩
theorem lamU_inj {L M : LamD} {pm pm' ctv ctv' : Value} {c c' : Addr} (h : LamU L pm c ctv = LamU M pm' c' ctv') : c = c' ∧ L.q = M.q := by
  unfold LamU PySem.W.kla_obj PySem.W.kla_fn at h
  have h2 := congrArg Obj.data h
  injection h2 with h3
  exact ⟨Value.ref.inj (congrArg FuncData.code h3), congrArg FuncData.qualname h3⟩
section
variable {c : Cn} {W : WX} {X : Cx} {k n i : Nat} {x : Str} {p pos : Pos} {e : Expr} {es : List Expr} {ms : List (En → R D)} {tab : List (Str × (List D → Rf))}
theorem re_callW (hK : c.K = X.K) (T : TabV X.prog X.w X.K X.mg X.base c.toGc k n tab) (hr : RmG k X.A) (he : PE X (.Name x p) (tVar i)) (tk : Takes X W) (ha : PA X (e :: es) (tMs c W ms)) (hn : ms.length = n := by rfl)
    (hs : starEach (e :: es) X.env = (false, eval e X.env) :: starEach es X.env := by rfl) (hpl : (backTo pos (starEach es X.env)).any (·.1) = false := by rfl) :
    PE X (.Call (.Name x p) (e :: es) [] pos) (tE c W (mCallV tab i ms)) := by
  refine ⟨fun pins s σ H Q I q => ?_⟩
  obtain ⟨env, F, S, q⟩ := q
  unfold mCallV at q
  cases z : (PV.val env i).bind fnD with
  | none =>
    rw [z] at q
    exact q.elim
  | some y =>
    rw [z] at q
    dsimp only at q
    cases z2 : lookF y tab with
    | none =>
      rw [z2] at q
      exact q.elim
    | some fn =>
      rw [z2] at q
      dsimp only at q
      obtain ⟨d, hd, hf⟩ := Option.bind_eq_some_iff.mp z
      have hd' : d = .fn y := by
        cases d <;> first | (cases hf; rfl) | cases hf
      subst hd'
      obtain ⟨v, g1, rv⟩ := S.val hd
      have rv : Rep c.toGc F (.fn y) v := by
        rcases rv with rv | ⟨_, _, rv⟩
        · exact rv
        · cases rv
      cases T.get z2 with
      | df D0 =>
        obtain ⟨f, fd, ps, hm, Fo, hk, hb⟩ := D0.ex
        have hv : v = .ref f := by
          cases rv with
          | fn m =>
            rw [hm] at m
            cases m
            rfl
          | lam m =>
            rw [hm] at m
            cases m
        subst hv
        refine wpAny_Call_Name_kw (thn (he.run pins s σ H (fun v H1 => v = .ref f ∧ H1 = H) I ⟨.ref f, g1, rfl, rfl⟩) fun u s1 ⟨v, H1, I1, r1, q1⟩ => ?_)
        obtain ⟨rfl, rfl⟩ := q1
        cases r1
        refine PySem.W.callWith_K (h₀ := X.base) I.ok.mod.kin hk (thn (ha.run pos pins s1 σ _ _ I1 (call_ok hn ⟨env, F, S, q⟩)) fun us s2 ⟨vs, H2, I2, r, q⟩ => ⟨I2.kIn, ?_⟩) hs hpl
        exact run_fnG (E := WE W) Fo hr hb (passAt tk σ) I2 r q
      | @lam N ps L m j hmn hlm B hj hps hfn =>
        cases rv with
        | fn m' =>
          rw [hmn] at m'
          cases m'
        | @lam _ a L' pm b ctv m' l' hF =>
          rw [hlm] at l'
          cases l'
          refine wpAny_Call_Name_kw (thn (he.run pins s σ H (fun v H1 => v = .ref a ∧ H1 = H) I ⟨.ref a, g1, rfl, rfl⟩) fun u s1 ⟨v, H1, I1, r1, q1⟩ => ?_)
          obtain ⟨rfl, rfl⟩ := q1
          cases r1
          have at1 : s1.heap.get? a = some (LamU L pm b ctv) := (I1.hok a _ (S.wf.sub _ _ hF)).1
          refine PySem.W.callWith_F ⟨_, _, _, _, at1⟩ ?_ hs hpl
          -- the arguments, and what is frozen behind them
          refine thn (ha.run pos pins s1 σ _ (fun vs H2 => spD c.toGc false n fn vs H2 Q (WE W σ) ∧ H2 a = some (.frz (LamU L pm b ctv) (.own a)) ∧ H2 b = some (CodeO b L.q)) I1 ?_) fun us s2 ⟨vs, H2, I2, r, q, ha2, hb2⟩ => ?_
          · refine tMsA ms S q fun ds e vs H2 F2 S2 s2 r2 hl h2 => ⟨⟨by rw [r2.length_eq, hl, hn], F2, ds, S2.wf, r2, ?_⟩, S2.wf.sub _ _ (s2 _ _ hF), ?_⟩
            · cases z : fn ds with
              | ok d =>
                rw [z] at h2
                exact fun v H' F' g' rv => h2 v H' F' (S2.go g') g'.gr.f (rlQ_rep rv)
              | er x =>
                rw [z] at h2
                exact fun cls dx H' F' g' rx => h2 cls dx H' F' (S2.go g') g'.gr.f rx
              | no =>
                rw [z] at h2
                exact h2
            · obtain ⟨c2, M, pm2, ctv2, eu, hc2⟩ := S2.wf.tab.2 a _ _ (S2.wf.sub _ _ (s2 _ _ hF))
              obtain ⟨rfl, eq⟩ := lamU_inj eu
              rw [eq]
              exact hc2
          · have at2 : s2.heap.get? a = some (LamU L pm b ctv) := (I2.hok a _ ha2).1
            refine ⟨⟨_, _, _, _, at2⟩, wpAny_call (codeAny_mono (run_lam B at2 (codeAt_rec I2 hb2) I2.nolimit (hr.mono hj) I2.env0 r (by rw [hps, ← hfn]; exact q)) fun r s' hq => ?_)⟩
            match r, hq with
            | .error e, hq => exact passAt tk σ pins H2 s2 e s' I2 hq
            | .ok (.ret u), hq => exact I2.after hq
            | .ok .next, hq => exact False.elim hq
            | .ok .brk, hq => exact False.elim hq
            | .ok .cont, hq => exact False.elim hq
end
end PV

/-! the lambdas with parameters of a statement, in the order of the text -/
namespace PV
open PySem PySem.Spec PyProof.Rows L2
abbrev LamT := Arguments × Expr × Scope
def lamsE : Nat → Expr → List LamT
  | 0, _ => []
  | n + 1, e => match e with
    | .Lambda p b s _ => if p.args.isEmpty = true then [] else [(p, b, s)]
    | .Tuple es _ _ => es.flatMap (lamsE n)
    | .List es _ => es.flatMap (lamsE n)
    | .Call f es _ _ => lamsE n f ++ es.flatMap (lamsE n)
    | _ => []
def lamsS : Nat → Stmt → List LamT
  | 0, _ => []
  | n + 1, s => match s with
    | .FunctionDef _ _ b _ _ _ _ _ _ _ => b.flatMap (lamsS n)
    | .For _ i b _ _ => lamsE n i ++ b.flatMap (lamsS n)
    | .If _ b _ _ => b.flatMap (lamsS n)
    | .Expr e _ => lamsE n e
    | .Assign _ e _ => lamsE n e
    | .Return (some e) _ => lamsE n e
    | _ => []
end PV

/-! an expression that reads own containers as they stand, and makes something new (or no container) of them -/
namespace PV
open PySem PySem.Spec PyProof.Rows L2
def frz1 : Sl → Sl
  | .ow d => if (lockO d || !nslf d) = true then .no else .fz d
  | .rf d => if (lockO d || !nslf d) = true then .no else .fz d
  | s => s
/-- all that is own is held as it stands -/
def frzE (e : En) : En := e.map frz1
theorem frzE_get {e : En} {i : Nat} {s : Sl} (h : (frzE e)[i]? = some s) : ∃ t, e[i]? = some t ∧ frz1 t = s := by
  unfold frzE at h
  rw [List.getElem?_map] at h
  exact Option.map_eq_some_iff.mp h
def mLend (m : En → R D) : En → R D := fun env => match m (frzE env) with
  | .ok d _ => if immO d = true then .ok d env else .no
  | _ => .no
def mLendI (m : En → R D) : En → R D := fun env => match m (frzE env) with
  | .ok d _ => if imm d = true then .ok d env else .no
  | _ => .no
section
variable {c : Cn} {W : WX} {X : Cx} {env : En} {σ : L2.St} {H F : Hp}
theorem SR.lend (S : SR c env σ H F) : SR ⟨c.toGc, none, H, noTbl H, false⟩ (frzE env) σ H (noTbl H) where
  gr := Gr.refl S.wf.all.1
  there := fun _ h => h
  rt := fun a e => by cases e
  len := by
    unfold frzE
    rw [List.length_map]
    exact S.len
  fz := fun i d e => by
    obtain ⟨t, h1, h2⟩ := frzE_get e
    cases t with
    | no => cases h2
    | fz d' =>
      cases h2
      obtain ⟨v, k1, k2⟩ := S.fz i _ h1
      exact ⟨v, k1, k2.mono S.wf.all.2⟩
    | ow d' =>
      have h2' : (if (lockO d' || !nslf d') = true then Sl.no else .fz d') = .fz d := h2
      split at h2'
      · cases h2'
      · rename_i hl
        cases h2'
        obtain ⟨a, o, k1, k2, k3, k4, k5⟩ := S.ow i _ h1
        exact ⟨_, k1, (k5.mono S.wf.all.2).rep (Bool.or_eq_false_iff.mp (Bool.eq_false_iff.mpr hl)).1 (noTbl_some k2 k5.ntbl)⟩
    | rf d' =>
      have h2' : (if (lockO d' || !nslf d') = true then Sl.no else .fz d') = .fz d := h2
      split at h2'
      · cases h2'
      · rename_i hl
        cases h2'
        obtain ⟨a, o, k0, k1, k2, k3, k5⟩ := S.rf i _ h1
        exact ⟨_, k1, (k5.mono S.wf.all.2).rep (Bool.or_eq_false_iff.mp (Bool.eq_false_iff.mpr hl)).1 (noTbl_some k2 k5.ntbl)⟩
  ow := fun i d e => by
    obtain ⟨t, h1, h2⟩ := frzE_get e
    cases t <;> simp only [frz1] at h2 <;> first | cases h2 | (split at h2 <;> cases h2)
  rf := fun i d e => by
    obtain ⟨t, h1, h2⟩ := frzE_get e
    cases t <;> simp only [frz1] at h2 <;> first | cases h2 | (split at h2 <;> cases h2)
  apart := fun i j a ⟨_, d, h⟩ _ => by
    rcases h with h | h <;> obtain ⟨t, h1, h2⟩ := frzE_get h <;> cases t <;> simp only [frz1] at h2 <;> first | cases h2 | (split at h2 <;> cases h2)
/-- what is new behind the reading stands behind ours -/
theorem SR.lent (S : SR c env σ H F) {e' : En} {H' F' : Hp} (T : SR ⟨c.toGc, none, H, noTbl H, false⟩ e' σ H' F') : ∃ F'', Go c.toGc F H F'' H' ∧ (∀ b, H b = none → F'' b = F' b) ∧ ∀ a u, F' a = some u → tupy u = true → F'' a = some u := by
  obtain ⟨fu, hfu⟩ : ∃ fu : Hp, ∀ b, fu b = if (H b).isSome = true then F b else F' b := ⟨fun b => if (H b).isSome = true then F b else F' b, fun _ => rfl⟩
  have old : ∀ b, H b ≠ none → fu b = F b := fun b hb => by
    rw [hfu, if_pos]
    exact Option.isSome_iff_ne_none.mpr hb
  have new : ∀ b, H b = none → fu b = F' b := fun b hb => by
    rw [hfu, hb, if_neg]
    simp
  have tp : ∀ a u, F' a = some u → tupy u = true → fu a = some u := fun a u e t => by
    by_cases hb : H a = none
    · rw [new a hb]; exact e
    · rw [old a hb]
      exact S.wf.tup a u (noTbl_of ((T.gr.new a hb).symm.trans e)).1 t
  refine ⟨fu, ⟨⟨⟨fun b u e => ?_, fun b u e t => tp b u (T.wf.tup b u e t) t, fun b ps e => ?_, T.wf.tab⟩, fun b u e => ?_, fun b o e n r => T.gr.h b o e n (by simp), old⟩, T.there⟩, new, tp⟩
  · by_cases hb : H b = none
    · rw [new b hb] at e
      exact T.wf.sub _ _ e
    · rw [old b hb] at e
      exact T.gr.h b u (S.wf.sub _ _ e) (fun ps z => S.wf.nt b ps (z ▸ e)) (by simp)
  · by_cases hb : H b = none
    · rw [new b hb] at e
      exact T.wf.nt _ _ e
    · rw [old b hb] at e
      exact S.wf.nt _ _ e
  · rw [old b (by rw [S.wf.sub _ _ e]; simp)]
    exact e
theorem lendF_ok {m : En → R D} {Q : VK} (h : tF c W (mLend m) σ H Q) : tF ⟨c.toGc, none, H, noTbl H, false⟩ W m σ H Q := by
  obtain ⟨env, F, S, q⟩ := h
  refine ⟨frzE env, noTbl H, S.lend, ?_⟩
  unfold mLend at q
  cases z : m (frzE env) with
  | ok d e' =>
    rw [z] at q
    have q : Okp c W σ F (rlF c) Q (if immO d = true then .ok d env else .no) := q
    split at q
    · rename_i hi
      rintro v H' F' T sm ⟨a, o, ev, a1, a2, a3, _, _, a6⟩
      obtain ⟨F'', g, nw, tp⟩ := S.lent T
      have hn : H a = none := a3
      exact q v H' F'' (S.go g) g.gr.f ⟨a, o, ev, a1, (nw a hn).trans a2, S.h0 hn, fun z => S.rtH a z hn, fun i h => (S.own_there h).1 hn, a6.imm tp hi⟩
    · exact q.elim
  | er x e' =>
    rw [z] at q
    exact q.elim
  | no =>
    rw [z] at q
    exact q.elim
theorem re_lend {e : Expr} {m : En → R D} (he : ∀ H0 F0 : Hp, PE X e (tF ⟨c.toGc, none, H0, F0, false⟩ W m)) : PE X e (tF c W (mLend m)) :=
  ⟨fun pins s σ H Q I h => (he H (noTbl H)).run pins s σ H Q I (lendF_ok h)⟩
theorem mLend_lst {m : En → R D} (env : En) (d : D) (e : En) (h : mLend m env = .ok d e) : lockO d = false := by
  unfold mLend at h
  cases z : m (frzE env) with
  | ok d' e' =>
    rw [z] at h
    have h' : (if immO d' = true then R.ok d' env else .no) = .ok d e := h
    split at h'
    · rename_i hi
      cases h'
      cases d <;> first | rfl | cases hi
    · cases h'
  | er x e' =>
    rw [z] at h
    cases h
  | no =>
    rw [z] at h
    cases h
section
variable {i : Nat} {y : Str} {py : Pos} {elt tg iter : Expr} {ifs : List Expr} {scope : Scope} {pos spos : Pos} {mi : En → R (List PV.D)} {T : Tg} {t : En → R Bool} {m : En → R PV.D} {own : List (Str × Nat)}
abbrev lnt (c : Cn) (H0 F0 : Hp) : Cn := ⟨c.toGc, none, H0, F0, false⟩
theorem rs_lcLendZ (hc : X.calm = true) (hN : X.N.Nodup) (hy : X.N[i]? = some y) (hyl : X.env.scope.names.lookup y = some .local)
    (hsw : swapsWith (.ListComp elt [⟨tg, iter, ifs, 0⟩] scope pos) (some (.Name y py)) spos.line X.env = pure true) (ok : BlkOk X.N X.env.scope scope own) (hT : okT (own.map (·.2)) T = true) (hi : ∀ H0 F0, PI X tg iter (tI (lnt c H0 F0) W mi))
    (hg : ∀ (H0 F0 : Hp) (s : Shared) (H : Hp) (C : Addr) (cl : List (Str × Addr)) (fp : List Addr), PG (X.blk s H scope (compEnvC scope cl C X.env) fp) tg (tGx (lnt c H0 F0) T)) (ht : ∀ (H0 F0 : Hp) (s : Shared) (H : Hp) (C : Addr) (cl : List (Str × Addr)) (fp : List Addr), PTs (X.blk s H scope (compEnvC scope cl C X.env) fp) ifs (tTx (lnt c H0 F0) t))
    (he : ∀ (H0 F0 : Hp) (s : Shared) (H : Hp) (C : Addr) (cl : List (Str × Addr)) (fp : List Addr), PE (X.blk s H scope (compEnvC scope cl C X.env) fp) elt (tEx (lnt c H0 F0) m)) (hs : ∀ x, foldedSetIterable iter X.env x = pure x := by intro _; rfl) :
    PS X (.Assign [.Name y py] (.ListComp elt [⟨tg, iter, ifs, 0⟩] scope pos) spos) (tS c W (sSet i (mLend (mLc mi T t m (own.map (·.2)))))) :=
  ⟨fun pins s σ H D I h => (ps_setLc hc hN hy hyl hsw (hi H (noTbl H)) ok (hg H (noTbl H)) (ht H (noTbl H)) (he H (noTbl H)) hs).run pins s σ H D I (lc_ok hT (lendF_ok (tE_tF mLend_lst (set_ok h))))⟩
theorem rs_lcLend (hc : X.calm = true) (hN : X.N.Nodup) (hy : X.N[i]? = some y) (hyl : X.env.scope.names.lookup y = some .local)
    (hsw : swapsWith (.ListComp elt [⟨tg, iter, ifs, 0⟩] scope pos) (some (.Name y py)) spos.line X.env = pure true) (ok : BlkOk X.N X.env.scope scope own) (hT : okT (own.map (·.2)) T = true) (hi : ∀ H0 F0, PI X tg iter (tI (lnt c H0 F0) W mi))
    (hg : ∀ (H0 F0 : Hp) (s : Shared) (H : Hp) (C : Addr) (cl : List (Str × Addr)) (fp : List Addr), PG (X.blk s H scope (compEnvC scope cl C X.env) fp) tg (tGx (lnt c H0 F0) T)) (ht : ∀ (H0 F0 : Hp) (s : Shared) (H : Hp) (C : Addr) (cl : List (Str × Addr)) (fp : List Addr), PTs (X.blk s H scope (compEnvC scope cl C X.env) fp) ifs (tTx (lnt c H0 F0) t))
    (he : ∀ (H0 F0 : Hp) (s : Shared) (H : Hp) (C : Addr) (cl : List (Str × Addr)) (fp : List Addr), PE (X.blk s H scope (compEnvC scope cl C X.env) fp) elt (tEx (lnt c H0 F0) m)) (hs : ∀ x, foldedSetIterable iter X.env x = pure x := by intro _; rfl) :
    PS X (.Assign [.Name y py] (.ListComp elt [⟨tg, iter, ifs, 0⟩] scope pos) spos) (tS c W (sSetO i (mLend (mLc mi T t m (own.map (·.2)))))) :=
  ⟨fun pins s σ H D I h => (ps_setLc hc hN hy hyl hsw (hi H (noTbl H)) ok (hg H (noTbl H)) (ht H (noTbl H)) (he H (noTbl H)) hs).run pins s σ H D I (lc_ok hT (lendF_ok (setO_ok h)))⟩
end
theorem re_lendI {e : Expr} {m : En → R D} (he : ∀ H0 F0 : Hp, PE X e (tE ⟨c.toGc, none, H0, F0, false⟩ W m)) : PE X e (tE c W (mLendI m)) := by
  refine ⟨fun pins s σ H Q I ⟨env, F, S, q⟩ => (he H (noTbl H)).run pins s σ H Q I ⟨frzE env, noTbl H, S.lend, ?_⟩⟩
  unfold mLendI at q
  cases z : m (frzE env) with
  | ok d e' =>
    rw [z] at q
    have q : Okp c W σ F (rlE c) Q (if imm d = true then .ok d env else .no) := q
    split at q
    · rename_i hi
      intro v H' F' T sm rv
      obtain ⟨F'', g, nw, tp⟩ := S.lent T
      exact q v H' F'' (S.go g) g.gr.f (rv.imm tp hi)
    · exact q.elim
  | er x e' =>
    rw [z] at q
    exact q.elim
  | no =>
    rw [z] at q
    exact q.elim
end
end PV

/-! repr of {}, too -/
namespace PV
open PySem PySem.Spec PyProof.Rows L2
def rReprE : List V → Hp → VK → Prop := fun vs H Q => ∃ a, vs = [.ref a] ∧ Rd H a (.dK []) ∧ Q (.str "{}") H
theorem dict_empty {X : Cx} {pins : List (Addr × Obj)} {σ : L2.St} {H : Hp} {s : Shared} {a : Addr} (I : Inv X pins σ H s) (h : Rd H a (.dK [])) : (a == sysModules) = false ∧ Reads s.heap (.ref a) (.dict []) [a] := by
  have k : ObjOk X.prog X.w H s.heap a (.dK []) := by
    rcases h with h | ⟨od, h⟩
    · exact I.hok a _ h
    · exact (I.hok a _ h).2
  obtain ⟨_, ns, vs, kv, o, es, n, h1, h2, h3, h4⟩ := k
  cases kv
  have he : es.toList = [] := by
    have := h4.2.1.length
    exact List.eq_nil_of_length_eq_zero this
  refine ⟨ns, ?_⟩
  have r := Reads.dict (h := s.heap) (kvs := []) (as := []) (bs := []) h1 h2.1 h3 (by rw [he]; exact .nil) (by rw [he]; exact .nil)
  exact r
theorem cr_reprE {X : Cx} (hg : X.A.guards = some []) (hu : X.A.units + 64 < cLine) : CallR X (.builtin "repr") rReprE := by
  intro pins s σ H xs us Q I r h
  obtain ⟨a, rfl, hd, q⟩ := h
  cases r with
  | cons ru rn =>
    cases rn
    cases (show _ = Value.ref a from ru)
    obtain ⟨ns, rd⟩ := dict_empty I hd
    have hdep : (PyData.dict []).depth = 1 := by decide +kernel
    refine repr_of_reads' rd (by decide +kernel) (fun _ z => ?_) hg (by rw [hdep]; omega) (fun _ _ e => e) (fun h' u tk hk => ⟨.str _, H, I.kept hk, ⟨_, rfl⟩, ?_⟩) (by decide +kernel)
    · rw [List.mem_singleton.mp z] at ns
      simp at ns
    · exact q
def oReprX : List D → Option D
  | [.dik []] => some (.str "{}")
  | ds => oRepr ds
theorem cr_reprX {X : Cx} (hg : X.A.guards = some []) (hu : X.A.units + 64 < cLine) : CallR X (.builtin "repr") (fun xs H Q => rReprE xs H Q ∨ rRepr X.K xs H Q) := (cr_reprE hg hu).or (cr_repr hg hu)
theorem oa_reprX {g : Gc} : OpA g (fun xs H Q => rReprE xs H Q ∨ rRepr g.K xs H Q) oReprX := fun ds vs d F H Q w R e k => by
  unfold oReprX at e
  split at e
  · cases e
    obtain ⟨x, rfl, h1⟩ := R.one
    obtain ⟨a, vs, rfl, h3, h4⟩ := h1.dik_ w
    cases h4
    exact .inl ⟨a, rfl, h3, k _ H F (Go.refl w) .str⟩
  · exact .inr (oa_repr ds vs d F H Q w R e k)
end PV

/-! what the mirror does not tell: the run is not to come there -/
namespace PV
open PySem PySem.Spec PyProof.Rows L2
def mNo : En → R D := fun _ => .no
def tNo : En → R Bool := fun _ => .no
def iNo : En → R (List D) := fun _ => .no
section
variable {c : Cn} {W : WX} {X : Cx} {e tg : Expr}
theorem re_no : PE X e (tE c W mNo) := ⟨fun _ _ _ _ _ _ ⟨_, _, _, q⟩ => q.elim⟩
theorem re_noF : PE X e (tF c W mNo) := ⟨fun _ _ _ _ _ _ ⟨_, _, _, q⟩ => q.elim⟩
theorem rt_no : PT X e (tT c W tNo) := ⟨fun _ _ _ _ _ _ ⟨_, _, _, q⟩ => q.elim⟩
theorem ri_no : PI X tg e (tI c W iNo) := ⟨fun _ _ _ _ _ _ ⟨_, _, _, q⟩ => q.elim⟩
end
end PV

/-! flat tuples among the module's names -/
namespace PV
open PySem PySem.Spec PyProof.Rows L2
structure TupC (K : PySem.W.Frag) (mg : Str → Option Value) (x : Str) (vs : List V) : Prop where
  ex : ∃ a, mg x = some (.ref a) ∧ ∃ (o : Obj) (its : Array Value) (n : Nat), K.lookup a = some o ∧ o.cls = .type "tuple" ∧ o.data = .seq its n ∧ its.size ≤ sizeLine ∧ Vals vs its.toList
theorem tupC_of {K : PySem.W.Frag} {mg : Str → Option Value} {x : Str} {vs : List V} {a : Addr} {od : Option Addr} {its : Array Value} {n : Nat} {sl : Array (Option Value)} (h : mg x = some (.ref a)) (l : K.lookup a = some ⟨.type "tuple", od, .seq its n, sl⟩) (z : its.size ≤ sizeLine) (v : Vals vs its.toList) : TupC K mg x vs :=
  ⟨a, h, _, its, n, l, rfl, rfl, z, v⟩
theorem re_gtup {X : Cx} {c : Cn} {W : WX} {x : Str} {pos : Pos} {vs : List V} {ds : List D} (hK : c.K = X.K) (hg : Gl X x) (t : TupC X.K X.mg x vs) (r : ∀ F, Reps c.toGc F ds vs) (hd : (x == ("__debug__" : Str)) = false := by decide) : PE X (.Name x pos) (tE c W (mK (.tup ds))) := by
  obtain ⟨a, hm, o, its, n, h1, h2, h3, h4, h5⟩ := t.ex
  exact re_c (pe_glob (v := .ref a) hg hm rfl hd) fun F => .tup (.inr ⟨o, its, n, by rw [hK]; exact h1, h2, h3, h4, h5⟩) (r F)
end PV

/-! [e for a in xs for b in ys]; a, b = [..]; list(range(n)), new; sorted of a tuple -/
namespace PV
open PySem PySem.Spec PyProof.Rows L2
/-! ### two `for` -/
def lcA (T : Tg) (t : En → R Bool) (m : En → R PV.D) (vs : List Nat) : List PV.D → List PV.D → En → R (List PV.D)
  | [], acc, e => .ok acc e
  | d :: r, acc, e => match bindT T d e with
    | none => .no
    | some e1 => (match t e1 with
      | .ok true e2 => (match m e2 with
        | .ok y e3 => if acc.length < lim then lcA T t m vs r (acc ++ [y]) (wipeE e3 vs) else .no
        | _ => .no)
      | .ok false e2 => lcA T t m vs r acc (wipeE e2 vs)
      | _ => .no)
def lc2L (T : Tg) (t : En → R Bool) (mi1 : En → R (List PV.D)) (T1 : Tg) (t1 : En → R Bool) (m : En → R PV.D) (vs vs1 : List Nat) : List PV.D → List PV.D → En → R (List PV.D)
  | [], acc, e => .ok acc e
  | d :: r, acc, e => match bindT T d e with
    | none => .no
    | some e1 => (match t e1 with
      | .ok true e2 => (match mi1 e2 with
        | .ok es e3 => (lcA T1 t1 m vs1 es acc (wipeE e3 vs1)).bind fun acc' e4 => lc2L T t mi1 T1 t1 m vs vs1 r acc' (wipeE e4 vs)
        | _ => .no)
      | .ok false e2 => lc2L T t mi1 T1 t1 m vs vs1 r acc (wipeE e2 vs)
      | _ => .no)
def mLc2 (mi : En → R (List PV.D)) (T : Tg) (t : En → R Bool) (mi1 : En → R (List PV.D)) (T1 : Tg) (t1 : En → R Bool) (m : En → R PV.D) (vs vs1 : List Nat) : En → R PV.D :=
  fun env => (mi env).bind fun ds e => (lc2L T t mi1 T1 t1 m vs vs1 ds [] (wipeE e vs)).bind fun ys e' => .ok (.lst ys) (backE e e' vs)
def tIx (c : Cn) (mi : En → R (List PV.D)) : TI := fun σ H Q => ∃ H0, tI (c.kp H0) W0 mi σ H Q
theorem PIx {c : Cn} {X : Cx} {tg e : Expr} {mi : En → R (List PV.D)} (h : ∀ H0, PI X tg e (tI (c.kp H0) W0 mi)) : PI X tg e (tIx c mi) := ⟨fun pins s σ H Q I ⟨H0, q⟩ => (h H0).run pins s σ H Q I q⟩
theorem wipe_sub {σ : L2.St} {vs1 vs : List Nat} (h : ∀ i ∈ vs1, i ∈ vs) : wipe (wipe σ vs1) vs = wipe σ vs := by
  apply List.ext_getElem?
  intro i
  by_cases hi : i ∈ vs
  · rw [wipe_at hi, wipe_at hi, wipe_length]
  · rw [wipe_keep hi, wipe_keep hi, wipe_keep fun z => hi (h i z)]
section
variable {c : Cn} {W : WX} {X : Cx} {σ : L2.St} {H : Hp}
theorem lc2_ok {mi mi1 : En → R (List PV.D)} {T T1 : Tg} {t t1 : En → R Bool} {m : En → R PV.D} {vs vs1 : List Nat} {Q : VK} (hT : okT vs T = true) (hT1 : okT vs1 T1 = true) (hv : ∀ i ∈ vs1, i ∈ vs) (q : tF c W (mLc2 mi T t mi1 T1 t1 m vs vs1) σ H Q) :
    tLc2 (tI c W mi) (tGx c T) (tTx c t) (tIx c mi1) (tGx c T1) (tTx c t1) (tEx c m) vs vs1 σ H Q := by
  obtain ⟨env, F, S, q⟩ := q
  refine tM_bind S q fun ds e0 J H1 F1 S1 s1 r1 h1 => ?_
  intro Dd nD
  have h0D : c.H0 Dd = none := S1.h0 nD
  have hrD : c.ra ≠ some Dd := fun z => S1.rtH Dd z nD
  have f0D : c.F0 Dd = none := S1.gr.f.free (S1.wf.sub.free nD)
  refine ⟨fun i n H' => n + i = ds.length ∧ ∃ e F' acc vacc, SR c e (wipe σ vs) H' F' ∧ Same F1 F' ∧ H' Dd = some (.lst vacc) ∧ F' Dd = none ∧ (∀ j, ¬ Own e (wipe σ vs) j Dd) ∧ Reps c.toGc F' acc vacc ∧
    Okp c W σ F' (rlF c) Q ((lc2L T t mi1 T1 t1 m vs vs1 (ds.drop i) acc e).bind fun ys e' => .ok (.lst ys) (backE e0 e' vs)), ⟨ds.length, by simp, ?_⟩, ?_⟩
  · have SW := S1.wipe vs
    exact ⟨wipeE e0 vs, F1, [], [], SW.fresh nD rfl, Same.refl _, upd_same, S1.wf.sub.free nD, fun j h => (SW.own_there h).1 nD, .nil, h1⟩
  · rintro i n H2 ⟨hn, e, F2, acc, vacc, S2, s2, hD, hFD, no, ra, q2⟩
    by_cases hi : i < ds.length
    · have hd : ds.drop i = ds[i] :: ds.drop (i + 1) := List.drop_eq_getElem_cons hi
      rw [hd] at q2
      unfold lc2L at q2
      obtain ⟨g1, g2⟩ := r1.go i ds[i] F2 H2 (List.getElem?_eq_getElem hi) s2 S2.wf
      refine .inr ⟨g1, fun H' => n - 1 + (i + 1) = ds.length ∧ ∃ e F' acc vacc, SR c e (wipe σ vs) H' F' ∧ Same F1 F' ∧ H' Dd = some (.lst vacc) ∧ F' Dd = none ∧ (∀ j, ¬ Own e (wipe σ vs) j Dd) ∧ Reps c.toGc F' acc vacc ∧
        Okp c W σ F' (rlF c) Q ((lc2L T t mi1 T1 t1 m vs vs1 (ds.drop (i + 1)) acc e).bind fun ys e' => .ok (.lst ys) (backE e0 e' vs)), fun H' h => ⟨n - 1, by omega, h⟩, fun x H3 y => ?_⟩
      obtain ⟨F3, go3, r3⟩ := g2 x H3 y
      have S3 := S2.go go3
      have hD3 : H3 Dd = some (.lst vacc) := go3.gr.h Dd _ hD (fun ps z => by cases z) (by simp)
      have hF3 : F3 Dd = none := (go3.gr.new Dd (by rw [hD]; simp)).trans hFD
      have K3 := S3.keep hD3 hF3 h0D no
      refine ⟨upd c.H0 Dd (.lst vacc), e, F3, ds[i], K3, r3, ?_⟩
      cases z : bindT T ds[i] e with
      | none =>
        rw [z] at q2
        exact q2.elim
      | some e1 =>
        rw [z] at q2
        intro σ4 H4 F4 S4 s4 o4
        have ew : wipe σ4 vs = wipe σ vs := (wipe_off hT o4).trans (wipe_wipe σ vs)
        refine ⟨ew, upd c.H0 Dd (.lst vacc), e1, F4, S4, ?_⟩
        have s24 : Same F2 F4 := go3.gr.f.trans s4
        have q3 : Okp c W σ F2 (rlF c) Q ((match t e1 with
          | .ok true e2 => (match mi1 e2 with
            | .ok es e3 => (lcA T1 t1 m vs1 es acc (wipeE e3 vs1)).bind fun acc' e4 => lc2L T t mi1 T1 t1 m vs vs1 (ds.drop (i + 1)) acc' (wipeE e4 vs)
            | _ => .no)
          | .ok false e2 => lc2L T t mi1 T1 t1 m vs vs1 (ds.drop (i + 1)) acc (wipeE e2 vs)
          | _ => .no).bind fun ys e' => .ok (.lst ys) (backE e0 e' vs)) := q2
        cases zt : t e1 with
        | ok b e2 =>
          rw [zt] at q3
          intro b' H5 F5 S5 s5 eb
          have eb' : b = b' := eb
          subst eb'
          have s25 : Same F2 F5 := s24.trans s5
          cases b with
          | true =>
            refine iteT ⟨upd c.H0 Dd (.lst vacc), e2, F5, S5, ?_⟩
            cases zm : mi1 e2 with
            | ok es e3 =>
              simp only [zm] at q3
              rw [R.bind_assoc] at q3
              intro J1 H6 F6 S6 s6 r6
              have s26 : Same F2 F6 := s25.trans s6
              -- the inner walk
              obtain ⟨k1, k2, k3⟩ := S6.kept (fun ps z => by cases z) hrD f0D
              have S6w := (S6.unkeep h0D hrD).wipe vs1
              refine ⟨fun j k H' => k + j = es.length ∧ ∃ e F' acc vacc, SR c e (wipe σ4 vs1) H' F' ∧ Same F6 F' ∧ H' Dd = some (.lst vacc) ∧ F' Dd = none ∧ (∀ j, ¬ Own e (wipe σ4 vs1) j Dd) ∧ Reps c.toGc F' acc vacc ∧
                Okp c W σ F' (rlF c) Q ((lcA T1 t1 m vs1 (es.drop j) acc e).bind fun acc' e4 => (lc2L T t mi1 T1 t1 m vs vs1 (ds.drop (i + 1)) acc' (wipeE e4 vs)).bind fun ys e' => .ok (.lst ys) (backE e0 e' vs)),
                ⟨es.length, by simp, wipeE e3 vs1, F6, acc, vacc, S6w, Same.refl _, k1, k2, fun j h => k3 j (own_wipe h), ra.mono s26, Okp.mono q3 s26⟩, ?_⟩
              rintro j k H7 ⟨hk, e7, F7, acc7, vacc7, S7, s7, hD7, hFD7, no7, ra7, q7⟩
              by_cases hj : j < es.length
              · have hd : es.drop j = es[j] :: es.drop (j + 1) := List.drop_eq_getElem_cons hj
                rw [hd] at q7
                unfold lcA at q7
                obtain ⟨g1, g2⟩ := r6.go j es[j] F7 H7 (List.getElem?_eq_getElem hj) s7 S7.wf
                refine .inr ⟨g1, fun H' => k - 1 + (j + 1) = es.length ∧ ∃ e F' acc vacc, SR c e (wipe σ4 vs1) H' F' ∧ Same F6 F' ∧ H' Dd = some (.lst vacc) ∧ F' Dd = none ∧ (∀ j, ¬ Own e (wipe σ4 vs1) j Dd) ∧ Reps c.toGc F' acc vacc ∧
                  Okp c W σ F' (rlF c) Q ((lcA T1 t1 m vs1 (es.drop (j + 1)) acc e).bind fun acc' e4 => (lc2L T t mi1 T1 t1 m vs vs1 (ds.drop (i + 1)) acc' (wipeE e4 vs)).bind fun ys e' => .ok (.lst ys) (backE e0 e' vs)), fun H' h => ⟨k - 1, by omega, h⟩, fun x8 H8 y8 => ?_⟩
                obtain ⟨F8, go8, r8⟩ := g2 x8 H8 y8
                have S8 := S7.go go8
                have hD8 : H8 Dd = some (.lst vacc7) := go8.gr.h Dd _ hD7 (fun ps z => by cases z) (by simp)
                have hF8 : F8 Dd = none := (go8.gr.new Dd (by rw [hD7]; simp)).trans hFD7
                have K8 := S8.keep hD8 hF8 h0D no7
                refine ⟨upd c.H0 Dd (.lst vacc7), e7, F8, es[j], K8, r8, ?_⟩
                cases z9 : bindT T1 es[j] e7 with
                | none =>
                  rw [z9] at q7
                  exact q7.elim
                | some e9 =>
                  rw [z9] at q7
                  intro σ9 H9 F9 S9 s9 o9
                  have ew9 : wipe σ9 vs1 = wipe σ4 vs1 := (wipe_off hT1 o9).trans (wipe_wipe σ4 vs1)
                  refine ⟨ew9, upd c.H0 Dd (.lst vacc7), e9, F9, S9, ?_⟩
                  have s79 : Same F7 F9 := go8.gr.f.trans s9
                  have fin : ∀ {e5 : En} {H5 F5 : Hp}, SR (c.kp (upd c.H0 Dd (.lst vacc7))) e5 σ9 H5 F5 → SR c (wipeE e5 vs1) (wipe σ4 vs1) H5 F5 ∧ H5 Dd = some (.lst vacc7) ∧ F5 Dd = none ∧ ∀ j, ¬ Own (wipeE e5 vs1) (wipe σ4 vs1) j Dd := fun {e5 H5 F5} S5 => by
                    obtain ⟨k1, k2, k3⟩ := S5.kept (fun ps z => by cases z) hrD f0D
                    have S6 := (S5.unkeep h0D hrD).wipe vs1
                    rw [ew9] at S6
                    exact ⟨S6, k1, k2, fun j h => k3 j (own_wipe (by rw [ew9]; exact h))⟩
                  have q8 : Okp c W σ F7 (rlF c) Q ((match t1 e9 with
                    | .ok true e2 => (match m e2 with
                      | .ok y e3 => if acc7.length < lim then lcA T1 t1 m vs1 (es.drop (j + 1)) (acc7 ++ [y]) (wipeE e3 vs1) else .no
                      | _ => .no)
                    | .ok false e2 => lcA T1 t1 m vs1 (es.drop (j + 1)) acc7 (wipeE e2 vs1)
                    | _ => .no).bind fun acc' e4 => (lc2L T t mi1 T1 t1 m vs vs1 (ds.drop (i + 1)) acc' (wipeE e4 vs)).bind fun ys e' => .ok (.lst ys) (backE e0 e' vs)) := q7
                  cases zt1 : t1 e9 with
                  | ok b e10 =>
                    rw [zt1] at q8
                    intro b' H10 F10 S10 s10 eb
                    have eb' : b = b' := eb
                    subst eb'
                    have s710 : Same F7 F10 := s79.trans s10
                    cases b with
                    | true =>
                      refine iteT ⟨upd c.H0 Dd (.lst vacc7), e10, F10, S10, ?_⟩
                      cases zm1 : m e10 with
                      | ok y e11 =>
                        simp only [zm1] at q8
                        intro v H11 F11 S11 s11 rv
                        obtain ⟨f1, f2, f3, f4⟩ := fin S11
                        have s711 : Same F7 F11 := s710.trans s11
                        by_cases hl : acc7.length < lim
                        · simp only [if_pos hl] at q8
                          have hl' : vacc7.length < lim := by rw [← ra7.length]; exact hl
                          refine ⟨vacc7, f2, lim_lt hl', by omega, wipeE e11 vs1, F11, acc7 ++ [y], vacc7 ++ [v], f1.put f2 f3 h0D f4 (fun ps z => by cases z) (fun φ z => by cases z) rfl, s7.trans s711, upd_same, f3, f4, (ra7.mono s711).append (.cons rv .nil), ?_⟩
                          exact Okp.mono q8 s711
                        · simp only [if_neg hl] at q8
                          exact q8.elim
                      | er x e11 =>
                        simp only [zm1] at q8
                        exact q8.elim
                      | no =>
                        simp only [zm1] at q8
                        exact q8.elim
                    | false =>
                      obtain ⟨f1, f2, f3, f4⟩ := fin S10
                      refine iteF ⟨by omega, wipeE e10 vs1, F10, acc7, vacc7, f1, s7.trans s710, f2, f3, f4, ra7.mono s710, Okp.mono q8 s710⟩
                  | er x e10 =>
                    rw [zt1] at q8
                    exact q8.elim
                  | no =>
                    rw [zt1] at q8
                    exact q8.elim
              · have ej : j = es.length := by omega
                subst ej
                rw [List.drop_length] at q7
                unfold lcA at q7
                have q7' : Okp c W σ F7 (rlF c) Q ((lc2L T t mi1 T1 t1 m vs vs1 (ds.drop (i + 1)) acc7 (wipeE e7 vs)).bind fun ys e' => .ok (.lst ys) (backE e0 e' vs)) := q7
                have S7w := S7.wipe vs
                have ew7 : wipe (wipe σ4 vs1) vs = wipe σ vs := (wipe_sub hv).trans ew
                rw [ew7] at S7w
                refine .inl ⟨r6.stop F7 H7 s7 S7.wf, by omega, wipeE e7 vs, F7, acc7, vacc7, S7w, (s2.trans s26).trans s7, hD7, hFD7, fun j h => no7 j (own_wipe (by rw [ew7]; exact h)), ra7, q7'⟩
            | er x e3 =>
              simp only [zm] at q3
              exact q3.elim
            | no =>
              simp only [zm] at q3
              exact q3.elim
          | false =>
            obtain ⟨k1, k2, k3⟩ := S5.kept (fun ps z => by cases z) hrD f0D
            have S6 := (S5.unkeep h0D hrD).wipe vs
            rw [ew] at S6
            refine iteF ⟨by omega, wipeE e2 vs, F5, acc, vacc, S6, s2.trans s25, k1, k2, fun j h => k3 j (own_wipe (by rw [ew]; exact h)), ra.mono s25, Okp.mono q3 s25⟩
        | er x e2 =>
          rw [zt] at q3
          exact q3.elim
        | no =>
          rw [zt] at q3
          exact q3.elim
    · have ei : i = ds.length := by omega
      subst ei
      rw [List.drop_length] at q2
      unfold lc2L at q2
      have q2' : Okp c W σ F2 (rlF c) Q (.ok (.lst acc) (backE e0 e vs)) := q2
      exact .inl ⟨r1.stop F2 H2 s2 S2.wf, q2' (.ref Dd) H2 F2 (S1.back S2 s2) (Same.refl _) ⟨Dd, .lst vacc, rfl, hD, hFD, h0D, hrD, fun j h => no j (own_back h), .lst ra⟩⟩
theorem re_lc2 {elt tg iter tg1 iter1 : Expr} {ifs ifs1 : List Expr} {scope : Scope} {pos : Pos} {mi mi1 : En → R (List PV.D)} {T T1 : Tg} {t t1 : En → R Bool} {m : En → R PV.D} {own : List (Str × Nat)} {vs1 : List Nat} (hc : X.calm = true) (hN : X.N.Nodup) (ok : BlkOk X.N X.env.scope scope own)
    (hT : okT (own.map (·.2)) T = true) (hT1 : okT vs1 T1 = true) (hv : ∀ i ∈ vs1, i ∈ own.map (·.2)) (hi : PI X tg iter (tI c W mi))
    (hg : ∀ (s : Shared) (H : Hp) (C : Addr) (cl : List (Str × Addr)) (fp : List Addr), PG (X.blk s H scope (compEnvC scope cl C X.env) fp) tg (tGx c T)) (ht : ∀ (s : Shared) (H : Hp) (C : Addr) (cl : List (Str × Addr)) (fp : List Addr), PTs (X.blk s H scope (compEnvC scope cl C X.env) fp) ifs (tTx c t))
    (hi1 : ∀ (s : Shared) (H : Hp) (C : Addr) (cl : List (Str × Addr)) (fp : List Addr), PI (X.blk s H scope (compEnvC scope cl C X.env) fp) tg1 iter1 (tIx c mi1))
    (hg1 : ∀ (s : Shared) (H : Hp) (C : Addr) (cl : List (Str × Addr)) (fp : List Addr), PG (X.blk s H scope (compEnvC scope cl C X.env) fp) tg1 (tGx c T1)) (ht1 : ∀ (s : Shared) (H : Hp) (C : Addr) (cl : List (Str × Addr)) (fp : List Addr), PTs (X.blk s H scope (compEnvC scope cl C X.env) fp) ifs1 (tTx c t1))
    (he : ∀ (s : Shared) (H : Hp) (C : Addr) (cl : List (Str × Addr)) (fp : List Addr), PE (X.blk s H scope (compEnvC scope cl C X.env) fp) elt (tEx c m)) (hs : ∀ x, foldedSetIterable iter X.env x = pure x := by intro _; rfl) (hs1 : ∀ env x, foldedSetIterable iter1 env x = pure x := by intro _ _; rfl) :
    PE X (.ListComp elt [⟨tg, iter, ifs, 0⟩, ⟨tg1, iter1, ifs1, 0⟩] scope pos) (tF c W (mLc2 mi T t mi1 T1 t1 m (own.map (·.2)) vs1)) := (pe_lc2 hc hN hi ok hv hg ht hi1 hg1 ht1 he hs hs1).imp fun σ H Q q => lc2_ok hT hT1 hv q
theorem rs_lc2 {i : Nat} {y : Str} {py : Pos} {elt tg iter tg1 iter1 : Expr} {ifs ifs1 : List Expr} {scope : Scope} {pos spos : Pos} {mi mi1 : En → R (List PV.D)} {T T1 : Tg} {t t1 : En → R Bool} {m : En → R PV.D} {own : List (Str × Nat)} {vs1 : List Nat} (hc : X.calm = true) (hN : X.N.Nodup) (hy : X.N[i]? = some y) (hyl : X.env.scope.names.lookup y = some .local)
    (hsw : swapsWith (.ListComp elt [⟨tg, iter, ifs, 0⟩, ⟨tg1, iter1, ifs1, 0⟩] scope pos) (some (.Name y py)) spos.line X.env = pure true) (ok : BlkOk X.N X.env.scope scope own)
    (hT : okT (own.map (·.2)) T = true) (hT1 : okT vs1 T1 = true) (hv : ∀ i ∈ vs1, i ∈ own.map (·.2)) (hi : PI X tg iter (tI c W mi))
    (hg : ∀ (s : Shared) (H : Hp) (C : Addr) (cl : List (Str × Addr)) (fp : List Addr), PG (X.blk s H scope (compEnvC scope cl C X.env) fp) tg (tGx c T)) (ht : ∀ (s : Shared) (H : Hp) (C : Addr) (cl : List (Str × Addr)) (fp : List Addr), PTs (X.blk s H scope (compEnvC scope cl C X.env) fp) ifs (tTx c t))
    (hi1 : ∀ (s : Shared) (H : Hp) (C : Addr) (cl : List (Str × Addr)) (fp : List Addr), PI (X.blk s H scope (compEnvC scope cl C X.env) fp) tg1 iter1 (tIx c mi1))
    (hg1 : ∀ (s : Shared) (H : Hp) (C : Addr) (cl : List (Str × Addr)) (fp : List Addr), PG (X.blk s H scope (compEnvC scope cl C X.env) fp) tg1 (tGx c T1)) (ht1 : ∀ (s : Shared) (H : Hp) (C : Addr) (cl : List (Str × Addr)) (fp : List Addr), PTs (X.blk s H scope (compEnvC scope cl C X.env) fp) ifs1 (tTx c t1))
    (he : ∀ (s : Shared) (H : Hp) (C : Addr) (cl : List (Str × Addr)) (fp : List Addr), PE (X.blk s H scope (compEnvC scope cl C X.env) fp) elt (tEx c m)) (hs : ∀ x, foldedSetIterable iter X.env x = pure x := by intro _; rfl) (hs1 : ∀ env x, foldedSetIterable iter1 env x = pure x := by intro _ _; rfl) :
    PS X (.Assign [.Name y py] (.ListComp elt [⟨tg, iter, ifs, 0⟩, ⟨tg1, iter1, ifs1, 0⟩] scope pos) spos) (tS c W (sSetO i (mLc2 mi T t mi1 T1 t1 m (own.map (·.2)) vs1))) := (ps_setLc2 hc hN hy hyl hsw hi ok hv hg ht hi1 hg1 ht1 he hs hs1).imp fun Z σ H q => by
  obtain ⟨env, F, S, q⟩ := q
  have h := setO_ok ⟨env, F, S, q⟩
  exact lc2_ok hT hT1 hv h
/-! ### a, b = a list -/
def sUnp (Ts : List Tg) (m : En → R D) : En → Rs := fun env => (m env).bs fun d e => match d with
  | .lst xs => (match bindTs Ts xs e with
    | some e' => .nx e'
    | none => .no)
  | _ => .no
theorem bindTs_len : ∀ {Ts : List Tg} {xs : List PV.D} {env e : En}, bindTs Ts xs env = some e → xs.length = Ts.length
  | [], xs, env, e, z => by
    cases xs with
    | nil => rfl
    | cons y ys =>
      unfold bindTs at z
      cases z
  | T :: Ts, xs, env, e, z => by
    cases xs with
    | nil =>
      unfold bindTs at z
      cases z
    | cons y ys =>
      unfold bindTs at z
      cases z1 : bindT T y env with
      | none =>
        rw [z1] at z
        cases z
      | some e1 =>
        rw [z1] at z
        simp [bindTs_len (Ts := Ts) (xs := ys) z]
theorem rs_unp {e : Expr} {es : List Expr} {k : Nat} {Ts : List Tg} {m : En → R D} {pt pos : Pos} (hK : c.K = X.K) (hc : X.calm = true) (he : PE X e (tE c W m)) (h : PGs X es (tGs c Ts)) (hst : (assignEach es X.env).findIdx? (·.1) = none := by rfl) (hl : (assignEach es X.env).length = Ts.length := by rfl)
    (hs : swapsWithSole [.Tuple es k pt] e pos.line X.env = pure false := by rfl) (hw : swappedStores [.Tuple es k pt] e X.env = pure none := by rfl)
    (h1 : (assignEach [.Tuple es k pt] X.env).map (·.2) = [assign (.Tuple es k pt) X.env] := by rfl) : PS X (.Assign [.Tuple es k pt] e pos) (tS c W (sUnp Ts m)) :=
  (ps_asg he (pg_lst (n := Ts.length) hc h hl hst) hs hw h1).imp fun Z σ H ⟨env, F, S, q⟩ => by
    refine tM_bs S q fun d e v H1 F1 S1 s1 r1 h1 => ?_
    match v, d, r1, h1 with
    | _, _, @Rep.lst _ _ a xs vs q1 q2, h1 =>
      have h1' : OkS c W F1 Z (match bindTs Ts xs e with
        | some e' => .nx e'
        | none => .no) := h1
      cases z2 : bindTs Ts xs e with
      | none =>
        rw [z2] at h1'
        exact h1'.elim
      | some e2 =>
        rw [z2] at h1'
        refine ⟨a, vs, rfl, by rw [← hK]; exact .inl (.inl (S1.wf.sub _ _ q1)), by rw [← q2.length]; exact bindTs_len z2, e, F1, xs, S1, q2, ?_⟩
        rw [z2]
        exact fun σ' H' F' S' s' _ => h1' σ' H' F' S' s'
    | _, _, .non, h1 => exact h1.elim
    | _, _, .bl, h1 => exact h1.elim
    | _, _, .int, h1 => exact h1.elim
    | _, _, .str, h1 => exact h1.elim
    | _, _, .tup _ _, h1 => exact h1.elim
    | _, _, .dik _ _, h1 => exact h1.elim
    | _, _, .dit _ _, h1 => exact h1.elim
    | _, _, .ins _ _ _ _ _, h1 => exact h1.elim
    | _, _, .fn _, h1 => exact h1.elim
    | _, _, .lam _ _ _, h1 => exact h1.elim
    | _, _, .slfz, h1 => exact h1.elim
    | _, _, .ro _ _, h1 => exact h1.elim
end
end PV

/-! sorted of a tuple of whole numbers; list(range(n)), new -/
namespace PV
open PySem PySem.Spec PyProof.Rows L2
section
variable {prog : Program} {w : World} {A : Around} {E : Value → Shared → Prop} {s : Shared}
/-- the heap behind a list made of these -/
def madeL (h : Heap) (vs : List Value) : Heap := (h.push (seqObj "list" #[] 0)).update h.objs.size (Obj.mapSeq (· ++ vs.toArray))
theorem collectTup {t : Addr} {vs : List Value} {Q : List Value → Shared → Prop} (ht : IsTup s.heap t vs.toArray) (hz : vs.length ≤ sizeLine) (h : Q vs { s with heap := madeL s.heap vs }) : wpAny (model prog w) A (collect (.ref t)) Q E s := by
  obtain ⟨o, ho, hc, n, hd⟩ := ht
  unfold collect
  refine wpAny_bind (wpAny_runValue (codeAny_builtin entry_proto_collect' ?_))
  show wpAny _ _ (do again (.builtin "list.__iadd__" ⟨[← newList [], .ref t], []⟩)) _ _ s
  refine wpAny_bind (wpAny_newList (wpAny_pure ⟨Code.quiet_builtin _ (by decide +kernel), codeAny_builtin entry_list_iadd' ?_⟩))
  show wpAny _ _ (Builtin.List.listExtendWith (.ref s.heap.objs.size) (.ref t) (.ref s.heap.objs.size)) _ _ { s with heap := s.heap.push (seqObj "list" #[] 0) }
  have hp : (s.heap.push (seqObj "list" #[] 0)).get? t = some o := Heap.get?_push_of_some _ ho
  have hnew : (s.heap.push (seqObj "list" #[] 0)).get? s.heap.objs.size = some (seqObj "list" #[] 0) := Heap.get?_push_size _ rfl
  unfold Builtin.List.listExtendWith
  refine wpAny_bind (wpAny_typeOf (T := "tuple") ⟨o, hp, hc⟩ ?_)
  have e2 : (Value.type "tuple" == Value.type "tuple") = true := by rfl
  rw [if_pos (by rw [e2, Bool.or_true])]
  refine wpAny_bind (listItems_at hp hd ?_)
  refine wpAny_bind (listItems_at (xs := #[]) (n := 0) hnew rfl ?_)
  rw [if_neg (by simp)]
  refine wpAny_bind (listUpdate_at (xs := #[]) (n := 0) hnew rfl ?_ (Nat.zero_le _) (by show (#[] ++ vs.toArray).size ≤ sizeLine + 1; rw [Array.size_append, List.size_toArray]; simp; omega))
  refine wpAny_pure ?_
  show wpAny (model prog w) A (do
      let o ← load s.heap.objs.size
      match o.data with
      | .seq xs _ => pure xs.toList
      | _ => unsupported "internal:collect") Q E { s with heap := madeL s.heap vs }
  refine wpAny_bind (wpAny_load (get?_update_seq hnew _) ?_)
  show wpAny _ _ (pure ((#[] : Array Value) ++ vs.toArray).toList) Q E _
  have e3 : ((#[] : Array Value) ++ vs.toArray).toList = vs := by simp
  rw [e3]
  exact wpAny_pure h
theorem sortedTup {t : Addr} {vs : List Value} {ltv : Value → Value → Bool} {Q : Value → Shared → Prop} (O : SrtO.Swo ltv) (ht : IsTup s.heap t vs.toArray) (hz : vs.length ≤ sizeLine)
    (hS : 2 ≤ vs.length → ∀ (h1 : Heap) (a : Addr), h1.get? a = some (seqObj "list" vs.toArray 0) → (∀ b o, s.heap.get? b = some o → b ≠ a ∧ h1.get? b = some o) → SrtO.SortableO prog w A.in1.in1 { s with heap := h1 } a vs ltv)
    (h : ∀ out : List Value, SrtO.Srtd ltv out → SrtO.Stb ltv out vs → Q (.ref (s.heap.objs.size + 1)) { s with heap := sortedAll s.heap vs out.toArray }) :
    wpAny (model prog w) A (call (.builtin "sorted") [.ref t]) Q E s := by
  refine Calls.call_function_entry kind_sorted plain_sorted entry_sorted (args_sorted1 _) ?_
  unfold Builtin.«sorted»
  refine wpAny_bind (m := checkCount "sorted" 1 1 _) (wpAny_pure ?_)
  refine wpAny_bind (collectTup ht hz ?_)
  refine wpAny_bind (wpAny_newList ?_ hz)
  have sz : (madeL s.heap vs).objs.size = s.heap.objs.size + 1 := by
    unfold madeL
    rw [Heap.size_update, size_push']
  have at1 : ((madeL s.heap vs).push (seqObj "list" vs.toArray 0)).get? (s.heap.objs.size + 1) = some (seqObj "list" vs.toArray 0) := by
    rw [← sz]
    exact Heap.get?_push_size _ rfl
  have old : ∀ b o, s.heap.get? b = some o → b ≠ s.heap.objs.size + 1 ∧ ((madeL s.heap vs).push (seqObj "list" vs.toArray 0)).get? b = some o := fun b o q => by
    have lt : b < s.heap.objs.size := Heap.lt_size q
    refine ⟨Nat.ne_of_lt (Nat.lt_succ_of_lt lt), Heap.get?_push_of_some _ ?_⟩
    unfold madeL
    rw [Heap.get?_update_ne _ _ _ _ (Nat.ne_of_lt lt)]
    exact Heap.get?_push_of_some _ q
  show wpAny _ _ _ _ _ { s with heap := (madeL s.heap vs).push (seqObj "list" vs.toArray 0) }
  rw [sz]
  refine wpAny_bind (wpAny_holding (wpAny_call_entry slot_list_sort ⟨_, at1, rfl⟩ entry_list_sort (SrtO.list_sort_ord O at1 hz (fun h2 => hS h2 _ _ at1 old) fun out hs hb => ⟨_, rfl, ?_⟩) (args_list_sort _)))
  exact wpAny_pure ⟨_, rfl, h out hs hb⟩
end
def rSortedU (K : PySem.W.Frag) : List V → Hp → VK → Prop := fun vs H Q => ∃ (a : Addr) (ns : List Int), vs = [V.ref a] ∧ SqT K H a (ns.map V.int) ∧
  ∀ (ns' : List Int) (p : Addr), ns'.Perm ns → ns'.Pairwise (· ≤ ·) → H p = none → Q (.ref p) (upd H p (.lst (ns'.map V.int)))
section
variable {X : Cx}
theorem cr_sortedU : CallR X (.builtin "sorted") (rSortedU X.K) := by
  intro pins s σ H vs us Q I r h
  obtain ⟨a, ns, rfl, hs, q⟩ := h
  obtain ⟨its, rv, ht, hz⟩ := I.tuple hs
  rw [Vals.ref1 r]
  have hi := rv.ints
  refine sortedTup SrtO.swo_int ht (by rw [← rv.length]; exact hz) (fun h2 h1 a' _ _ => SrtO.ints_sortable hi h2) fun out h1 h2 => ?_
  obtain ⟨k1, k2, k3⟩ := SrtO.ints_out hi h1 h2
  obtain ⟨ep, he⟩ := PyProof.Rows.sortedAll_at s.heap its out.toArray
  have len : ((out.map SrtO.iv).map V.int).length ≤ sizeLine := by
    rw [List.length_map, k2.length_eq]
    rw [List.length_map] at hz
    exact hz
  exact ⟨.ref _, upd H (s.heap.objs.size + 1) (.lst ((out.map SrtO.iv).map V.int)), I.laid (t' := s.toks) (fun _ _ => PyProof.Rows.sortedAll_old) (Nat.le_succ _) ⟨len, out, ep, vals_of_ints k1, he⟩, rfl, q _ _ k2 k3 (I.hok.fresh (Nat.le_succ _))⟩
/-- sorted: as oSortedY, or of a tuple of whole numbers -/
def rSortedW (K : PySem.W.Frag) : List V → Hp → VK → Prop := fun xs H Q => rSortedY K xs H Q ∨ rSortedU K xs H Q
theorem cr_sortedW (hc : X.calm = true) (hu : X.A.units + 64 < cLine) : CallR X (.builtin "sorted") (rSortedW X.K) := (cr_sortedY hc hu).or cr_sortedU
def oSortedU : List D → Option D
  | [.tup xs] => (intsD xs).map fun ns => .lst ((srtI ns).map D.int)
  | _ => none
theorem of_sortedU {g : Gc} : OpF g (rSortedU g.K) oSortedU := fun ds vs d F H Q w R e k => by
  unfold oSortedU at e
  split at e
  · rename_i xs
    cases q : intsD xs with
    | none =>
      rw [q] at e
      cases e
    | some ns =>
      rw [q] at e
      cases e
      obtain ⟨x, rfl, h1⟩ := R.one
      obtain ⟨a, ws, rfl, h2, _, h3⟩ := h1.tup_ w
      rw [h3.ints q] at h2
      refine ⟨a, ns, rfl, h2, fun ns' p hp hs n => ?_⟩
      have e : ns' = srtI ns := srtI_one (hp.trans (srtI_perm ns).symm) hs (srtI_srt ns)
      subst e
      exact k p _ n (.lst (Reps.ofInts _))
  · cases e
def oSortedW (ds : List D) : Option D := (oSortedY ds).or (oSortedU ds)
theorem of_sortedW {g : Gc} : OpF g (rSortedW g.K) oSortedW := fun ds vs d F H Q w R e k => by
  unfold oSortedW at e
  cases q : oSortedY ds with
  | some d1 =>
    rw [q] at e
    cases e
    exact .inl (of_sortedY ds vs d F H Q w R q k)
  | none =>
    rw [q] at e
    exact .inr (of_sortedU ds vs d F H Q w R e k)
/-! ### list(range(n)), new -/
variable {c : Cn} {W : WX}
theorem rng1F_ok {m : En → R D} {σ : L2.St} {H : Hp} {Q : VK} (q : tF c W (mOp (oRngL .lst) [.m m]) σ H Q) : tLstRg (tRg1 (tE c W m)) σ H Q := by
  obtain ⟨env, F, S, q⟩ := q
  have q' : Okp c W σ F (rlF c) Q ((m env).bind fun d e => match oRngL .lst [d] with
    | some y => .ok y e
    | none => .no) := by
    have e1 : mOp (oRngL .lst) [.m m] env = (m env).bind fun d e => match oRngL .lst [d] with
      | some y => .ok y e
      | none => .no := by
      unfold mOp evA evP
      cases m env with
      | ok d e => rfl
      | er x e => rfl
      | no => rfl
    rw [← e1]
    exact q
  refine tM_bind (rl := rlE c) S q' fun d e v H1 F1 S1 s1 r1 h1 => ?_
  split at h1
  · rename_i y hy
    unfold oRngL iRange1 at hy
    cases r1 with
    | @int n =>
      have hy' : (if -1000000 ≤ n ∧ n ≤ 1000000 then some ((List.range n.toNat).map fun i => D.int (i : Nat)) else none).map .lst = some y := hy
      split at hy'
      · rename_i hz
        cases hy'
        refine ⟨n, rfl, ⟨by omega, by omega, by omega, by omega, by omega⟩, fun p np => ?_⟩
        have rv := rg_vals (c := c) (F := F1) 0 n
        simp only [Int.sub_zero, Int.zero_add] at rv
        have S2 := S1.fresh (o := .lst (rgV 0 n)) np rfl
        exact h1 (.ref p) _ F1 S2 (Same.refl _) ⟨p, .lst (rgV 0 n), rfl, upd_same, S1.wf.sub.free np, S1.h0 np, fun z => S1.rtH p z np, fun j h => (S1.own_there h).1 np, .lst rv⟩
      · cases hy'
    | _ => cases hy
  · exact h1.elim
theorem re_listRgF {a : Expr} {m : En → R D} {p p2 pos pos2 : Pos} (hc : X.calm = true) (hg : Gl X "list") (hm : X.mg "list" = none) (hg2 : Gl X "range") (hm2 : X.mg "range" = none) (ha : PE X a (tE c W m)) (na : starEach [a] X.env = (false, eval a X.env) :: starEach [] X.env := by rfl)
    (nb : starEach [.Call (.Name "range" p2) [a] [] pos2] X.env = (false, eval (.Call (.Name "range" p2) [a] [] pos2) X.env) :: starEach [] X.env := by rfl) : PE X (.Call (.Name "list" p) [.Call (.Name "range" p2) [a] [] pos2] [] pos) (tF c W (mOp (oRngL .lst) [.m m])) :=
  (pe_listRg hc hg hm (prg_1 hg2 hm2 ha na) nb).imp fun σ H Q q => rng1F_ok q
end
end PV

namespace PV
open L2
/-! ### loops and comprehensions by what they do -/
theorem lcL_pure {α : Type} {T : Tg} {t : En → R Bool} {m : En → R D} {vs : List Nat} {e : En} (c : α → D) (p : α → Bool) (g : α → D) : ∀ {ds : List α}, (∀ d ∈ ds, ∃ e1 e2, bindT T (c d) e = some e1 ∧ t e1 = .ok (p d) e2 ∧ (p d = false → wipeE e2 vs = e) ∧ (p d = true → ∃ e3, m e2 = .ok (g d) e3 ∧ wipeE e3 vs = e)) →
    lcL T t m vs (ds.map c) e = .ok ((ds.filter p).map g) e
  | [], _ => rfl
  | d :: r, h => by
    obtain ⟨e1, e2, h1, h2, h3, h4⟩ := h d (List.mem_cons_self ..)
    have ih := lcL_pure (T := T) (t := t) (m := m) (vs := vs) (e := e) c p g (ds := r) fun x hx => h x (List.mem_cons_of_mem _ hx)
    rw [List.map_cons]
    unfold lcL
    rw [h1]
    simp only [h2]
    cases q : p d with
    | false =>
      simp only [h3 q, ih, List.filter_cons, q]
      rfl
    | true =>
      obtain ⟨e3, h5, h6⟩ := h4 q
      simp only [h5, h6, ih, List.filter_cons, q]
      rfl
/-- .. all of them -/
theorem lcL_all {α : Type} {T : Tg} {m : En → R D} {vs : List Nat} {e : En} (c : α → D) (g : α → D) {ds : List α} (h : ∀ d ∈ ds, ∃ e1 e3, bindT T (c d) e = some e1 ∧ m e1 = .ok (g d) e3 ∧ wipeE e3 vs = e) :
    lcL T tYs m vs (ds.map c) e = .ok (ds.map g) e := by
  have := lcL_pure (T := T) (t := tYs) (m := m) (vs := vs) (e := e) c (fun _ => true) g (ds := ds) fun d hd => by
    obtain ⟨e1, e3, h1, h2, h3⟩ := h d hd
    exact ⟨e1, e1, h1, rfl, (fun z => by cases z), fun _ => ⟨e3, h2, h3⟩⟩
  rw [this]
  have e1 : ds.filter (fun _ => true) = ds := List.filter_eq_self.mpr fun _ _ => rfl
  rw [e1]
/-- .. with a state -/
theorem lcL_inv {T : Tg} {t : En → R Bool} {m : En → R D} {vs : List Nat} (P : List D → List D → En → Prop) : ∀ (ds acc : List D) (e : En),
    (∀ d r acc e, P (d :: r) acc e → ∃ e1 b e2, bindT T d e = some e1 ∧ t e1 = .ok b e2 ∧ (b = false → P r acc (wipeE e2 vs)) ∧ (b = true → ∃ y e3, m e2 = .ok y e3 ∧ P r (acc ++ [y]) (wipeE e3 vs))) →
    P ds acc e → ∃ ys e', lcL T t m vs ds e = .ok ys e' ∧ P [] (acc ++ ys) e'
  | [], acc, e, _, h => ⟨[], e, rfl, by rw [List.append_nil]; exact h⟩
  | d :: r, acc, e, hs, h => by
    obtain ⟨e1, b, e2, h1, h2, h3, h4⟩ := hs d r acc e h
    unfold lcL
    rw [h1]
    simp only [h2]
    cases b with
    | false =>
      obtain ⟨ys, e', h5, h6⟩ := lcL_inv P r acc _ hs (h3 rfl)
      exact ⟨ys, e', h5, h6⟩
    | true =>
      obtain ⟨y, e3, h5, h6⟩ := h4 rfl
      obtain ⟨ys, e', h7, h8⟩ := lcL_inv P r _ _ hs h6
      refine ⟨y :: ys, e', ?_, by rw [← List.append_cons] at h8; exact h8⟩
      simp only [h5, h7]
      rfl
theorem forL_inv {T : Tg} {m : En → Rs} (P : List D → En → Prop) (hs : ∀ d r e, P (d :: r) e → ∃ e1 e2, bindT T d e = some e1 ∧ (m e1 = .nx e2 ∨ m e1 = .ct e2) ∧ P r e2) : ∀ (ds : List D) (e : En), P ds e → ∃ e', forL T m ds e = .nx e' ∧ P [] e'
  | [], e, h => ⟨e, rfl, h⟩
  | d :: r, e, h => by
    obtain ⟨e1, e2, h1, h2, h3⟩ := hs d r e h
    obtain ⟨e', h4, h5⟩ := forL_inv P hs r e2 h3
    refine ⟨e', ?_, h5⟩
    unfold forL
    rw [h1]
    rcases h2 with h2 | h2 <;> simp only [h2, h4]
theorem whileN_inv {t : En → R Bool} {m : En → Rs} (P : Nat → En → Prop) (Q : En → Prop) (h0 : ∀ e, P 0 e → ∃ e1, t e = .ok false e1 ∧ Q e1)
    (hs : ∀ k e, P (k + 1) e → ∃ e1 e2, t e = .ok true e1 ∧ (m e1 = .nx e2 ∨ m e1 = .ct e2) ∧ P k e2) : ∀ (k n : Nat) (e : En), P k e → k < n → ∃ e', whileN n t m e = .nx e' ∧ Q e'
  | 0, 0, e, h, hn => absurd hn (Nat.lt_irrefl _)
  | k + 1, 0, e, h, hn => absurd hn (Nat.not_lt_zero _)
  | 0, n + 1, e, h, hn => by
    obtain ⟨e1, h1, h2⟩ := h0 e h
    refine ⟨e1, ?_, h2⟩
    unfold whileN
    rw [h1]
    rfl
  | k + 1, n + 1, e, h, hn => by
    obtain ⟨e1, e2, h1, h2, h3⟩ := hs k e h
    obtain ⟨e', h4, h5⟩ := whileN_inv P Q h0 hs k n e2 h3 (Nat.lt_of_succ_lt_succ hn)
    refine ⟨e', ?_, h5⟩
    unfold whileN
    rw [h1]
    simp only [R.bs, if_true]
    rcases h2 with h2 | h2 <;> simp only [h2, h4]
/-! ### lists of ints -/
def iD (l : List Int) : List D := l.map D.int
theorem intsD_map : ∀ l : List Int, intsD (l.map D.int) = some l
  | [] => rfl
  | x :: r => by
    show (intsD (r.map D.int)).map (x :: ·) = _
    rw [intsD_map r]
    rfl
theorem blsD_map : ∀ l : List Bool, blsD (l.map D.bl) = some l
  | [] => rfl
  | x :: r => by
    show (blsD (r.map D.bl)).map (x :: ·) = _
    rw [blsD_map r]
    rfl
end PV
namespace PV
open PySem PySem.Spec L2
/-! ### == of data of one kind -/
structure Enc (α : Type) [DecidableEq α] where
  c : α → D
  q : α → PyData
  hq : ∀ a, toP (c a) = some (q a)
  lay : ∀ a, (q a).canLay0 = true
  n : Nat
  dep : ∀ a, (q a).depth ≤ n
  eqv : ∀ a b, PyData.eqv (q a) (q b) = decide (a = b)
theorem Enc.eq {α : Type} [DecidableEq α] (E : Enc α) (h : E.n ≤ 64) (a b : α) : eqD (E.c a) (E.c b) = some (decide (a = b)) := by
  unfold eqD
  rw [E.hq a, E.hq b]
  have s : ∀ x, SeqAt.shaped (E.q x) = true := fun x => by
    unfold SeqAt.shaped
    rw [E.lay x, decide_eq_true (Nat.le_trans (E.dep x) h)]
    rfl
  simp only [s a, s b, E.eqv, and_self, if_true]
def Enc.int : Enc Int := ⟨.int, .int, fun _ => rfl, fun _ => (by unfold PyData.canLay0; rfl), 0, fun _ => (by unfold PyData.depth; exact Nat.le_refl _), fun a b => (by unfold PyData.eqv; rfl)⟩
def Enc.nat : Enc Nat := ⟨fun i => .int i, fun i => .int i, fun _ => rfl, fun _ => (by unfold PyData.canLay0; rfl), 0, fun _ => (by unfold PyData.depth; exact Nat.le_refl _), fun a b => (by
  unfold PyData.eqv
  show ((a : Int) == (b : Int)) = _
  by_cases h : a = b
  · subst h
    simp
  · rw [decide_eq_false h]
    exact beq_eq_false_iff_ne.mpr fun z => h (by omega))⟩
def Enc.bl : Enc Bool := ⟨.bl, .bool, fun _ => rfl, fun _ => (by unfold PyData.canLay0; rfl), 0, fun _ => (by unfold PyData.depth; exact Nat.le_refl _), fun a b => (by unfold PyData.eqv; rfl)⟩
section
variable {α : Type} [DecidableEq α]
theorem Enc.all (E : Enc α) : ∀ l : List α, toPs (l.map E.c) = some (l.map E.q)
  | [] => rfl
  | a :: r => by
    show (match toP (E.c a), toPs (r.map E.c) with | some p, some ps => some (p :: ps) | _, _ => none) = _
    rw [E.hq a, E.all r]
    rfl
theorem Enc.layAll (E : Enc α) : ∀ l : List α, PyData.canLayAll0 (l.map E.q) = true
  | [] => by
    rw [List.map_nil]
    unfold PyData.canLayAll0
    rfl
  | a :: r => by
    rw [List.map_cons]
    unfold PyData.canLayAll0
    rw [E.lay a, E.layAll r]
    rfl
theorem Enc.depAll (E : Enc α) : ∀ l : List α, PyData.depthAll (l.map E.q) ≤ E.n
  | [] => by
    rw [List.map_nil]
    unfold PyData.depthAll
    exact Nat.zero_le _
  | a :: r => by
    rw [List.map_cons]
    unfold PyData.depthAll
    exact Nat.max_le.mpr ⟨E.dep a, E.depAll r⟩
theorem Enc.eqvAll (E : Enc α) : ∀ a b : List α, PyData.eqvAll (a.map E.q) (b.map E.q) = decide (a = b)
  | [], [] => by
    rw [List.map_nil]
    unfold PyData.eqvAll
    rfl
  | [], _ :: _ => by
    rw [List.map_nil, List.map_cons]
    unfold PyData.eqvAll
    rfl
  | _ :: _, [] => by
    rw [List.map_nil, List.map_cons]
    unfold PyData.eqvAll
    rfl
  | x :: r, y :: s => by
    rw [List.map_cons, List.map_cons]
    unfold PyData.eqvAll
    rw [E.eqv x y, E.eqvAll r s]
    by_cases h : x = y
    · by_cases h2 : r = s
      · simp [h, h2]
      · simp [h, h2]
    · simp [h]
def Enc.tup (E : Enc α) : Enc (List α) := ⟨fun l => .tup (l.map E.c), fun l => .tuple (l.map E.q), fun l => (by unfold toP; rw [E.all l]; rfl), fun l => (by unfold PyData.canLay0; exact E.layAll l), E.n + 1,
  fun l => (by unfold PyData.depth; exact Nat.succ_le_succ (E.depAll l)), fun a b => (by unfold PyData.eqv; exact E.eqvAll a b)⟩
def Enc.lst (E : Enc α) : Enc (List α) := ⟨fun l => .lst (l.map E.c), fun l => .list (l.map E.q), fun l => (by unfold toP; rw [E.all l]; rfl), fun l => (by unfold PyData.canLay0; exact E.layAll l), E.n + 1,
  fun l => (by unfold PyData.depth; exact Nat.succ_le_succ (E.depAll l)), fun a b => (by unfold PyData.eqv; exact E.eqvAll a b)⟩
end
theorem eqD_int (a b : Int) : eqD (.int a) (.int b) = some (decide (a = b)) := Enc.int.eq (by decide) a b
theorem eqD_tn (a b : List Nat) : eqD (.tup (a.map fun (i : Nat) => D.int i)) (.tup (b.map fun (i : Nat) => D.int i)) = some (decide (a = b)) := Enc.nat.tup.eq (by decide) a b
theorem eqD_ti (a b : List Int) : eqD (.tup (a.map D.int)) (.tup (b.map D.int)) = some (decide (a = b)) := Enc.int.tup.eq (by decide) a b
theorem eqD_li (a b : List Int) : eqD (.lst (a.map D.int)) (.lst (b.map D.int)) = some (decide (a = b)) := Enc.int.lst.eq (by decide) a b
end PV
namespace PV
open PySem PySem.Spec L2
theorem eqD_li0 (a : List Int) : eqD (.lst (a.map D.int)) (.lst []) = some (decide (a = [])) := eqD_li a []
theorem eqD_l00 : eqD (.lst []) (.lst []) = some true := eqD_li [] []
theorem eqD_tn0 (a : List Nat) : eqD (.tup (a.map fun (i : Nat) => D.int i)) (.tup []) = some (decide (a = [])) := eqD_tn a []
end PV
namespace PV
open PySem PySem.Spec L2
theorem iRange1_nat {n : Nat} (h : n ≤ 1000000) : iRange1 [.int (n : Int)] = some ((List.range n).map fun (i : Nat) => D.int i) := by
  show (if -1000000 ≤ (n : Int) ∧ (n : Int) ≤ 1000000 then some ((List.range (n : Int).toNat).map fun (k : Nat) => D.int k) else none) = _
  rw [if_pos (by omega), Int.toNat_natCast]
theorem oRng_nat {n : Nat} (k : List D → D) (h : n ≤ 1000000) : oRngL k [.int (n : Int)] = some (k ((List.range n).map fun (i : Nat) => D.int i)) := by
  unfold oRngL
  rw [iRange1_nat h]
  rfl
end PV
namespace PV
open PySem PySem.Spec L2
theorem oMod_ok (x : Int) {j : Int} (h : j ≠ 0) : oMod [.int x, .int j] = some (.int (x.fmod j)) := by
  simp only [oMod, o2I, cMod, decide_eq_true h, if_true]
theorem oMul_ok {x j : Int} (h : cMul x j = true) : oMul [.int x, .int j] = some (.int (x * j)) := by
  simp only [oMul, h, if_true]
theorem oPow_ok {x j : Int} (h : cPow x j = true) : oPow [.int x, .int j] = some (.int (x ^ j.toNat)) := by
  simp only [oPow, o2I, h, if_true]
theorem oFdiv_ok (x : Int) {j : Int} (h : cFdiv x j = true) : oFdiv [.int x, .int j] = some (.int (x / j)) := by
  simp only [oFdiv, o2I, h, if_true]
end PV

/-! what the plain laws of errors use: what a call comes to, held against what is due, by the kernel -/
namespace PV
/-- what a caught call comes to -/
def metR (hs : List Hd) (dd : D) : Rf → Option D
  | .ok _ => some dd
  | .er x => pick hs x
  | .no => none
def metE (hs : List Hd) (dd : D) (f : List D → Rf) : R (List D) → R D
  | .ok ds e => (match metR hs dd (f ds) with
    | some r => .ok r e
    | none => .no)
  | .er x e => (match pick hs x with
    | some r => .ok r e
    | none => .no)
  | .no => .no
theorem mMet_call (hs : List Hd) (dd : D) (f : List D → Rf) (ms : List (En → R D)) (env : En) : mMet hs dd (mCall f ms) env = metE hs dd f (evS ms env) := by
  unfold mMet mCall
  cases evS ms env with
  | ok ds e =>
    show (match (match f ds with | .ok d => R.ok d e | .er x => .er x e | .no => .no : R D) with | .ok _ e => R.ok dd e | .er x e => (match pick hs x with | some d => R.ok d e | none => .no) | .no => .no) = metE hs dd f (.ok ds e)
    simp only [metE, metR]
    cases f ds <;> rfl
  | er x e => rfl
  | no => rfl
theorem metE_ok {hs : List Hd} {dd : D} {f : List D → Rf} {ds : List D} {e : En} {r : D} (h : metR hs dd (f ds) = some r) : metE hs dd f (.ok ds e) = .ok r e := by
  unfold metE
  simp only [h]
mutual
def same : D → D → Bool
  | .non, .non => true
  | .bl a, .bl b => a == b
  | .int a, .int b => a == b
  | .str a, .str b => a == b
  | .tup a, .tup b => sames a b
  | .lst a, .lst b => sames a b
  | _, _ => false
def sames : List D → List D → Bool
  | [], [] => true
  | a :: r, b :: t => same a b && sames r t
  | _, _ => false
end
mutual
theorem same_eq : ∀ {a b : D}, same a b = true → a = b
  | .non, b, h => by cases b <;> first | rfl | (unfold same at h; cases h)
  | .bl x, b, h => by
    cases b <;> first | (unfold same at h; rw [eq_of_beq h]) | (unfold same at h; cases h)
  | .int x, b, h => by
    cases b <;> first | (unfold same at h; rw [eq_of_beq h]) | (unfold same at h; cases h)
  | .str x, b, h => by
    cases b <;> first | (unfold same at h; rw [eq_of_beq h]) | (unfold same at h; cases h)
  | .tup x, b, h => by
    cases b <;> first | (unfold same at h; rw [sames_eq h]) | (unfold same at h; cases h)
  | .lst x, b, h => by
    cases b <;> first | (unfold same at h; rw [sames_eq h]) | (unfold same at h; cases h)
  | .ro x, b, h => by cases b <;> (unfold same at h; cases h)
  | .dik x, b, h => by cases b <;> (unfold same at h; cases h)
  | .dit x, b, h => by cases b <;> (unfold same at h; cases h)
  | .ins _ x, b, h => by cases b <;> (unfold same at h; cases h)
  | .fn x, b, h => by cases b <;> (unfold same at h; cases h)
theorem sames_eq : ∀ {a b : List D}, sames a b = true → a = b
  | [], [], _ => rfl
  | [], _ :: _, h => by unfold sames at h; cases h
  | _ :: _, [], h => by unfold sames at h; cases h
  | a :: r, b :: t, h => by
    unfold sames at h
    rw [Bool.and_eq_true] at h
    rw [same_eq h.1, sames_eq h.2]
end
def sameO (o : Option D) (d : D) : Bool := match o with
  | some a => same a d
  | none => false
theorem sameO_eq {o : Option D} {d : D} (h : sameO o d = true) : o = some d := by
  cases o with
  | none => cases h
  | some a => rw [same_eq h]
theorem all1 {l : List D} {F : D → Option D} {G : D → D} (h : (l.all fun v => sameO (F v) (G v)) = true) : ∀ v ∈ l, F v = some (G v) := fun v hv => sameO_eq (List.all_eq_true.mp h v hv)
theorem all2 {l m : List D} {F : D → D → Option D} {G : D → D → D} (h : (l.all fun v => m.all fun u => sameO (F v u) (G v u)) = true) : ∀ v ∈ l, ∀ u ∈ m, F v u = some (G v u) := fun v hv u hu => sameO_eq (List.all_eq_true.mp (List.all_eq_true.mp h v hv) u hu)
theorem all3 {l m k : List D} {F : D → D → D → Option D} {G : D → D → D → D} (h : (l.all fun v => m.all fun u => k.all fun w => sameO (F v u w) (G v u w)) = true) : ∀ v ∈ l, ∀ u ∈ m, ∀ w ∈ k, F v u w = some (G v u w) := fun v hv u hu w hw => sameO_eq (List.all_eq_true.mp (List.all_eq_true.mp (List.all_eq_true.mp h v hv) u hu) w hw)
/-- a plain call -/
def okV (o : Rf) : Option D := match o with
  | .ok d => some d
  | _ => none
theorem okV_eq {o : Rf} {d : D} (h : okV o = some d) : o = .ok d := by
  cases o <;> first | (cases h; rfl) | cases h
/-- the text of a value -/
def rep (d : D) : PySem.Str := match oRepr [d] with
  | some (.str z) => z
  | _ => ""
theorem rep_ok {l : List D} (h : (l.all fun v => sameO (oRepr [v]) (.str (rep v))) = true) : ∀ v ∈ l, oRepr [v] = some (.str (rep v)) := all1 h
/-- a body that ends in True -/
def isT (r : Rs) : Bool := match r with
  | .rt (.bl true) _ => true
  | _ => false
theorem isT_eq {r : Rs} (h : isT r = true) : ∃ e, r = .rt (.bl true) e := by
  cases r with
  | rt d e =>
    cases d with
    | bl b =>
      cases b with
      | true => exact ⟨e, rfl⟩
      | false => cases h
    | _ => cases h
  | _ => cases h
end PV

/-! dice, rolls and picks, the same in each law -/
namespace ERB
open PySem L2 PV
/-- slots: 0 script 1 spot 2 cell 3 great -/
def m__law_dice : En → Rs :=
  sSeq (sSet 2 (mIf (mT (mOp oLt [.s 1, .m (mOp oLen [.s 0])])) (mOp oInt [.m (mOp oIxx [.s 0, .s 1])]) (mOp oAdd [.m (mOp oMul [.m (mK (.int 127)), .s 1]), .m (mK (.int 71))]))) <|
  sSeq (sSet 3 (mOp oMod [.m (mOp oMax2 [.m (mK (.int 0)), .m (mOp oSub [.m (mOp oAbs [.s 2]), .m (mOp oPow [.m (mK (.int 10)), .m (mK (.int 16))])])]), .m (mOp oMul [.m (mOp oPow [.m (mK (.int 10)), .m (mK (.int 57))]), .m (mOp oPow [.m (mK (.int 10)), .m (mK (.int 60))])])])) <|
  sRt (mLst [mV 3, mOp oAdd [.m (mOp oAdd [.m (mOp oAdd [.m (mOp oMul [.m (mOp oMod [.m (mOp oAbs [.s 2]), .m (mK (.int 1152921504606846697))]), .m (mK (.int 109))]), .m (mOp oMul [.m (mK (.int 1031)), .s 1])]), .m (mOp oMul [.m (mK (.int 67)), .m (mOp oInt [.m (mOp oLt [.s 2, .m (mK (.int 0))])])])]), .m (mK (.int 53))], mK (.int 0)])
def f__law_dice : List D → Rf := runF 4 m__law_dice

/-- slots: 0 dice 1 most 2 found 3 one 4 two -/
def m__law_roll : En → Rs :=
  sSeq (sIf (mT (mOp oGt [.m (mOp oIxx [.s 0, .m (mK (.int 0))]), .m (mK (.int 0))])) (sSeq (sSet 2 (mOp oMod [.m (mOp oInt [.m (mOp oIxx [.s 0, .m (mK (.int 0))])]), .s 1])) <|
  sSeq (sSub 0 (mK (.int 0)) (mOp oFdiv [.m (mOp oIxx [.s 0, .m (mK (.int 0))]), .s 1])) <|
  sRt (mV 2)) (sNil)) <|
  sSeq (sSub 0 (mK (.int 2)) (mOp oAdd [.m (mOp oIxx [.s 0, .m (mK (.int 2))]), .m (mK (.int 1))])) <|
  sSeq (sSet 3 (mOp oMod [.m (mOp oInt [.m (mOp oAdd [.m (mOp oIxx [.s 0, .m (mK (.int 1))]), .m (mOp oMul [.m (mK (.int 49979687)), .m (mOp oIxx [.s 0, .m (mK (.int 2))])])])]), .m (mK (.int 2305843009213693487))])) <|
  sSeq (sSet 4 (mOp oAdd [.m (mOp oMul [.m (mOp oMod [.m (mOp oInt [.m (mOp oAdd [.m (mOp oMul [.s 3, .s 3]), .m (mOp oMul [.m (mK (.int 113)), .m (mOp oIxx [.s 0, .m (mK (.int 2))])])])]), .m (mK (.int 2305843009213693669))]), .m (mK (.int 6700417))]), .s 3])) <|
  sRt (mOp oMod [.m (mOp oInt [.m (mOp oFdiv [.s 4, .m (mK (.int 65539))])]), .s 1])
def f__law_roll : D → List D → Rr := runR 4 m__law_roll

/-- slots: 0 dice 1 items -/
def m__law_pick : En → Rs :=
  sRt (mOp oIxx [.s 1, .m (mCallR f__law_roll 0 [mOp oLen [.s 1]])])
def f__law_pick : D → List D → Rr := runR 1 m__law_pick
def GD (n : Nat) (d : D) : Prop := ∃ a b c : Int, d = .lst [.int a, .int b, .int c] ∧ 0 ≤ c ∧ c ≤ n
theorem GD.mono {n m : Nat} {d : D} (h : GD n d) (hm : n ≤ m) : GD m d := by
  obtain ⟨a, b, c, e, h1, h2⟩ := h
  exact ⟨a, b, c, e, h1, by omega⟩
theorem log2_le {x : Int} {k : Nat} (h0 : 0 ≤ x) (h : x < 2 ^ (k + 1)) : x.natAbs.log2 ≤ k := by
  rcases Nat.eq_zero_or_pos x.natAbs with z | z
  · rw [z]
    exact Nat.zero_le _
  · refine Nat.le_of_lt_succ ((Nat.log2_lt (by omega)).mpr ?_)
    have : ((x.natAbs : Nat) : Int) = x := by omega
    exact Int.ofNat_lt.mp (by rw [this]; push_cast; exact h)
theorem roll_ok {n : Nat} {d : D} {m : Int} (hd : GD n d) (hn : n ≤ 1000000) (h0 : 0 < m) (h1 : m ≤ 1000000) : ∃ (k : Int) (d' : D), f__law_roll d [.int m] = .ok (.int k) d' ∧ 0 ≤ k ∧ k < m ∧ GD (n + 1) d' := by
  obtain ⟨a, b, c, rfl, hc0, hc⟩ := hd
  have hm0 : m ≠ 0 := by omega
  have hmod : ∀ x : Int, 0 ≤ x.fmod m ∧ x.fmod m < m := fun x => ⟨Int.fmod_nonneg_of_pos x h0, Int.fmod_lt_of_pos x h0⟩
  have hmlog : m.natAbs.log2 < 9000 := Nat.lt_of_le_of_lt (log2_le (k := 19) (by omega) (by omega)) (by decide)
  by_cases ha : 0 < a
  · refine ⟨a.fmod m, .lst [.int (a / m), .int b, .int c], ?_, (hmod a).1, (hmod a).2, a / m, b, c, rfl, hc0, by omega⟩
    simp [f__law_roll, m__law_roll, runD, runF, runR, runRF, startE, rf0, sSeq, sNil, sPass, sEx, sRt, sRtN, sIf, sSet, sSetO, sPar, sAug, sSub, sAsg, sFz, sFor, mOp, evA, evP, fill, evS, mTup, mLst, mV, mK, mT, mNot, mAnd, mOr, mAndV, mOrV, mNotV, mIf, mChain, mCall, mCallL, mCallR, mIsi, mIt, iAny, mSl, evO, mGet, mOwn, PV.val, ownV, setV, free, bindT, bindTs, wipeE, backE, R.bind, R.bs, Rs.bind, Oe.ev, Oe.sl, tYs, isLst, List.map_cons, List.map_nil, List.length_cons, List.length_nil, List.replicate, List.cons_append, List.nil_append, List.append_nil, List.getElem?_cons_zero, List.getElem?_cons_succ, List.getElem?_nil, List.set_cons_zero, List.set_cons_succ, Option.some.injEq, if_true, if_false, Bool.false_eq_true, Nat.sub_self, Nat.reduceSub, Nat.reduceAdd, Nat.reduceLT, reduceCtorEq, ite_true, ite_false, Bool.not_true, Bool.not_false, Option.bind_some, Option.map_some, ne_eq, not_false_eq_true, and_self, and_true, true_and, Nat.succ_ne_self, List.contains_cons, List.contains_nil, String.reduceBEq, Bool.or_true, Bool.true_or, Bool.or_false, Bool.false_or, Bool.and_true, Bool.and_false, Bool.false_and, Bool.true_and, beq_self_eq_true, subN, tyN, PV.imm, Nat.reduceEqDiff, oIxx, oIx, atD, seqD, L2.atI, ixN, kSub, kSetIx, oInt, o2I, cMod, cFdiv, ha, hm0, h0, hmlog]
  · have c1 : cMul 49979687 (c + 1) = true := by
      unfold cMul
      refine decide_eq_true ?_
      have := log2_le (x := c + 1) (k := 19) (by omega) (by omega)
      have e : (49979687 : Int).natAbs.log2 = 25 := by decide +kernel
      omega
    have c2 : cMul 113 (c + 1) = true := by
      unfold cMul
      refine decide_eq_true ?_
      have := log2_le (x := c + 1) (k := 19) (by omega) (by omega)
      have e : (113 : Int).natAbs.log2 = 6 := by decide +kernel
      omega
    generalize hone : (b + 49979687 * (c + 1)).fmod 2305843009213693487 = one
    have hone1 : 0 ≤ one ∧ one < 2305843009213693487 := by
      rw [← hone]
      exact ⟨Int.fmod_nonneg_of_pos _ (by decide), Int.fmod_lt_of_pos _ (by decide)⟩
    have c3 : cMul one one = true := by
      unfold cMul
      refine decide_eq_true ?_
      have := log2_le (x := one) (k := 61) hone1.1 (by omega)
      omega
    generalize htw : (one * one + 113 * (c + 1)).fmod 2305843009213693669 = tw
    have htw1 : 0 ≤ tw ∧ tw < 2305843009213693669 := by
      rw [← htw]
      exact ⟨Int.fmod_nonneg_of_pos _ (by decide), Int.fmod_lt_of_pos _ (by decide)⟩
    have c4 : cMul tw 6700417 = true := by
      unfold cMul
      refine decide_eq_true ?_
      have := log2_le (x := tw) (k := 61) htw1.1 (by omega)
      have e : (6700417 : Int).natAbs.log2 = 22 := by decide +kernel
      omega
    have c5 : Nat.log2 65539 < 9000 := by decide +kernel
    refine ⟨((tw * 6700417 + one) / 65539).fmod m, .lst [.int a, .int b, .int (c + 1)], ?_, (hmod _).1, (hmod _).2, a, b, c + 1, rfl, by omega, by omega⟩
    simp [f__law_roll, m__law_roll, runD, runF, runR, runRF, startE, rf0, sSeq, sNil, sPass, sEx, sRt, sRtN, sIf, sSet, sSetO, sPar, sAug, sSub, sAsg, sFz, sFor, mOp, evA, evP, fill, evS, mTup, mLst, mV, mK, mT, mNot, mAnd, mOr, mAndV, mOrV, mNotV, mIf, mChain, mCall, mCallL, mCallR, mIsi, mIt, iAny, mSl, evO, mGet, mOwn, PV.val, ownV, setV, free, bindT, bindTs, wipeE, backE, R.bind, R.bs, Rs.bind, Oe.ev, Oe.sl, tYs, isLst, List.map_cons, List.map_nil, List.length_cons, List.length_nil, List.replicate, List.cons_append, List.nil_append, List.append_nil, List.getElem?_cons_zero, List.getElem?_cons_succ, List.getElem?_nil, List.set_cons_zero, List.set_cons_succ, Option.some.injEq, if_true, if_false, Bool.false_eq_true, Nat.sub_self, Nat.reduceSub, Nat.reduceAdd, Nat.reduceLT, reduceCtorEq, ite_true, ite_false, Bool.not_true, Bool.not_false, Option.bind_some, Option.map_some, ne_eq, not_false_eq_true, and_self, and_true, true_and, Nat.succ_ne_self, List.contains_cons, List.contains_nil, String.reduceBEq, Bool.or_true, Bool.true_or, Bool.or_false, Bool.false_or, Bool.and_true, Bool.and_false, Bool.false_and, Bool.true_and, beq_self_eq_true, subN, tyN, PV.imm, Nat.reduceEqDiff, oIxx, oIx, atD, seqD, L2.atI, ixN, kSub, kSetIx, oInt, o2I, cMod, cFdiv, ha, hm0, h0, oAdd, oMul, c1, c2, c3, c4, c5, hone, htw]
theorem cMul_small {a b : Int} (ha : a.natAbs < 2 ^ 400000) (hb : b.natAbs < 2 ^ 400000) : cMul a b = true := by
  unfold cMul
  refine decide_eq_true ?_
  have f : ∀ x : Int, x.natAbs < 2 ^ 400000 → x.natAbs.log2 < 400000 := fun x hx => by
    rcases Nat.eq_zero_or_pos x.natAbs with z | z
    · rw [z]
      decide
    · exact (Nat.log2_lt (by omega)).mpr hx
  have h1 := f a ha
  have h2 := f b hb
  omega
theorem small_pow {x : Int} (h : x.natAbs ≤ 2 ^ 64) : x.natAbs < 2 ^ 400000 := Nat.lt_of_le_of_lt h (Nat.pow_lt_pow_right (by decide) (by decide))
theorem dice_ok {ns : List Int} {spot : Nat} (hs : spot ≤ 100) : ∃ d, f__law_dice [.ro (ns.map D.int), .int spot] = .ok d ∧ GD 0 d := by
  have hlen : oLen [.ro (ns.map D.int)] = some (.int (ns.length : Nat)) := by
    show some (D.int (((ns.map D.int).length : Nat) : Int)) = _
    rw [List.length_map]
  have m1 : oMul [.int 127, .int (spot : Int)] = some (.int (127 * spot)) := by
    show (if cMul 127 spot = true then _ else _) = _
    rw [if_pos (cMul_small (small_pow (by decide)) (small_pow (by omega)))]
  have m2 : oMul [.int 1031, .int (spot : Int)] = some (.int (1031 * spot)) := by
    show (if cMul 1031 spot = true then _ else _) = _
    rw [if_pos (cMul_small (small_pow (by decide)) (small_pow (by omega)))]
  have cellx : ∃ cell : Int, (mIf (mT (mOp oLt [.s 1, .m (mOp oLen [.s 0])])) (mOp oInt [.m (mOp oIxx [.s 0, .s 1])]) (mOp oAdd [.m (mOp oMul [.m (mK (.int 127)), .s 1]), .m (mK (.int 71))])) [.fz (.ro (ns.map D.int)), .fz (.int spot), .no, .no] = .ok (.int cell) [.fz (.ro (ns.map D.int)), .fz (.int spot), .no, .no] := by
    by_cases h : spot < ns.length
    · have h' : (spot : Int) < (ns.length : Int) := by omega
      refine ⟨ns[spot], ?_⟩
      have hix : oIxx [.ro (ns.map D.int), .int (spot : Nat)] = some (.int ns[spot]) := by
        show L2.atI (ns.map D.int) (spot : Int) = _
        refine atI_nat ?_
        rw [List.getElem?_map, List.getElem?_eq_getElem h]
        rfl
      simp only [runD, runF, runR, runRF, startE, rf0, sSeq, sNil, sPass, sEx, sRt, sRtN, sIf, sSet, sSetO, sPar, sAug, sSub, sAsg, sFz, sFor, mOp, evA, evP, fill, evS, mTup, mLst, mV, mK, mT, mNot, mAnd, mOr, mAndV, mOrV, mNotV, mIf, mChain, mCall, mCallL, mCallR, mIsi, mIt, iAny, mSl, evO, mGet, mOwn, PV.val, ownV, setV, free, bindT, bindTs, wipeE, backE, R.bind, R.bs, Rs.bind, Oe.ev, Oe.sl, tYs, isLst, List.map_cons, List.map_nil, List.length_cons, List.length_nil, List.replicate, List.cons_append, List.nil_append, List.append_nil, List.getElem?_cons_zero, List.getElem?_cons_succ, List.getElem?_nil, List.set_cons_zero, List.set_cons_succ, Option.some.injEq, if_true, if_false, Bool.false_eq_true, Nat.sub_self, Nat.reduceSub, Nat.reduceAdd, Nat.reduceLT, reduceCtorEq, ite_true, ite_false, Bool.not_true, Bool.not_false, Option.bind_some, Option.map_some, ne_eq, not_false_eq_true, and_self, and_true, true_and, Nat.succ_ne_self, List.contains_cons, List.contains_nil, String.reduceBEq, Bool.or_true, Bool.true_or, Bool.or_false, Bool.false_or, Bool.and_true, Bool.and_false, Bool.false_and, Bool.true_and, beq_self_eq_true, subN, tyN, PV.imm, Nat.reduceEqDiff, hlen, o2I, h', decide_true, hix, oInt]
    · have h' : ¬ (spot : Int) < (ns.length : Int) := by omega
      refine ⟨127 * spot + 71, ?_⟩
      simp only [runD, runF, runR, runRF, startE, rf0, sSeq, sNil, sPass, sEx, sRt, sRtN, sIf, sSet, sSetO, sPar, sAug, sSub, sAsg, sFz, sFor, mOp, evA, evP, fill, evS, mTup, mLst, mV, mK, mT, mNot, mAnd, mOr, mAndV, mOrV, mNotV, mIf, mChain, mCall, mCallL, mCallR, mIsi, mIt, iAny, mSl, evO, mGet, mOwn, PV.val, ownV, setV, free, bindT, bindTs, wipeE, backE, R.bind, R.bs, Rs.bind, Oe.ev, Oe.sl, tYs, isLst, List.map_cons, List.map_nil, List.length_cons, List.length_nil, List.replicate, List.cons_append, List.nil_append, List.append_nil, List.getElem?_cons_zero, List.getElem?_cons_succ, List.getElem?_nil, List.set_cons_zero, List.set_cons_succ, Option.some.injEq, if_true, if_false, Bool.false_eq_true, Nat.sub_self, Nat.reduceSub, Nat.reduceAdd, Nat.reduceLT, reduceCtorEq, ite_true, ite_false, Bool.not_true, Bool.not_false, Option.bind_some, Option.map_some, ne_eq, not_false_eq_true, and_self, and_true, true_and, Nat.succ_ne_self, List.contains_cons, List.contains_nil, String.reduceBEq, Bool.or_true, Bool.true_or, Bool.or_false, Bool.false_or, Bool.and_true, Bool.and_false, Bool.false_and, Bool.true_and, beq_self_eq_true, subN, tyN, PV.imm, Nat.reduceEqDiff, hlen, o2I, h', decide_false, m1, oAdd]
  obtain ⟨cell, hcell⟩ := cellx
  have p1 : oPow [.int 10, .int 16] = some (.int (10 ^ 16)) := by
    show (if cPow 10 16 = true then some (D.int (10 ^ (16 : Int).toNat)) else none) = _
    rw [if_pos (by decide +kernel)]
    rfl
  have p2 : oPow [.int 10, .int 57] = some (.int (10 ^ 57)) := by
    show (if cPow 10 57 = true then some (D.int (10 ^ (57 : Int).toNat)) else none) = _
    rw [if_pos (by decide +kernel)]
    rfl
  have p3 : oPow [.int 10, .int 60] = some (.int (10 ^ 60)) := by
    show (if cPow 10 60 = true then some (D.int (10 ^ (60 : Int).toNat)) else none) = _
    rw [if_pos (by decide +kernel)]
    rfl
  have p4 : oMul [.int (10 ^ 57), .int (10 ^ 60)] = some (.int (10 ^ 117)) := by
    show (if cMul (10 ^ 57) (10 ^ 60) = true then some (D.int (10 ^ 57 * 10 ^ 60)) else none) = _
    rw [if_pos (by decide +kernel)]
    have e : (10 ^ 57 * 10 ^ 60 : Int) = 10 ^ 117 := by decide +kernel
    rw [e]
  have q1 : ∀ x : Int, oMod [.int x, .int (10 ^ 117)] = some (.int (x.fmod (10 ^ 117))) := fun x => by
    exact oMod_ok x (by decide +kernel)
  have q2 : ∀ x : Int, oMod [.int x, .int 1152921504606846697] = some (.int (x.fmod 1152921504606846697)) := fun x => by
    exact oMod_ok x (by decide)
  have q3 : ∀ x : Int, oMul [.int (x.fmod 1152921504606846697), .int 109] = some (.int (x.fmod 1152921504606846697 * 109)) := fun x => by
    have h1 := Int.fmod_nonneg_of_pos x (show (0 : Int) < 1152921504606846697 by decide)
    have h2 := Int.fmod_lt_of_pos x (show (0 : Int) < 1152921504606846697 by decide)
    show (if cMul (x.fmod 1152921504606846697) 109 = true then _ else _) = _
    rw [if_pos (cMul_small (small_pow (by omega)) (small_pow (by decide)))]
  have q4 : ∀ b : Bool, oMul [.int 67, .int (if b = true then 1 else 0)] = some (.int (67 * (if b = true then 1 else 0))) := fun b => by
    cases b <;> rfl
  refine ⟨.lst [.int (((if (if cell < 0 then -cell else cell) - 10 ^ 16 > 0 then (if cell < 0 then -cell else cell) - 10 ^ 16 else 0) : Int).fmod (10 ^ 117)), .int (((if cell < 0 then -cell else cell) : Int).fmod 1152921504606846697 * 109 + 1031 * spot + 67 * (if decide (cell < 0) = true then 1 else 0) + 53), .int 0], ?_, _, _, 0, rfl, Int.le_refl _, Int.le_refl _⟩
  generalize (10 : Int) ^ 117 = big at *
  generalize (10 : Int) ^ 57 = b57 at *
  generalize (10 : Int) ^ 60 = b60 at *
  generalize (10 : Int) ^ 16 = b16 at *
  generalize hm : (mIf (mT (mOp oLt [.s 1, .m (mOp oLen [.s 0])])) (mOp oInt [.m (mOp oIxx [.s 0, .s 1])]) (mOp oAdd [.m (mOp oMul [.m (mK (.int 127)), .s 1]), .m (mK (.int 71))])) = cellm at hcell
  simp only [f__law_dice, m__law_dice, hm]
  simp only [runD, runF, runR, runRF, startE, rf0, sSeq, sNil, sPass, sEx, sRt, sRtN, sIf, sSet, sSetO, sPar, sAug, sSub, sAsg, sFz, sFor, mOp, evA, evP, fill, evS, mTup, mLst, mV, mK, mT, mNot, mAnd, mOr, mAndV, mOrV, mNotV, mIf, mChain, mCall, mCallL, mCallR, mIsi, mIt, iAny, mSl, evO, mGet, mOwn, PV.val, ownV, setV, free, bindT, bindTs, wipeE, backE, R.bind, R.bs, Rs.bind, Oe.ev, Oe.sl, tYs, isLst, List.map_cons, List.map_nil, List.length_cons, List.length_nil, List.replicate, List.cons_append, List.nil_append, List.append_nil, List.getElem?_cons_zero, List.getElem?_cons_succ, List.getElem?_nil, List.set_cons_zero, List.set_cons_succ, Option.some.injEq, if_true, if_false, Bool.false_eq_true, Nat.sub_self, Nat.reduceSub, Nat.reduceAdd, Nat.reduceLT, reduceCtorEq, ite_true, ite_false, Bool.not_true, Bool.not_false, Option.bind_some, Option.map_some, ne_eq, not_false_eq_true, and_self, and_true, true_and, Nat.succ_ne_self, List.contains_cons, List.contains_nil, String.reduceBEq, Bool.or_true, Bool.true_or, Bool.or_false, Bool.false_or, Bool.and_true, Bool.and_false, Bool.false_and, Bool.true_and, beq_self_eq_true, subN, tyN, PV.imm, Nat.reduceEqDiff, hcell, oAbs, oSub, o1I, o2I, p1, oMax2, p2, p3, p4, q1, q2, q3, m2, oInt, q4, oAdd]

theorem oIxx_lst {l : List D} {i : Nat} (h : i < l.length) : oIxx [.lst l, .int (i : Nat)] = some l[i] := by
  show L2.atI l (i : Int) = _
  exact atI_nat (List.getElem?_eq_getElem h)
theorem pick_mem {n : Nat} {d : D} {l : List D} (hd : GD n d) (hn : n ≤ 1000000) (h0 : 0 < l.length) (h1 : l.length ≤ 1000000) : ∃ (x : D) (d' : D), x ∈ l ∧ f__law_pick d [.lst l] = .ok x d' ∧ GD (n + 1) d' := by
  obtain ⟨k, d1, e, k0, k1, g⟩ := roll_ok hd hn (m := (l.length : Nat)) (by omega) (by omega)
  obtain ⟨j, rfl⟩ : ∃ j : Nat, k = (j : Int) := ⟨k.toNat, by omega⟩
  have hj : j < l.length := by omega
  refine ⟨l[j], d1, List.getElem_mem hj, ?_, g⟩
  have hl : oLen [.lst l] = some (.int (l.length : Nat)) := rfl
  have hi := oIxx_lst hj
  simp only [f__law_pick, m__law_pick, runD, runF, runR, runRF, startE, rf0, sSeq, sNil, sPass, sEx, sRt, sRtN, sIf, sSet, sSetO, sPar, sAug, sSub, sAsg, sFz, sFor, mOp, evA, evP, fill, evS, mTup, mLst, mV, mK, mT, mNot, mAnd, mOr, mAndV, mOrV, mNotV, mIf, mChain, mCall, mCallL, mCallR, mIsi, mIt, iAny, mSl, evO, mGet, mOwn, PV.val, ownV, setV, free, bindT, bindTs, wipeE, backE, R.bind, R.bs, Rs.bind, Oe.ev, Oe.sl, tYs, isLst, List.map_cons, List.map_nil, List.length_cons, List.length_nil, List.replicate, List.cons_append, List.nil_append, List.append_nil, List.getElem?_cons_zero, List.getElem?_cons_succ, List.getElem?_nil, List.set_cons_zero, List.set_cons_succ, Option.some.injEq, if_true, if_false, Bool.false_eq_true, Nat.sub_self, Nat.reduceSub, Nat.reduceAdd, Nat.reduceLT, reduceCtorEq, ite_true, ite_false, Bool.not_true, Bool.not_false, Option.bind_some, Option.map_some, ne_eq, not_false_eq_true, and_self, and_true, true_and, Nat.succ_ne_self, List.contains_cons, List.contains_nil, String.reduceBEq, Bool.or_true, Bool.true_or, Bool.or_false, Bool.false_or, Bool.and_true, Bool.and_false, Bool.false_and, Bool.true_and, beq_self_eq_true, subN, tyN, PV.imm, Nat.reduceEqDiff, hl, e, hi]
end ERB

/-! what is told is what is due -/
namespace PV
open PySem
mutual
theorem eqv_self : ∀ {d : D} {p : PyData}, toP d = some p → PyData.eqv p p = true
  | .non, _, h => by unfold toP at h; cases h; rfl
  | .bl b, _, h => by unfold toP at h; cases h; exact beq_self_eq_true b
  | .int i, _, h => by unfold toP at h; cases h; exact beq_self_eq_true i
  | .str z, _, h => by unfold toP at h; cases h; exact beq_self_eq_true z
  | .tup xs, _, h => by
    unfold toP at h
    cases q : toPs xs with
    | none =>
      rw [q] at h
      cases h
    | some ps =>
      rw [q] at h
      cases h
      unfold PyData.eqv
      exact eqvAll_self q
  | .lst xs, _, h => by
    unfold toP at h
    cases q : toPs xs with
    | none =>
      rw [q] at h
      cases h
    | some ps =>
      rw [q] at h
      cases h
      unfold PyData.eqv
      exact eqvAll_self q
  | .ro x, _, h => by unfold toP at h; cases h
  | .dik x, _, h => by unfold toP at h; cases h
  | .dit x, _, h => by unfold toP at h; cases h
  | .ins _ x, _, h => by unfold toP at h; cases h
  | .fn x, _, h => by unfold toP at h; cases h
theorem eqvAll_self : ∀ {d : List D} {p : List PyData}, toPs d = some p → PyData.eqvAll p p = true
  | [], _, h => by unfold toPs at h; cases h; rfl
  | a :: r, _, h => by
    unfold toPs at h
    cases q1 : toP a with
    | none =>
      rw [q1] at h
      cases h
    | some p =>
      cases q2 : toPs r with
      | none =>
        rw [q1, q2] at h
        cases h
      | some ps =>
        rw [q1, q2] at h
        cases h
        unfold PyData.eqvAll
        rw [eqv_self q1, eqvAll_self q2]
        rfl
end
def flatE (d : D) : Bool := match toP d with
  | some p => SeqAt.shaped p
  | none => false
theorem eqD_self {d : D} (h : flatE d = true) : eqD d d = some true := by
  unfold flatE at h
  unfold eqD
  cases q : toP d with
  | none =>
    rw [q] at h
    cases h
  | some p =>
    rw [q] at h
    dsimp only at h ⊢
    rw [if_pos ⟨h, h⟩, eqv_self q]
theorem oEq_self {d : D} (h : flatE d = true) : oEq [d, d] = some (.bl true) := by
  show (eqD d d).map D.bl = _
  rw [eqD_self h]
  rfl
theorem oNe_self {d : D} (h : flatE d = true) : oNe [d, d] = some (.bl false) := by
  show (eqD d d).map (fun b => D.bl !b) = _
  rw [eqD_self h]
  rfl
/-- a body's way, statement by statement -/
def Re (m : En → Rs) (env : En) (r : D) (g : En → Prop) : Prop := ∃ e, m env = .rt r e ∧ g e
theorem re_step {a k : En → Rs} {env env' : En} {r : D} {g : En → Prop} (h : a env = .nx env') (t : Re k env' r g) : Re (sSeq a k) env r g := by
  obtain ⟨e, h1, h2⟩ := t
  refine ⟨e, ?_, h2⟩
  unfold sSeq
  rw [h]
  exact h1
theorem re_end {m : En → Rs} {env e : En} {r : D} {g : En → Prop} (h : m env = .rt r e) (q : g e) : Re m env r g := ⟨e, h, q⟩
theorem runR_end {n : Nat} {m : En → Rs} {d d' r : D} {ds : List D} (h : Re m (.rf d :: startE n ds) r (fun e => rf0 e = some d')) : runR n m d ds = .ok r d' := by
  obtain ⟨e, h1, h2⟩ := h
  unfold runR
  rw [h1]
  simp only [h2]
theorem runD_end {n : Nat} {m : En → Rs} {r : D} {ds : List D} (h : Re m (startE n ds) r (fun _ => True)) : runD n m ds = .ok r := by
  obtain ⟨e, h1, h2⟩ := h
  unfold runD
  rw [h1]
theorem runF_end {n : Nat} {m : En → Rs} {r : D} {ds : List D} (h : Re m (startE n ds) r (fun _ => True)) (hi : imm r = false := by rfl) : runF n m ds = .ok r := by
  obtain ⟨e, h1, h2⟩ := h
  unfold runF
  rw [h1]
  dsimp only
  rw [hi, if_neg Bool.false_ne_true]
theorem metE_eq {hs : List Hd} {dd : D} {f : List D → Rf} {ds : List D} {e : En} : metE hs dd f (.ok ds e) = (match metR hs dd (f ds) with
    | some r => .ok r e
    | none => .no) := rfl
end PV

/-! the law's walk over spots -/
namespace PV
open PySem L2
theorem forS {s : Nat} {body : En → Rs} {P : En → Prop} (h : ∀ i : Nat, i ≤ 100 → ∀ e, P e → ∃ e1 e2, bindT (.n s) (.int (i : Nat)) e = some e1 ∧ body e1 = .nx e2 ∧ P e2) : ∀ (l : List Nat) (e : En), (∀ i ∈ l, i ≤ 100) → P e → ∃ e', forL (.n s) body (l.map fun (i : Nat) => D.int i) e = .nx e' ∧ P e'
  | [], e, _, p => ⟨e, rfl, p⟩
  | i :: r, e, hl, p => by
    obtain ⟨e1, e2, b1, b2, p2⟩ := h i (hl i (List.mem_cons_self ..)) e p
    obtain ⟨e', q, p'⟩ := forS h r e2 (fun j hj => hl j (List.mem_cons_of_mem _ hj)) p2
    refine ⟨e', ?_, p'⟩
    show forL (.n s) body (.int (i : Int) :: _) e = _
    unfold forL
    rw [b1]
    simp only [b2]
    exact q
/-- for spot in range(max(1, min(4, len(script)))) -/
theorem spots_ok {s : Nat} {body : En → Rs} {P : En → Prop} {ns : List Int} {e : En} (h : ∀ i : Nat, i ≤ 100 → ∀ e, P e → ∃ e1 e2, bindT (.n s) (.int (i : Nat)) e = some e1 ∧ body e1 = .nx e2 ∧ P e2) (h0 : e[0]? = some (.fz (.ro (ns.map D.int)))) (p : P e) :
    ∃ e', sFor (mIt iRange1 [mOp oMax2 [.m (mK (.int 1)), .m (mOp oMin2 [.m (mK (.int 4)), .m (mOp oLen [.s 0])])]]) (.n s) body e = .nx e' ∧ P e' := by
  obtain ⟨r, hr, hr3⟩ : ∃ r : Nat, ((if (if (ns.length : Int) < 4 then (ns.length : Int) else 4) > 1 then (if (ns.length : Int) < 4 then (ns.length : Int) else 4) else 1) : Int) = r ∧ r ≤ 4 := by
    by_cases h : (ns.length : Int) < 4
    · simp only [h, if_true]
      by_cases h2 : (ns.length : Int) > 1
      · exact ⟨ns.length, by simp only [h2, if_true], by omega⟩
      · exact ⟨1, by simp only [h2, if_false]; rfl, by decide⟩
    · simp only [h, if_false]
      exact ⟨4, rfl, by decide⟩
  have o1 : oLen [.ro (ns.map D.int)] = some (.int (ns.length : Nat)) := by
    show some (D.int (((ns.map D.int).length : Nat) : Int)) = _
    rw [List.length_map]
  have r1 : iRange1 [.int (r : Int)] = some ((List.range r).map fun (i : Nat) => D.int i) := iRange1_nat (by omega)
  have hm : (mIt iRange1 [mOp oMax2 [.m (mK (.int 1)), .m (mOp oMin2 [.m (mK (.int 4)), .m (mOp oLen [.s 0])])]]) e = .ok ((List.range r).map fun (i : Nat) => D.int i) e := by
    simp only [runD, runF, runR, runRF, startE, rf0, sSeq, sNil, sPass, sEx, sRt, sRtN, sIf, sSet, sSetO, sPar, sAug, sSub, sAsg, sFz, sFor, mOp, evA, evP, fill, evS, mTup, mLst, mV, mK, mT, mNot, mAnd, mOr, mAndV, mOrV, mNotV, mIf, mChain, mCall, mCallL, mCallR, mIsi, mIt, iAny, mSl, evO, mGet, mOwn, PV.val, ownV, setV, free, bindT, bindTs, wipeE, backE, R.bind, R.bs, Rs.bind, Oe.ev, Oe.sl, tYs, isLst, List.map_cons, List.map_nil, List.length_cons, List.length_nil, List.replicate, List.cons_append, List.nil_append, List.append_nil, List.getElem?_cons_zero, List.getElem?_cons_succ, List.getElem?_nil, List.set_cons_zero, List.set_cons_succ, Option.some.injEq, if_true, if_false, Bool.false_eq_true, Nat.sub_self, Nat.reduceSub, Nat.reduceAdd, Nat.reduceLT, reduceCtorEq, ite_true, ite_false, Bool.not_true, Bool.not_false, Option.bind_some, Option.map_some, ne_eq, not_false_eq_true, and_self, and_true, true_and, Nat.succ_ne_self, List.contains_cons, List.contains_nil, String.reduceBEq, Bool.or_true, Bool.true_or, Bool.or_false, Bool.false_or, Bool.and_true, Bool.and_false, Bool.false_and, Bool.true_and, beq_self_eq_true, subN, tyN, PV.imm, Nat.reduceEqDiff, h0, o1, oMin2, oMax2, o2I, hr, r1]
  obtain ⟨e', h1, h2⟩ := forS h (List.range r) e (fun i hi => by have := List.mem_range.mp hi; omega) p
  refine ⟨e', ?_, h2⟩
  unfold sFor
  simp only [hm, R.bs]
  exact h1
/-- a law's body: the spots, then the rest -/
theorem law_end {n : Nat} {a t : En → Rs} {ds : List D} {e' : En} (h : a (startE n ds) = .nx e') (h2 : isT (t e') = true) : runD n (sSeq a t) ds = .ok (.bl true) := by
  obtain ⟨e2, h3⟩ := isT_eq h2
  refine runD_end (re_step h ⟨e2, h3, trivial⟩)
end PV

namespace PV
open PySem L2
def okVD (r : Rf) : D := match r with
  | .ok d => d
  | _ => .non
theorem mMet_callV (hs : List Hd) (dd : D) (tab : List (Str × (List D → Rf))) (i : Nat) (ms : List (En → R D)) (env : En) : mMet hs dd (mCallV tab i ms) env = (match (PV.val env i).bind fnD with
  | some x => (match lookF x tab with
    | some f => metE hs dd f (evS ms env)
    | none => .no)
  | none => .no) := by
  unfold mMet mCallV
  cases (PV.val env i).bind fnD with
  | none => rfl
  | some x =>
    dsimp only
    cases h : lookF x tab with
    | none => rfl
    | some f =>
      dsimp only
      rw [← mMet_call hs dd f ms env]
      rfl
theorem nx_seq {a k : En → Rs} {e e1 e2 : En} (h : a e = .nx e1) (h2 : k e1 = .nx e2) : sSeq a k e = .nx e2 := by
  unfold sSeq
  rw [h]
  exact h2
theorem for_start {mi : En → R (List D)} {T : Tg} {m : En → Rs} {e e1 e2 : En} {ds : List D} (h : mi e = .ok ds e1) (h2 : forL T m ds e1 = .nx e2) : sFor mi T m e = .nx e2 := by
  unfold sFor
  rw [h]
  exact h2
theorem for_cons {T : Tg} {m : En → Rs} {d : D} {ds : List D} {e e1 e2 e3 : En} (hb : bindT T d e = some e1) (hm : m e1 = .nx e2) (h : forL T m ds e2 = .nx e3) : forL T m (d :: ds) e = .nx e3 := by
  unfold forL
  rw [hb]
  simp only [hm]
  exact h
theorem for_nil {T : Tg} {m : En → Rs} {e : En} : forL T m [] e = .nx e := rfl
end PV

namespace PV
open PySem L2
theorem oAdd_ll {xs ys : List D} (h : xs.length + ys.length ≤ 1000) : oAdd [.lst xs, .lst ys] = some (.lst (xs ++ ys)) := by
  have hl : xs.length + ys.length ≤ lim := Nat.le_trans h (by decide)
  show (if xs.length + ys.length ≤ lim then some (D.lst (xs ++ ys)) else none) = _
  rw [if_pos hl]
theorem oCat_ll {xs ys : List D} (h : xs.length + ys.length ≤ 1000) : oCat [.lst xs, .lst ys] = some (.lst (xs ++ ys)) := by
  have hl : xs.length + ys.length ≤ lim := Nat.le_trans h (by decide)
  show (if xs.length + ys.length ≤ lim then some (D.lst (xs ++ ys)) else none) = _
  rw [if_pos hl]
def repX (d : D) : PySem.Str := match oReprX [d] with
  | some (.str s) => s
  | _ => ""
theorem repX_ok {l : List D} (h : (l.all fun v => sameO (oReprX [v]) (.str (repX v))) = true) : ∀ v ∈ l, oReprX [v] = some (.str (repX v)) := all1 h
/-- a word and a repr behind it -/
def wrd (p : PySem.Str) (x : D) : D := .str (p ++ repX x)
theorem wrd_ok {l : List D} {p : PySem.Str} (h : (l.all fun v => sameO (oAdd [.str p, .str (repX v)]) (wrd p v)) = true) : ∀ v ∈ l, oAdd [.str p, .str (repX v)] = some (wrd p v) := all1 h
theorem isT_of {m : En → Rs} {env : En} {r : D} (hr : r = .bl true) (h : Re m env r (fun _ => True)) : isT (m env) = true := by
  obtain ⟨e, he, _⟩ := h
  rw [he, hr]
  rfl
end PV


namespace R
open PySem PySem.Spec PyProof.Rows L2 PV LamX
def topS (i : Nat) : Stmt := PySem.Challenge.pw_ringtables_k19_errors_of_parts.main.body.getD i (.Pass ⟨0, 0, 0, 0⟩)
def mthS (i j : Nat) : Stmt := (clsBody (topS i)).getD j (.Pass ⟨0, 0, 0, 0⟩)
abbrev CL : List Str := ["Table"]
abbrev st__law_dice : Stmt := topS 55
theorem sc__law_dice : FnScope ["script", "spot", "cell", "great"] ["script", "spot"] (defScope st__law_dice) := ⟨rfl, rfl, rfl, by decide +kernel, rfl, by decide +kernel, by decide +kernel⟩
/-- slots: 0 script 1 spot 2 cell 3 great -/
def m__law_dice : En → Rs :=
  sSeq (sSet 2 (mIf (mT (mOp oLt [.s 1, .m (mOp oLen [.s 0])])) (mOp oInt [.m (mOp oIxx [.s 0, .s 1])]) (mOp oAdd [.m (mOp oMul [.m (mK (.int 127)), .s 1]), .m (mK (.int 71))]))) <|
  sSeq (sSet 3 (mOp oMod [.m (mOp oMax2 [.m (mK (.int 0)), .m (mOp oSub [.m (mOp oAbs [.s 2]), .m (mOp oPow [.m (mK (.int 10)), .m (mK (.int 16))])])]), .m (mOp oMul [.m (mOp oPow [.m (mK (.int 10)), .m (mK (.int 57))]), .m (mOp oPow [.m (mK (.int 10)), .m (mK (.int 60))])])])) <|
  sRt (mLst [mV 3, mOp oAdd [.m (mOp oAdd [.m (mOp oAdd [.m (mOp oMul [.m (mOp oMod [.m (mOp oAbs [.s 2]), .m (mK (.int 1152921504606846697))]), .m (mK (.int 109))]), .m (mOp oMul [.m (mK (.int 1031)), .s 1])]), .m (mOp oMul [.m (mK (.int 67)), .m (mOp oInt [.m (mOp oLt [.s 2, .m (mK (.int 0))])])])]), .m (mK (.int 53))], mK (.int 0)])
def f__law_dice : List D → Rf := runF 4 m__law_dice
abbrev st_is_whole_lots : Stmt := topS 17
theorem sc_is_whole_lots : FnScope ["value"] ["value"] (defScope st_is_whole_lots) := ⟨rfl, rfl, rfl, by decide +kernel, rfl, by decide +kernel, by decide +kernel⟩
/-- slots: 0 value -/
def m_is_whole_lots : En → Rs :=
  sRt (mAndV (mIsX CL "int" (mV 0)) (mNotV (mIsX CL "bool" (mV 0))))
def f_is_whole_lots : List D → Rf := runD 1 m_is_whole_lots
abbrev st_is_below : Stmt := topS 18
theorem sc_is_below : FnScope ["value", "many"] ["value", "many"] (defScope st_is_below) := ⟨rfl, rfl, rfl, by decide +kernel, rfl, by decide +kernel, by decide +kernel⟩
/-- slots: 0 value 1 many -/
def m_is_below : En → Rs :=
  sRt (mAndV (mCall f_is_whole_lots [mV 0]) (mChain oLe oLt (mK (.int 0)) (mV 0) (mV 1)))
def f_is_below : List D → Rf := runD 2 m_is_below
abbrev st_is_rising : Stmt := topS 19
theorem sc_is_rising : FnScope ["value", "many", "one", "other"] ["value", "many"] (defScope st_is_rising) := ⟨rfl, rfl, rfl, by decide +kernel, rfl, by decide +kernel, by decide +kernel⟩
/-- slots: 0 value 1 many 2 one 3 other -/
def m_is_rising : En → Rs :=
  sSeq (sIf (mOr (mNot (mT (mIsX CL "tuple" (mV 0)))) (mNot (mT (mOp oAll [.m (mLc (iAny (mV 0)) (.n 2) (tYs) (mCall f_is_below [mV 2, mV 1]) [2])])))) (sRt (mK (.bl false))) (sNil)) <|
  sRt (mOp oAll [.m (mLc (mIt iZip2 [mV 0, mSl (.s 0) (some (mK (.int 1))) none]) (.t [.n 2, .n 3]) (tYs) (mOp oLt [.s 2, .s 3]) [2, 3])])
def f_is_rising : List D → Rf := runD 4 m_is_rising
abbrev st_are_table_parts : Stmt := topS 24
theorem sc_are_table_parts : FnScope ["many", "lots", "lot"] ["many", "lots"] (defScope st_are_table_parts) := ⟨rfl, rfl, rfl, by decide +kernel, rfl, by decide +kernel, by decide +kernel⟩
/-- slots: 0 many 1 lots 2 lot -/
def m_are_table_parts : En → Rs :=
  sSeq (sIf (mOr (mNot (mT (mCall f_is_whole_lots [mV 0]))) (mOr (mNot (mT (mChain oLe oLe (mK (.int 1)) (mV 0) (mK (.int 24))))) (mNot (mT (mIsX CL "tuple" (mV 1)))))) (sRt (mK (.bl false))) (sNil)) <|
  sRt (mAndV (mOp oLe [.m (mOp oLen [.s 1]), .m (mK (.int 24))]) (mOp oAll [.m (mLc (iAny (mV 1)) (.n 2) (tYs) (mCall f_is_rising [mV 2, mV 0]) [2])]))
def f_are_table_parts : List D → Rf := runD 3 m_are_table_parts
abbrev st_head_of : Stmt := topS 11
theorem sc_head_of : FnScope ["mask"] ["mask"] (defScope st_head_of) := ⟨rfl, rfl, rfl, by decide +kernel, rfl, by decide +kernel, by decide +kernel⟩
/-- slots: 0 mask -/
def m_head_of : En → Rs :=
  sRt (mOp oAnd [.s 0, .m (mOp oNeg [.s 0])])
def f_head_of : List D → Rf := runD 1 m_head_of
abbrev st_told_form : Stmt := topS 12
theorem sc_told_form : FnScope ["masks", "found", "zeros", "at", "mask", "left", "told", "head", "bit", "heads"] ["masks"] (defScope st_told_form) := ⟨rfl, rfl, rfl, by decide +kernel, rfl, by decide +kernel, by decide +kernel⟩
/-- slots: 0 masks 1 found 2 zeros 3 at 4 mask 5 left 6 told 7 head 8 bit 9 heads -/
def m_told_form : En → Rs :=
  sSeq (sMul [1, 2] [.fr (mK (.dik [])), .fr (mLst [])]) <|
  sSeq (sFor (iEn (mV 0)) (.t [.n 3, .n 4]) (sSeq (sPar 5 6 (.st (mV 4)) (.st (mOp oShl [.m (mK (.int 1)), .s 3]))) <|
  sSeq (sFor (iAny (mOp oSortedY [.s 1])) (.n 7) (sIf (mT (mOp oNe [.m (mOp oAnd [.s 5, .s 7]), .m (mK (.int 0))])) (sPar 5 6 (.st (mOp oXor [.s 5, .m (mOp oIxx [.m (mOp oIxx [.s 1, .s 7]), .m (mK (.int 0))])])) (.st (mOp oXor [.s 6, .m (mOp oIxx [.m (mOp oIxx [.s 1, .s 7]), .m (mK (.int 1))])]))) (sNil))) <|
  sSeq (sIf (mT (mOp oEq [.s 5, .m (mK (.int 0))])) (sSeq (sEx (mOwn 2 (mV 6) kAppend)) <|
  sCt) (sNil)) <|
  sSeq (sSet 8 (mCall f_head_of [mV 5])) <|
  sSeq (sFor (iAny (mOp oSortedY [.s 1])) (.n 7) (sIf (mT (mOp oNe [.m (mOp oAnd [.m (mOp oIxx [.m (mOp oIxx [.s 1, .s 7]), .m (mK (.int 0))]), .s 8]), .m (mK (.int 0))])) (sSub 1 (mV 7) (mTup [mOp oXor [.m (mOp oIxx [.m (mOp oIxx [.s 1, .s 7]), .m (mK (.int 0))]), .s 5], mOp oXor [.m (mOp oIxx [.m (mOp oIxx [.s 1, .s 7]), .m (mK (.int 1))]), .s 6]])) (sNil))) <|
  sSub 1 (mV 8) (mTup [mV 5, mV 6]))) <|
  sSeq (sSet 9 (mOp oSortedY [.s 1])) <|
  sFz 2 <| sRt (mTup [mLc (iAny (mV 9)) (.n 7) (tYs) (mOp oIxx [.m (mOp oIxx [.s 1, .s 7]), .m (mK (.int 0))]) [7], mLc (iAny (mV 9)) (.n 7) (tYs) (mOp oIxx [.m (mOp oIxx [.s 1, .s 7]), .m (mK (.int 1))]) [7], mV 2])
def f_told_form : List D → Rf := runD 10 m_told_form
abbrev st_form_masks : Stmt := topS 13
theorem sc_form_masks : FnScope ["masks"] ["masks"] (defScope st_form_masks) := ⟨rfl, rfl, rfl, by decide +kernel, rfl, by decide +kernel, by decide +kernel⟩
/-- slots: 0 masks -/
def m_form_masks : En → Rs :=
  sRt (mOp oIxx [.m (mCall f_told_form [mV 0]), .m (mK (.int 0))])
def f_form_masks : List D → Rf := runD 1 m_form_masks
abbrev st_lot_of : Stmt := topS 10
theorem sc_lot_of : FnScope ["mask", "found", "left", "low"] ["mask"] (defScope st_lot_of) := ⟨rfl, rfl, rfl, by decide +kernel, rfl, by decide +kernel, by decide +kernel⟩
/-- slots: 0 mask 1 found 2 left 3 low -/
def m_lot_of : En → Rs :=
  sSeq (sPar 1 2 (.fr (mLst [])) (.st (mV 0))) <|
  sSeq (sWhile (mT (mOp oNe [.s 2, .m (mK (.int 0))])) (sSeq (sSet 3 (mOp oAnd [.s 2, .m (mOp oNeg [.s 2])])) <|
  sSeq (sEx (mOwn 1 (mOp oSub [.m (mOp oBits [.s 3]), .m (mK (.int 1))]) kAppend)) <|
  sAug 2 oXor (mV 3))) <|
  sRt (mOp oTuple [.s 1])
def f_lot_of : List D → Rf := runD 4 m_lot_of
abbrev st_told_lots : Stmt := topS 21
theorem sc_told_lots : FnScope ["masks", "mask"] ["masks"] (defScope st_told_lots) := ⟨rfl, rfl, rfl, by decide +kernel, rfl, by decide +kernel, by decide +kernel⟩
/-- slots: 0 masks 1 mask -/
def m_told_lots : En → Rs :=
  sRt (mOp oTuple [.m (mLc (iAny (mV 0)) (.n 1) (tYs) (mCall f_lot_of [mV 1]) [1])])
def f_told_lots : List D → Rf := runD 2 m_told_lots
abbrev st_mask_of : Stmt := topS 9
theorem sc_mask_of : FnScope ["lot", "line"] ["lot"] (defScope st_mask_of) := ⟨rfl, rfl, rfl, by decide +kernel, rfl, by decide +kernel, by decide +kernel⟩
/-- slots: 0 lot 1 line -/
def m_mask_of : En → Rs :=
  sRt (mOp oSum [.m (mLc (iAny (mV 0)) (.n 1) (tYs) (mOp oShl [.m (mK (.int 1)), .s 1]) [1])])
def f_mask_of : List D → Rf := runD 2 m_mask_of
abbrev st_masks_of : Stmt := topS 20
theorem sc_masks_of : FnScope ["lots", "lot"] ["lots"] (defScope st_masks_of) := ⟨rfl, rfl, rfl, by decide +kernel, rfl, by decide +kernel, by decide +kernel⟩
/-- slots: 0 lots 1 lot -/
def m_masks_of : En → Rs :=
  sRt (mLc (iAny (mV 0)) (.n 1) (tYs) (mCall f_mask_of [mV 1]) [1])
def f_masks_of : List D → Rf := runD 2 m_masks_of
abbrev st_Table_init : Stmt := mthS 25 1
theorem sc_Table_init : FnScope ["self", "many", "lots"] ["self", "many", "lots"] (defScope st_Table_init) := ⟨rfl, rfl, rfl, by decide +kernel, rfl, by decide +kernel, by decide +kernel⟩
/-- slots: 0 self 1 many 2 lots -/
def m_Table_init : En → Rs :=
  sSeq (sIf (mNot (mT (mCall f_are_table_parts [mV 1, mV 2]))) (sRz "InvalidTable") (sNil)) <|
  sSeq (sPuts "Table" 0 [2, 1] (mTup [mV 1, mV 2])) <|
  sSeq (sPut "Table" 0 0 (mOp oTuple [.m (mCall f_form_masks [mCall f_masks_of [mV 2]])])) <|
  sPuts "Table" 0 [4, 3] (mTup [mCall f_told_lots [mSlf "Table" 0 0], mOp oLen [.m (mSlf "Table" 0 0)]])
def f_Table_init : List D → Rf := runN "Table" 2 m_Table_init
abbrev st__law_met : Stmt := topS 58
theorem sc__law_met : FnScope ["call", "error"] ["call"] (defScope st__law_met) := ⟨rfl, rfl, rfl, by decide +kernel, rfl, by decide +kernel, by decide +kernel⟩
def hs__law_met : List Hd := [⟨[("InvalidTable", true), ("InvalidNumber", false), ("TooMany", false), ("Refused", false), ("InvalidOperation", false)], none, uK (.str "table")⟩,
  ⟨[("InvalidTable", false), ("InvalidNumber", false), ("TooMany", false), ("Refused", false), ("InvalidOperation", true)], none, uK (.str "operation")⟩,
  ⟨[("InvalidTable", false), ("InvalidNumber", true), ("TooMany", false), ("Refused", false), ("InvalidOperation", false)], some 1, uOp oAdd (uK (.str "number ")) (uCall oReprX (uFld "InvalidNumber" "given"))⟩,
  ⟨[("InvalidTable", false), ("InvalidNumber", false), ("TooMany", false), ("Refused", true), ("InvalidOperation", false)], some 1, uOp oAdd (uK (.str "refused ")) (uCall oReprX (uFld "Refused" "reason"))⟩,
  ⟨[("InvalidTable", false), ("InvalidNumber", false), ("TooMany", true), ("Refused", false), ("InvalidOperation", false)], some 1, uOp oAdd (uK (.str "many ")) (uCall oReprX (uFld "TooMany" "limit"))⟩]
def dd__law_met : D := .str "fine"
abbrev st_require_table : Stmt := topS 27
theorem sc_require_table : FnScope ["value"] ["value"] (defScope st_require_table) := ⟨rfl, rfl, rfl, by decide +kernel, rfl, by decide +kernel, by decide +kernel⟩
/-- slots: 0 value -/
def m_require_table : En → Rs :=
  sIf (mNot (mT (mIsC CL "Table" (mV 0)))) (sRz "InvalidTable") (sNil)
def f_require_table : List D → Rf := runD 1 m_require_table
abbrev st_linked_parts : Stmt := topS 16
theorem sc_linked_parts : FnScope ["masks", "many", "marks", "mask", "some", "line", "mark"] ["masks", "many"] (defScope st_linked_parts) := ⟨rfl, rfl, rfl, by decide +kernel, rfl, by decide +kernel, by decide +kernel⟩
/-- slots: 0 masks 1 many 2 marks 3 mask 4 some 5 line 6 mark -/
def m_linked_parts : En → Rs :=
  sSeq (sSet 2 (mOp (oRngL .lst) [.m (mV 1)])) <|
  sSeq (sFor (iAny (mV 0)) (.n 3) (sSeq (sSet 4 (mLc (iAny (mCall f_lot_of [mV 3])) (.n 5) (tYs) (mOp oIxx [.s 2, .s 5]) [5])) <|
  sSet 2 (mLc (iAny (mV 2)) (.n 6) (tYs) (mIf (mT (mOp (inY false) [.s 6, .s 4])) (mOp oMin1 [.s 4]) (mV 6)) [6]))) <|
  sRt (mLc (iAny (mOp oSrtSetY [.s 2])) (.n 6) (tYs) (mOp oTuple [.m (mLc (mIt iRange1 [mV 1]) (.n 5) (mT (mOp oEq [.m (mOp oIxx [.s 2, .s 5]), .s 6])) (mV 5) [5])]) [6])
def f_linked_parts : List D → Rf := runD 7 m_linked_parts
abbrev st_parts_in : Stmt := topS 38
theorem sc_parts_in : FnScope ["table"] ["table"] (defScope st_parts_in) := ⟨rfl, rfl, rfl, by decide +kernel, rfl, by decide +kernel, by decide +kernel⟩
/-- slots: 0 table -/
def m_parts_in : En → Rs :=
  sRt (mCall f_linked_parts [mFld "Table" 0 (mV 0), mFld "Table" 2 (mV 0)])
def f_parts_in : List D → Rf := runD 1 m_parts_in
abbrev st_parts : Stmt := topS 47
theorem sc_parts : FnScope ["table"] ["table"] (defScope st_parts) := ⟨rfl, rfl, rfl, by decide +kernel, rfl, by decide +kernel, by decide +kernel⟩
/-- slots: 0 table -/
def m_parts : En → Rs :=
  sSeq (sEx (mCall f_require_table [mV 0])) <|
  sRt (mOp oTuple [.m (mCall f_parts_in [mV 0])])
def f_parts : List D → Rf := runD 1 m_parts
abbrev st__law_roll : Stmt := topS 56
theorem sc__law_roll : FnScope ["dice", "most", "found", "one", "two"] ["dice", "most"] (defScope st__law_roll) := ⟨rfl, rfl, rfl, by decide +kernel, rfl, by decide +kernel, by decide +kernel⟩
/-- slots: 0 dice 1 most 2 found 3 one 4 two -/
def m__law_roll : En → Rs :=
  sSeq (sIf (mT (mOp oGt [.m (mOp oIxx [.s 0, .m (mK (.int 0))]), .m (mK (.int 0))])) (sSeq (sSet 2 (mOp oMod [.m (mOp oInt [.m (mOp oIxx [.s 0, .m (mK (.int 0))])]), .s 1])) <|
  sSeq (sSub 0 (mK (.int 0)) (mOp oFdiv [.m (mOp oIxx [.s 0, .m (mK (.int 0))]), .s 1])) <|
  sRt (mV 2)) (sNil)) <|
  sSeq (sSub 0 (mK (.int 2)) (mOp oAdd [.m (mOp oIxx [.s 0, .m (mK (.int 2))]), .m (mK (.int 1))])) <|
  sSeq (sSet 3 (mOp oMod [.m (mOp oInt [.m (mOp oAdd [.m (mOp oIxx [.s 0, .m (mK (.int 1))]), .m (mOp oMul [.m (mK (.int 49979687)), .m (mOp oIxx [.s 0, .m (mK (.int 2))])])])]), .m (mK (.int 2305843009213693487))])) <|
  sSeq (sSet 4 (mOp oAdd [.m (mOp oMul [.m (mOp oMod [.m (mOp oInt [.m (mOp oAdd [.m (mOp oMul [.s 3, .s 3]), .m (mOp oMul [.m (mK (.int 113)), .m (mOp oIxx [.s 0, .m (mK (.int 2))])])])]), .m (mK (.int 2305843009213693669))]), .m (mK (.int 6700417))]), .s 3])) <|
  sRt (mOp oMod [.m (mOp oInt [.m (mOp oFdiv [.s 4, .m (mK (.int 65539))])]), .s 1])
def f__law_roll : D → List D → Rr := runR 4 m__law_roll
abbrev st__law_pick : Stmt := topS 57
theorem sc__law_pick : FnScope ["dice", "items"] ["dice", "items"] (defScope st__law_pick) := ⟨rfl, rfl, rfl, by decide +kernel, rfl, by decide +kernel, by decide +kernel⟩
/-- slots: 0 dice 1 items -/
def m__law_pick : En → Rs :=
  sRt (mOp oIxx [.s 1, .m (mCallR f__law_roll 0 [mOp oLen [.s 1]])])
def f__law_pick : D → List D → Rr := runR 1 m__law_pick
abbrev st_does_hang : Stmt := topS 48
theorem sc_does_hang : FnScope ["table"] ["table"] (defScope st_does_hang) := ⟨rfl, rfl, rfl, by decide +kernel, rfl, by decide +kernel, by decide +kernel⟩
/-- slots: 0 table -/
def m_does_hang : En → Rs :=
  sSeq (sEx (mCall f_require_table [mV 0])) <|
  sRt (mOp oEq [.m (mOp oLen [.m (mCall f_parts_in [mV 0])]), .m (mK (.int 1))])
def f_does_hang : List D → Rf := runD 1 m_does_hang
abbrev st_rank_within : Stmt := topS 34
theorem sc_rank_within : FnScope ["table", "mask", "row"] ["table", "mask"] (defScope st_rank_within) := ⟨rfl, rfl, rfl, by decide +kernel, rfl, by decide +kernel, by decide +kernel⟩
/-- slots: 0 table 1 mask 2 row -/
def m_rank_within : En → Rs :=
  sRt (mOp oLen [.m (mCall f_form_masks [mLc (iAny (mFld "Table" 0 (mV 0))) (.n 2) (tYs) (mOp oAnd [.s 2, .s 1]) [2]])])
def f_rank_within : List D → Rf := runD 3 m_rank_within
abbrev st_Table_size : Stmt := mthS 25 5
theorem sc_Table_size : FnScope ["self"] ["self"] (defScope st_Table_size) := ⟨rfl, rfl, rfl, by decide +kernel, rfl, by decide +kernel, by decide +kernel⟩
/-- slots: 0 self -/
def m_Table_size : En → Rs :=
  sRt (mFld "Table" 3 (mV 0))
def f_Table_size : List D → Rf := runD 1 m_Table_size
abbrev st_beyond_parts : Stmt := topS 35
theorem sc_beyond_parts : FnScope ["table", "lot", "line"] ["table", "lot"] (defScope st_beyond_parts) := ⟨rfl, rfl, rfl, by decide +kernel, rfl, by decide +kernel, by decide +kernel⟩
/-- slots: 0 table 1 lot 2 line -/
def m_beyond_parts : En → Rs :=
  sRt (mOp oTuple [.m (mLc (mIt iRange1 [mFld "Table" 2 (mV 0)]) (.n 2) (mT (mOp (inY true) [.s 2, .s 1])) (mV 2) [2])])
def f_beyond_parts : List D → Rf := runD 3 m_beyond_parts
abbrev st_is_seam_in : Stmt := topS 43
theorem sc_is_seam_in : FnScope ["table", "value", "within", "without", "lot"] ["table", "value"] (defScope st_is_seam_in) := ⟨rfl, rfl, rfl, by decide +kernel, rfl, by decide +kernel, by decide +kernel⟩
/-- slots: 0 table 1 value 2 within 3 without 4 lot -/
def m_is_seam_in : En → Rs :=
  sSeq (sIf (mOr (mNot (mT (mCall f_is_rising [mV 1, mFld "Table" 2 (mV 0)]))) (mT (mOp oGt [.m (mOp oLen [.m (mCall f_parts_in [mV 0])]), .m (mK (.int 1))]))) (sRt (mK (.bl false))) (sNil)) <|
  sSeq (sIf (mOr (mT (mOp oLt [.m (mOp oLen [.s 1]), .m (mK (.int 2))])) (mT (mOp oLt [.m (mOp oSub [.m (mFld "Table" 2 (mV 0)), .m (mOp oLen [.s 1])]), .m (mK (.int 2))]))) (sRt (mK (.bl false))) (sNil)) <|
  sSeq (sUnp [.n 2, .n 3] (mLc (iAny (mTup [mV 1, mCall f_beyond_parts [mV 0, mV 1]])) (.n 4) (tYs) (mCall f_rank_within [mV 0, mCall f_mask_of [mV 4]]) [4])) <|
  sRt (mOp oEq [.m (mOp oAdd [.s 2, .s 3]), .m (mOp oAdd [.m (mProp "Table" f_Table_size (mV 0)), .m (mK (.int 1))])])
def f_is_seam_in : List D → Rf := runD 5 m_is_seam_in
abbrev st_is_seam : Stmt := topS 52
theorem sc_is_seam : FnScope ["table", "value"] ["table", "value"] (defScope st_is_seam) := ⟨rfl, rfl, rfl, by decide +kernel, rfl, by decide +kernel, by decide +kernel⟩
/-- slots: 0 table 1 value -/
def m_is_seam : En → Rs :=
  sSeq (sEx (mCall f_require_table [mV 0])) <|
  sRt (mCall f_is_seam_in [mV 0, mV 1])
def f_is_seam : List D → Rf := runD 2 m_is_seam
abbrev st_require_index : Stmt := topS 28
theorem sc_require_index : FnScope ["value", "many"] ["value", "many"] (defScope st_require_index) := ⟨rfl, rfl, rfl, by decide +kernel, rfl, by decide +kernel, by decide +kernel⟩
/-- slots: 0 value 1 many -/
def m_require_index : En → Rs :=
  sIf (mOr (mNot (mT (mCall f_is_whole_lots [mV 0]))) (mNot (mT (mChain oLe oLt (mK (.int 0)) (mV 0) (mV 1))))) (sRz1 "InvalidNumber" "given" (mV 0)) (sNil)
def f_require_index : List D → Rf := runD 2 m_require_index
abbrev st_table_by : Stmt := topS 26
theorem sc_table_by : FnScope ["many", "masks"] ["many", "masks"] (defScope st_table_by) := ⟨rfl, rfl, rfl, by decide +kernel, rfl, by decide +kernel, by decide +kernel⟩
/-- slots: 0 many 1 masks -/
def m_table_by : En → Rs :=
  sRt (mCall f_Table_init [mV 0, mCall f_told_lots [mCall f_form_masks [mV 1]]])
def f_table_by : List D → Rf := runD 2 m_table_by
abbrev st_renamed : Stmt := topS 36
theorem sc_renamed : FnScope ["mask", "lot", "at", "line"] ["mask", "lot"] (defScope st_renamed) := ⟨rfl, rfl, rfl, by decide +kernel, rfl, by decide +kernel, by decide +kernel⟩
/-- slots: 0 mask 1 lot 2 at 3 line -/
def m_renamed : En → Rs :=
  sRt (mCall f_mask_of [mLc (iEn (mV 1)) (.t [.n 2, .n 3]) (mT (mOp oEq [.m (mOp oAnd [.m (mOp oShr [.s 0, .s 3]), .m (mK (.int 1))]), .m (mK (.int 1))])) (mV 2) [2, 3]])
def f_renamed : List D → Rf := runD 4 m_renamed
abbrev st_table_within : Stmt := topS 39
theorem sc_table_within : FnScope ["table", "part", "whole", "row"] ["table", "part"] (defScope st_table_within) := ⟨rfl, rfl, rfl, by decide +kernel, rfl, by decide +kernel, by decide +kernel⟩
/-- slots: 0 table 1 part 2 whole 3 row -/
def m_table_within : En → Rs :=
  sSeq (sSet 2 (mCall f_mask_of [mV 1])) <|
  sRt (mCall f_table_by [mOp oLen [.s 1], mLc (iAny (mFld "Table" 0 (mV 0))) (.n 3) (mT (mOp oNe [.m (mOp oAnd [.s 3, .s 2]), .m (mK (.int 0))])) (mCall f_renamed [mV 3, mV 1]) [3]])
def f_table_within : List D → Rf := runD 4 m_table_within
abbrev st_part_table : Stmt := topS 49
theorem sc_part_table : FnScope ["table", "part", "told"] ["table", "part"] (defScope st_part_table) := ⟨rfl, rfl, rfl, by decide +kernel, rfl, by decide +kernel, by decide +kernel⟩
/-- slots: 0 table 1 part 2 told -/
def m_part_table : En → Rs :=
  sSeq (sEx (mCall f_require_table [mV 0])) <|
  sSeq (sSet 2 (mCall f_parts_in [mV 0])) <|
  sSeq (sEx (mCall f_require_index [mV 1, mOp oLen [.s 2]])) <|
  sRt (mTup [mCall f_table_within [mV 0, mOp oIxx [.s 2, .s 1]], mOp oIxx [.s 2, .s 1]])
def f_part_table : List D → Rf := runD 3 m_part_table
abbrev st_require_two_parts : Stmt := topS 45
theorem sc_require_two_parts : FnScope ["one", "other"] ["one", "other"] (defScope st_require_two_parts) := ⟨rfl, rfl, rfl, by decide +kernel, rfl, by decide +kernel, by decide +kernel⟩
/-- slots: 0 one 1 other -/
def m_require_two_parts : En → Rs :=
  sSeq (sEx (mCall f_require_table [mV 0])) <|
  sEx (mCall f_require_table [mV 1])
def f_require_two_parts : List D → Rf := runD 2 m_require_two_parts
abbrev st_need_few : Stmt := topS 46
theorem sc_need_few : FnScope ["many"] ["many"] (defScope st_need_few) := ⟨rfl, rfl, rfl, by decide +kernel, rfl, by decide +kernel, by decide +kernel⟩
/-- slots: 0 many -/
def m_need_few : En → Rs :=
  sIf (mT (mOp oGt [.s 0, .m (mK (.int 24))])) (sRz1 "TooMany" "limit" (mK (.int 24))) (sNil)
def f_need_few : List D → Rf := runD 1 m_need_few
abbrev st_beside_in : Stmt := topS 40
theorem sc_beside_in : FnScope ["one", "other", "many", "row"] ["one", "other"] (defScope st_beside_in) := ⟨rfl, rfl, rfl, by decide +kernel, rfl, by decide +kernel, by decide +kernel⟩
/-- slots: 0 one 1 other 2 many 3 row -/
def m_beside_in : En → Rs :=
  sSeq (sSet 2 (mFld "Table" 2 (mV 0))) <|
  sRt (mCall f_table_by [mOp oAdd [.s 2, .m (mFld "Table" 2 (mV 1))], mLstS [.s (mFld "Table" 0 (mV 0)), .s (mLc (iAny (mFld "Table" 0 (mV 1))) (.n 3) (tYs) (mOp oShl [.s 3, .s 2]) [3])]])
def f_beside_in : List D → Rf := runD 4 m_beside_in
abbrev st_beside : Stmt := topS 50
theorem sc_beside : FnScope ["one", "other"] ["one", "other"] (defScope st_beside) := ⟨rfl, rfl, rfl, by decide +kernel, rfl, by decide +kernel, by decide +kernel⟩
/-- slots: 0 one 1 other -/
def m_beside : En → Rs :=
  sSeq (sEx (mCall f_require_two_parts [mV 0, mV 1])) <|
  sSeq (sEx (mCall f_need_few [mOp oAdd [.m (mFld "Table" 2 (mV 0)), .m (mFld "Table" 2 (mV 1))]])) <|
  sRt (mCall f_beside_in [mV 0, mV 1])
def f_beside : List D → Rf := runD 2 m_beside
abbrev st_require_line_in : Stmt := topS 29
theorem sc_require_line_in : FnScope ["table", "line"] ["table", "line"] (defScope st_require_line_in) := ⟨rfl, rfl, rfl, by decide +kernel, rfl, by decide +kernel, by decide +kernel⟩
/-- slots: 0 table 1 line -/
def m_require_line_in : En → Rs :=
  sSeq (sEx (mCall f_require_table [mV 0])) <|
  sEx (mCall f_require_index [mV 1, mFld "Table" 2 (mV 0)])
def f_require_line_in : List D → Rf := runD 2 m_require_line_in
abbrev st_closed_up : Stmt := topS 37
theorem sc_closed_up : FnScope ["mask", "line", "low"] ["mask", "line"] (defScope st_closed_up) := ⟨rfl, rfl, rfl, by decide +kernel, rfl, by decide +kernel, by decide +kernel⟩
/-- slots: 0 mask 1 line 2 low -/
def m_closed_up : En → Rs :=
  sSeq (sSet 2 (mOp oSub [.m (mOp oShl [.m (mK (.int 1)), .s 1]), .m (mK (.int 1))])) <|
  sRt (mOp oOr [.m (mOp oAnd [.s 0, .s 2]), .m (mOp oAnd [.m (mOp oShr [.s 0, .m (mK (.int 1))]), .m (mOp oInv [.s 2])])])
def f_closed_up : List D → Rf := runD 3 m_closed_up
abbrev st_parted_by : Stmt := topS 41
theorem sc_parted_by : FnScope ["table", "line", "bit", "some", "rest", "row"] ["table", "line"] (defScope st_parted_by) := ⟨rfl, rfl, rfl, by decide +kernel, rfl, by decide +kernel, by decide +kernel⟩
/-- slots: 0 table 1 line 2 bit 3 some 4 rest 5 row -/
def m_parted_by : En → Rs :=
  sSeq (sSet 2 (mOp oShl [.m (mK (.int 1)), .s 1])) <|
  sSeq (sSet 3 (mLc (iAny (mFld "Table" 0 (mV 0))) (.n 5) (mT (mOp oNe [.m (mOp oAnd [.s 5, .s 2]), .m (mK (.int 0))])) (mV 5) [5])) <|
  sSeq (sSetO 4 (mLc (iAny (mFld "Table" 0 (mV 0))) (.n 5) (mT (mOp oEq [.m (mOp oAnd [.s 5, .s 2]), .m (mK (.int 0))])) (mV 5) [5])) <|
  sSeq (sIf (mT (mOp oEq [.s 3, .m (mLst [])])) (sFz 4 <| sRt (mTup [mK .non, mLc (iAny (mV 4)) (.n 5) (tYs) (mCall f_closed_up [mV 5, mV 1]) [5]])) (sNil)) <|
  sSeq (sEx (mOwn 4 (mLc (iAny (mSl (.s 3) (some (mK (.int 1))) none)) (.n 5) (tYs) (mOp oXor [.s 5, .m (mOp oIxx [.s 3, .m (mK (.int 0))])]) [5]) kExtend)) <|
  sFz 4 <| sRt (mTup [mCall f_closed_up [mOp oIxx [.s 3, .m (mK (.int 0))], mV 1], mLc (iAny (mV 4)) (.n 5) (tYs) (mCall f_closed_up [mV 5, mV 1]) [5]])
def f_parted_by : List D → Rf := runD 6 m_parted_by
abbrev st_tied_in : Stmt := topS 42
theorem sc_tied_in : FnScope ["one", "line", "other", "further", "first", "here", "second", "there", "many", "lots", "row"] ["one", "line", "other", "further"] (defScope st_tied_in) := ⟨rfl, rfl, rfl, by decide +kernel, rfl, by decide +kernel, by decide +kernel⟩
/-- slots: 0 one 1 line 2 other 3 further 4 first 5 here 6 second 7 there 8 many 9 lots 10 row -/
def m_tied_in : En → Rs :=
  sSeq (sAsg (.t [.n 4, .n 5]) (mCall f_parted_by [mV 0, mV 1])) <|
  sSeq (sAsg (.t [.n 6, .n 7]) (mCall f_parted_by [mV 2, mV 3])) <|
  sSeq (sSet 8 (mOp oSub [.m (mFld "Table" 2 (mV 0)), .m (mK (.int 1))])) <|
  sSeq (sSetO 9 (mLstS [.s (mV 5), .s (mLc (iAny (mV 7)) (.n 10) (tYs) (mOp oShl [.s 10, .s 8]) [10])])) <|
  sSeq (sIf (mAnd (mT (mOp oNotN [.s 4, .m (mK .non)])) (mT (mOp oNotN [.s 6, .m (mK .non)]))) (sEx (mOwn 9 (mOp oOr [.s 4, .m (mOp oShl [.s 6, .s 8])]) kAppend)) (sNil)) <|
  sFz 9 <| sRt (mCall f_table_by [mOp oSub [.m (mOp oAdd [.s 8, .m (mFld "Table" 2 (mV 2))]), .m (mK (.int 1))], mV 9])
def f_tied_in : List D → Rf := runD 11 m_tied_in
abbrev st_tied : Stmt := topS 51
theorem sc_tied : FnScope ["one", "line", "other", "further", "many"] ["one", "line", "other", "further"] (defScope st_tied) := ⟨rfl, rfl, rfl, by decide +kernel, rfl, by decide +kernel, by decide +kernel⟩
/-- slots: 0 one 1 line 2 other 3 further 4 many -/
def m_tied : En → Rs :=
  sSeq (sEx (mCall f_require_line_in [mV 0, mV 1])) <|
  sSeq (sEx (mCall f_require_line_in [mV 2, mV 3])) <|
  sSeq (sSet 4 (mOp oSub [.m (mOp oAdd [.m (mFld "Table" 2 (mV 0)), .m (mFld "Table" 2 (mV 2))]), .m (mK (.int 2))])) <|
  sSeq (sIf (mT (mOp oEq [.s 4, .m (mK (.int 0))])) (sRz1 "Refused" "reason" (mK (.tup [.str "nothing"]))) (sNil)) <|
  sSeq (sEx (mCall f_need_few [mV 4])) <|
  sRt (mCall f_tied_in [mV 0, mV 1, mV 2, mV 3])
def f_tied : List D → Rf := runD 5 m_tied
abbrev st_reduced : Stmt := topS 14
theorem sc_reduced : FnScope ["mask", "form", "left", "one"] ["mask", "form"] (defScope st_reduced) := ⟨rfl, rfl, rfl, by decide +kernel, rfl, by decide +kernel, by decide +kernel⟩
/-- slots: 0 mask 1 form 2 left 3 one -/
def m_reduced : En → Rs :=
  sSeq (sSet 2 (mV 0)) <|
  sSeq (sFor (iAny (mV 1)) (.n 3) (sIf (mT (mOp oNe [.m (mOp oAnd [.s 2, .m (mCall f_head_of [mV 3])]), .m (mK (.int 0))])) (sAug 2 oXor (mV 3)) (sNil))) <|
  sRt (mV 2)
def f_reduced : List D → Rf := runD 4 m_reduced
abbrev st_is_sum_in : Stmt := topS 15
theorem sc_is_sum_in : FnScope ["mask", "form"] ["mask", "form"] (defScope st_is_sum_in) := ⟨rfl, rfl, rfl, by decide +kernel, rfl, by decide +kernel, by decide +kernel⟩
/-- slots: 0 mask 1 form -/
def m_is_sum_in : En → Rs :=
  sRt (mOp oEq [.m (mCall f_reduced [mV 0, mV 1]), .m (mK (.int 0))])
def f_is_sum_in : List D → Rf := runD 2 m_is_sum_in
abbrev st_side_of : Stmt := topS 44
theorem sc_side_of : FnScope ["table", "lot", "whole", "many", "found", "row", "new"] ["table", "lot"] (defScope st_side_of) := ⟨rfl, rfl, rfl, by decide +kernel, rfl, by decide +kernel, by decide +kernel⟩
/-- slots: 0 table 1 lot 2 whole 3 many 4 found 5 row 6 new -/
def m_side_of : En → Rs :=
  sSeq (sMul [2, 3, 4] [.st (mCall f_mask_of [mV 1]), .st (mOp oLen [.s 1]), .fr (mLst [])]) <|
  sSeq (sFor (iAny (mFld "Table" 0 (mV 0))) (.n 5) (sSeq (sSet 6 (mIf (mT (mCall f_is_sum_in [mOp oAnd [.s 5, .s 2], mFld "Table" 0 (mV 0)])) (mK (.int 0)) (mOp oShl [.m (mK (.int 1)), .s 3]))) <|
  sEx (mOwn 4 (mOp oOr [.m (mCall f_renamed [mV 5, mV 1]), .s 6]) kAppend))) <|
  sFz 4 <| sRt (mCall f_table_by [mOp oAdd [.s 3, .m (mK (.int 1))], mV 4])
def f_side_of : List D → Rf := runD 7 m_side_of
abbrev st_taken_apart : Stmt := topS 53
theorem sc_taken_apart : FnScope ["table", "seam"] ["table", "seam"] (defScope st_taken_apart) := ⟨rfl, rfl, rfl, by decide +kernel, rfl, by decide +kernel, by decide +kernel⟩
/-- slots: 0 table 1 seam -/
def m_taken_apart : En → Rs :=
  sSeq (sEx (mCall f_require_table [mV 0])) <|
  sSeq (sIf (mNot (mT (mCall f_is_seam_in [mV 0, mV 1]))) (sRz "InvalidOperation") (sNil)) <|
  sRt (mTup [mCall f_side_of [mV 0, mV 1], mCall f_side_of [mV 0, mCall f_beyond_parts [mV 0, mV 1]]])
def f_taken_apart : List D → Rf := runD 2 m_taken_apart
abbrev st__law_right : Stmt := topS 59
theorem sc__law_right : FnScope ["dice", "real", "small", "none", "line", "part", "wrong", "seam", "told", "due", "call"] ["dice"] (defScope st__law_right) := ⟨rfl, rfl, rfl, by decide +kernel, rfl, by decide +kernel, by decide +kernel⟩
def k__law_right_0 : En → R D := mLst [mK .non, mK (.int 0), mK (.str "table"), mTup [], mTup [mK (.int 2), mTup [mTup [mK (.int 0), mK (.int 1)]]], mK (.dik []), mLst [mV 1], mK (.bl true)]
def k__law_right_1 : En → R D := mLst [mK .non, mOp oNeg [.m (mK (.int 1))], mK (.int 5), mK (.bl true), mK (.str "0"), mTup [mK (.int 0)], mOp oPow [.m (mK (.int 10)), .m (mK (.int 60))], mLst []]
def k__law_right_2 : En → R D := mLst [mK .non, mOp oNeg [.m (mK (.int 1))], mK (.int 1), mK (.bl true), mK (.str "0"), mTup [mK (.int 0)], mOp oPow [.m (mK (.int 10)), .m (mK (.int 60))]]
def k__law_right_3 : En → R D := mTup [mK (.int 0), mK (.int 1), mK (.int 2), mK (.int 3)]
def k__law_right_4 : En → R D := mTup [mK (.int 0), mK (.int 1), mK (.int 2), mK (.int 3), mK (.int 4)]
def k__law_right_5 : En → R D := mLst [mK .non, mK (.int 0), mTup [], mTup [mK (.int 0)], mTup [mK (.int 1), mK (.int 0)], mTup [mK (.int 0), mK (.int 0)], mTup [mK (.int 0), mK (.int 5)], mTup [mK (.bl true), mK (.int 2)], mLst [mK (.int 0), mK (.int 1)], mTup [mK (.int 0), mK (.int 2)], k__law_right_3, k__law_right_4, mK (.str "01"), mK (.dik [])]
def m_lam_law_right_0 : En → R D := mCall f_is_seam [mV 0, mK .non]
def f_lam_law_right_0 : List D → Rf := runE 1 m_lam_law_right_0
def lamD_lam_law_right_0 : LamD := match (lamsS 30 st__law_right)[0]? with
  | some (p, b, c) => ⟨("_law_right" : Str) ++ ".<locals>." ++ "<lambda>", p, b, c⟩
  | none => ⟨"", default, default, default⟩
/-- slots: 0 dice 1 real 2 small 3 none 4 line 5 part 6 wrong 7 seam 8 told 9 due 10 call -/
def m__law_right : En → Rs :=
  sSeq (sAsg (.t [.n 1, .n 2]) (mTup [mCall f_Table_init [mK (.int 5), mTup [mTup [mK (.int 0), mK (.int 1)], mTup [mK (.int 2), mK (.int 3)], mTup [mK (.int 0), mK (.int 2), mK (.int 4)]]], mCall f_Table_init [mK (.int 2), mTup [mTup [mK (.int 0), mK (.int 1)]]]])) <|
  sSeq (sSet 3 (mCallR f__law_pick 0 [k__law_right_0])) <|
  sSeq (sSet 4 (mCallR f__law_pick 0 [k__law_right_1])) <|
  sSeq (sSet 5 (mCallR f__law_pick 0 [k__law_right_2])) <|
  sSeq (sSet 6 (k__law_right_5)) <|
  sSeq (sSet 7 (mCallR f__law_pick 0 [mV 6])) <|
  sSeq (sPar 8 9 (.fr (mLst [])) (.fr (mLst []))) <|
  sSeq (sFor (iAny (mTup [mK (.fn "parts"), mK (.fn "does_hang"), mK (.fn "lam_law_right_0")])) (.n 10) (sSeq (sEx (mOwn 8 (mMet hs__law_met dd__law_met (mCallV [("parts", f_parts), ("does_hang", f_does_hang), ("lam_law_right_0", f_lam_law_right_0)] 10 [mV 3])) kAppend)) <|
  sEx (mOwn 9 (mK (.str "table")) kAppend))) <|
  sSeq (sEx (mOwn 8 (mMet hs__law_met dd__law_met (mCall f_part_table [mV 3, mV 5])) kAppend)) <|
  sSeq (sEx (mOwn 8 (mMet hs__law_met dd__law_met (mCall f_part_table [mV 1, mV 5])) kAppend)) <|
  sSeq (sEx (mOwn 8 (mMet hs__law_met dd__law_met (mCall f_beside [mV 3, mV 3])) kAppend)) <|
  sSeq (sEx (mOwn 8 (mMet hs__law_met dd__law_met (mCall f_beside [mV 1, mV 3])) kAppend)) <|
  sSeq (sEx (mOwn 8 (mMet hs__law_met dd__law_met (mCall f_beside [mV 1, mV 2])) kAppend)) <|
  sSeq (sSetO 9 (mOp oCat [.s 9, .m (mLst [mK (.str "table"), mOp oAdd [.m (mK (.str "number ")), .m (mOp oReprX [.s 5])], mK (.str "table"), mK (.str "table"), mK (.str "fine")])])) <|
  sSeq (sEx (mOwn 8 (mMet hs__law_met dd__law_met (mCall f_tied [mV 3, mV 4, mV 3, mV 4])) kAppend)) <|
  sSeq (sEx (mOwn 8 (mMet hs__law_met dd__law_met (mCall f_tied [mV 1, mV 4, mV 3, mV 4])) kAppend)) <|
  sSeq (sEx (mOwn 8 (mMet hs__law_met dd__law_met (mCall f_tied [mV 1, mK (.int 4), mV 3, mV 4])) kAppend)) <|
  sSeq (sEx (mOwn 8 (mMet hs__law_met dd__law_met (mCall f_tied [mV 1, mK (.int 4), mV 2, mV 4])) kAppend)) <|
  sSeq (sEx (mOwn 8 (mMet hs__law_met dd__law_met (mCall f_tied [mV 1, mK (.int 4), mV 2, mK (.int 1)])) kAppend)) <|
  sSeq (sSetO 9 (mOp oCat [.s 9, .m (mLst [mK (.str "table"), mOp oAdd [.m (mK (.str "number ")), .m (mOp oReprX [.s 4])], mK (.str "table"), mOp oAdd [.m (mK (.str "number ")), .m (mOp oReprX [.s 4])], mK (.str "fine")])])) <|
  sSeq (sEx (mOwn 8 (mMet hs__law_met dd__law_met (mCall f_taken_apart [mV 3, mV 7])) kAppend)) <|
  sSeq (sEx (mOwn 8 (mMet hs__law_met dd__law_met (mCall f_taken_apart [mV 1, mV 7])) kAppend)) <|
  sSeq (sEx (mOwn 8 (mMet hs__law_met dd__law_met (mCall f_taken_apart [mV 1, mTup [mK (.int 0), mK (.int 1)]])) kAppend)) <|
  sSeq (sSetO 9 (mOp oCat [.s 9, .m (mLst [mK (.str "table"), mK (.str "operation"), mK (.str "fine")])])) <|
  sRt (mAndV (mOp oEq [.s 8, .s 9]) (mAndV (mNotV (mCall f_is_seam [mV 1, mV 7])) (mNotV (mCall f_is_seam [mCall f_beside [mV 2, mV 2], mTup [mK (.int 0), mK (.int 1)]]))))
def f__law_right : D → List D → Rr := runR 10 m__law_right
abbrev st_law : Stmt := topS 60
theorem sc_law : FnScope ["script", "spot", "dice", "wide", "told", "many"] ["script"] (defScope st_law) := ⟨rfl, rfl, rfl, by decide +kernel, rfl, by decide +kernel, by decide +kernel⟩
def k_law_0 : En → R D := mTup [mK (.int 12), mK (.int 13), mK (.int 14), mK (.int 2), mK (.int 24)]
def k_law_1 : En → R D := mLst [mK (.str "fine"), mK (.str "many 24"), mK (.str "fine"), mK (.str "many 24"), mK (.str "fine"), mK (.str "refused ('nothing',)")]
/-- slots: 0 script 1 spot 2 dice 3 wide 4 told 5 many -/
def m_law : En → Rs :=
  sSeq (sFor (mIt iRange1 [mOp oMax2 [.m (mK (.int 1)), .m (mOp oMin2 [.m (mK (.int 4)), .m (mOp oLen [.s 0])])]]) (.n 1) (sSeq (sSetO 2 (mCall f__law_dice [mV 0, mV 1])) <|
  sIf (mOr (mNot (mT (mCallR f__law_right 2 []))) (mNot (mT (mCallR f__law_right 2 [])))) (sRt (mK (.bl false))) (sNil))) <|
  sSeq (sSet 3 (mLc (iAny (k_law_0)) (.n 5) (tYs) (mCall f_Table_init [mV 5, mTup [mTup [mK (.int 0), mOp oSub [.s 5, .m (mK (.int 1))]]]]) [5])) <|
  sSeq (sSetO 4 (mLst [mMet hs__law_met dd__law_met (mCall f_beside [mOp oIxx [.s 3, .m (mK (.int 0))], mOp oIxx [.s 3, .m (mK (.int 0))]])])) <|
  sSeq (sEx (mOwn 4 (mMet hs__law_met dd__law_met (mCall f_beside [mOp oIxx [.s 3, .m (mK (.int 0))], mOp oIxx [.s 3, .m (mK (.int 1))]])) kAppend)) <|
  sSeq (sEx (mOwn 4 (mMet hs__law_met dd__law_met (mCall f_tied [mOp oIxx [.s 3, .m (mK (.int 1))], mK (.int 0), mOp oIxx [.s 3, .m (mK (.int 1))], mK (.int 12)])) kAppend)) <|
  sSeq (sEx (mOwn 4 (mMet hs__law_met dd__law_met (mCall f_tied [mOp oIxx [.s 3, .m (mK (.int 1))], mK (.int 0), mOp oIxx [.s 3, .m (mK (.int 2))], mK (.int 13)])) kAppend)) <|
  sSeq (sEx (mOwn 4 (mMet hs__law_met dd__law_met (mCall f_tied [mOp oIxx [.s 3, .m (mK (.int 4))], mK (.int 23), mOp oIxx [.s 3, .m (mK (.int 3))], mK (.int 1)])) kAppend)) <|
  sSeq (sEx (mOwn 4 (mMet hs__law_met dd__law_met (mCall f_tied [mCall f_Table_init [mK (.int 1), mTup []], mK (.int 0), mCall f_Table_init [mK (.int 1), mTup [mTup [mK (.int 0)]]], mK (.int 0)])) kAppend)) <|
  sSeq (sIf (mT (mOp oNe [.s 4, .m (k_law_1)])) (sRt (mK (.bl false))) (sNil)) <|
  sRt (mAndV (mOp oEq [.m (mCall f_parts [mOp oIxx [.s 3, .m (mK (.int 3))]]), .m (mTup [mTup [mK (.int 0), mK (.int 1)]])]) (mOp oEq [.m (mOp oLen [.m (mCall f_parts [mOp oIxx [.s 3, .m (mK (.int 4))]])]), .m (mK (.int 23))]))
def f_law : List D → Rf := runD 6 m_law
end R


namespace R
open PySem PySem.Spec PyProof.Rows L2 PV LamX
def lmT : Str → Option LamD := fun x => if x = "lam_law_right_0" then some lamD_lam_law_right_0 else none
theorem lm_lam_law_right_0 : lmT "lam_law_right_0" = some lamD_lam_law_right_0 := by kernel_rfl
structure Md (P : Program) (K : PySem.W.Frag) (mg : Str → Option Value) where
  me : Addr
  f__law_dice : Addr
  fd__law_dice : FuncData
  F__law_dice : Fun K "_law_dice" "_law_dice" st__law_dice f__law_dice fd__law_dice
  g__law_dice : mg "_law_dice" = some (.ref f__law_dice)
  b__law_dice : L2.Binds K fd__law_dice ["script", "spot"] []
  f_is_whole_lots : Addr
  fd_is_whole_lots : FuncData
  F_is_whole_lots : Fun K "is_whole" "is_whole" st_is_whole_lots f_is_whole_lots fd_is_whole_lots
  g_is_whole_lots : mg "is_whole" = some (.ref f_is_whole_lots)
  b_is_whole_lots : L2.Binds K fd_is_whole_lots ["value"] []
  f_is_below : Addr
  fd_is_below : FuncData
  F_is_below : Fun K "is_below" "is_below" st_is_below f_is_below fd_is_below
  g_is_below : mg "is_below" = some (.ref f_is_below)
  b_is_below : L2.Binds K fd_is_below ["value", "many"] []
  f_is_rising : Addr
  fd_is_rising : FuncData
  F_is_rising : Fun K "is_rising" "is_rising" st_is_rising f_is_rising fd_is_rising
  g_is_rising : mg "is_rising" = some (.ref f_is_rising)
  b_is_rising : L2.Binds K fd_is_rising ["value", "many"] []
  f_are_table_parts : Addr
  fd_are_table_parts : FuncData
  F_are_table_parts : Fun K "are_table_parts" "are_table_parts" st_are_table_parts f_are_table_parts fd_are_table_parts
  g_are_table_parts : mg "are_table_parts" = some (.ref f_are_table_parts)
  b_are_table_parts : L2.Binds K fd_are_table_parts ["many", "lots"] []
  f_head_of : Addr
  fd_head_of : FuncData
  F_head_of : Fun K "head_of" "head_of" st_head_of f_head_of fd_head_of
  g_head_of : mg "head_of" = some (.ref f_head_of)
  b_head_of : L2.Binds K fd_head_of ["mask"] []
  f_told_form : Addr
  fd_told_form : FuncData
  F_told_form : Fun K "told_form" "told_form" st_told_form f_told_form fd_told_form
  g_told_form : mg "told_form" = some (.ref f_told_form)
  b_told_form : L2.Binds K fd_told_form ["masks"] []
  f_form_masks : Addr
  fd_form_masks : FuncData
  F_form_masks : Fun K "form_masks" "form_masks" st_form_masks f_form_masks fd_form_masks
  g_form_masks : mg "form_masks" = some (.ref f_form_masks)
  b_form_masks : L2.Binds K fd_form_masks ["masks"] []
  f_lot_of : Addr
  fd_lot_of : FuncData
  F_lot_of : Fun K "lot_of" "lot_of" st_lot_of f_lot_of fd_lot_of
  g_lot_of : mg "lot_of" = some (.ref f_lot_of)
  b_lot_of : L2.Binds K fd_lot_of ["mask"] []
  f_told_lots : Addr
  fd_told_lots : FuncData
  F_told_lots : Fun K "told_lots" "told_lots" st_told_lots f_told_lots fd_told_lots
  g_told_lots : mg "told_lots" = some (.ref f_told_lots)
  b_told_lots : L2.Binds K fd_told_lots ["masks"] []
  f_mask_of : Addr
  fd_mask_of : FuncData
  F_mask_of : Fun K "mask_of" "mask_of" st_mask_of f_mask_of fd_mask_of
  g_mask_of : mg "mask_of" = some (.ref f_mask_of)
  b_mask_of : L2.Binds K fd_mask_of ["lot"] []
  f_masks_of : Addr
  fd_masks_of : FuncData
  F_masks_of : Fun K "masks_of" "masks_of" st_masks_of f_masks_of fd_masks_of
  g_masks_of : mg "masks_of" = some (.ref f_masks_of)
  b_masks_of : L2.Binds K fd_masks_of ["lots"] []
  f_Table_init : Addr
  fd_Table_init : FuncData
  F_Table_init : Fun K "__init__" "Table.__init__" st_Table_init f_Table_init fd_Table_init
  b_Table_init : L2.Binds K fd_Table_init ["self", "many", "lots"] []
  f__law_met : Addr
  fd__law_met : FuncData
  F__law_met : Fun K "_law_met" "_law_met" st__law_met f__law_met fd__law_met
  g__law_met : mg "_law_met" = some (.ref f__law_met)
  b__law_met : L2.Binds K fd__law_met ["call"] []
  f_require_table : Addr
  fd_require_table : FuncData
  F_require_table : Fun K "require_table" "require_table" st_require_table f_require_table fd_require_table
  g_require_table : mg "require_table" = some (.ref f_require_table)
  b_require_table : L2.Binds K fd_require_table ["value"] []
  f_linked_parts : Addr
  fd_linked_parts : FuncData
  F_linked_parts : Fun K "linked_parts" "linked_parts" st_linked_parts f_linked_parts fd_linked_parts
  g_linked_parts : mg "linked_parts" = some (.ref f_linked_parts)
  b_linked_parts : L2.Binds K fd_linked_parts ["masks", "many"] []
  f_parts_in : Addr
  fd_parts_in : FuncData
  F_parts_in : Fun K "parts_in" "parts_in" st_parts_in f_parts_in fd_parts_in
  g_parts_in : mg "parts_in" = some (.ref f_parts_in)
  b_parts_in : L2.Binds K fd_parts_in ["table"] []
  f_parts : Addr
  fd_parts : FuncData
  F_parts : Fun K "parts" "parts" st_parts f_parts fd_parts
  g_parts : mg "parts" = some (.ref f_parts)
  b_parts : L2.Binds K fd_parts ["table"] []
  f__law_roll : Addr
  fd__law_roll : FuncData
  F__law_roll : Fun K "_law_roll" "_law_roll" st__law_roll f__law_roll fd__law_roll
  g__law_roll : mg "_law_roll" = some (.ref f__law_roll)
  b__law_roll : L2.Binds K fd__law_roll ["dice", "most"] []
  f__law_pick : Addr
  fd__law_pick : FuncData
  F__law_pick : Fun K "_law_pick" "_law_pick" st__law_pick f__law_pick fd__law_pick
  g__law_pick : mg "_law_pick" = some (.ref f__law_pick)
  b__law_pick : L2.Binds K fd__law_pick ["dice", "items"] []
  f_does_hang : Addr
  fd_does_hang : FuncData
  F_does_hang : Fun K "does_hang" "does_hang" st_does_hang f_does_hang fd_does_hang
  g_does_hang : mg "does_hang" = some (.ref f_does_hang)
  b_does_hang : L2.Binds K fd_does_hang ["table"] []
  f_rank_within : Addr
  fd_rank_within : FuncData
  F_rank_within : Fun K "rank_within" "rank_within" st_rank_within f_rank_within fd_rank_within
  g_rank_within : mg "rank_within" = some (.ref f_rank_within)
  b_rank_within : L2.Binds K fd_rank_within ["table", "mask"] []
  f_Table_size : Addr
  fd_Table_size : FuncData
  F_Table_size : Fun K "size" "Table.size" st_Table_size f_Table_size fd_Table_size
  b_Table_size : L2.Binds K fd_Table_size ["self"] []
  f_beyond_parts : Addr
  fd_beyond_parts : FuncData
  F_beyond_parts : Fun K "beyond" "beyond" st_beyond_parts f_beyond_parts fd_beyond_parts
  g_beyond_parts : mg "beyond" = some (.ref f_beyond_parts)
  b_beyond_parts : L2.Binds K fd_beyond_parts ["table", "lot"] []
  f_is_seam_in : Addr
  fd_is_seam_in : FuncData
  F_is_seam_in : Fun K "is_seam_in" "is_seam_in" st_is_seam_in f_is_seam_in fd_is_seam_in
  g_is_seam_in : mg "is_seam_in" = some (.ref f_is_seam_in)
  b_is_seam_in : L2.Binds K fd_is_seam_in ["table", "value"] []
  f_is_seam : Addr
  fd_is_seam : FuncData
  F_is_seam : Fun K "is_seam" "is_seam" st_is_seam f_is_seam fd_is_seam
  g_is_seam : mg "is_seam" = some (.ref f_is_seam)
  b_is_seam : L2.Binds K fd_is_seam ["table", "value"] []
  f_require_index : Addr
  fd_require_index : FuncData
  F_require_index : Fun K "require_index" "require_index" st_require_index f_require_index fd_require_index
  g_require_index : mg "require_index" = some (.ref f_require_index)
  b_require_index : L2.Binds K fd_require_index ["value", "many"] []
  f_table_by : Addr
  fd_table_by : FuncData
  F_table_by : Fun K "table_by" "table_by" st_table_by f_table_by fd_table_by
  g_table_by : mg "table_by" = some (.ref f_table_by)
  b_table_by : L2.Binds K fd_table_by ["many", "masks"] []
  f_renamed : Addr
  fd_renamed : FuncData
  F_renamed : Fun K "renamed" "renamed" st_renamed f_renamed fd_renamed
  g_renamed : mg "renamed" = some (.ref f_renamed)
  b_renamed : L2.Binds K fd_renamed ["mask", "lot"] []
  f_table_within : Addr
  fd_table_within : FuncData
  F_table_within : Fun K "table_within" "table_within" st_table_within f_table_within fd_table_within
  g_table_within : mg "table_within" = some (.ref f_table_within)
  b_table_within : L2.Binds K fd_table_within ["table", "part"] []
  f_part_table : Addr
  fd_part_table : FuncData
  F_part_table : Fun K "part_table" "part_table" st_part_table f_part_table fd_part_table
  g_part_table : mg "part_table" = some (.ref f_part_table)
  b_part_table : L2.Binds K fd_part_table ["table", "part"] []
  f_require_two_parts : Addr
  fd_require_two_parts : FuncData
  F_require_two_parts : Fun K "require_two" "require_two" st_require_two_parts f_require_two_parts fd_require_two_parts
  g_require_two_parts : mg "require_two" = some (.ref f_require_two_parts)
  b_require_two_parts : L2.Binds K fd_require_two_parts ["one", "other"] []
  f_need_few : Addr
  fd_need_few : FuncData
  F_need_few : Fun K "need_few" "need_few" st_need_few f_need_few fd_need_few
  g_need_few : mg "need_few" = some (.ref f_need_few)
  b_need_few : L2.Binds K fd_need_few ["many"] []
  f_beside_in : Addr
  fd_beside_in : FuncData
  F_beside_in : Fun K "beside_in" "beside_in" st_beside_in f_beside_in fd_beside_in
  g_beside_in : mg "beside_in" = some (.ref f_beside_in)
  b_beside_in : L2.Binds K fd_beside_in ["one", "other"] []
  f_beside : Addr
  fd_beside : FuncData
  F_beside : Fun K "beside" "beside" st_beside f_beside fd_beside
  g_beside : mg "beside" = some (.ref f_beside)
  b_beside : L2.Binds K fd_beside ["one", "other"] []
  f_require_line_in : Addr
  fd_require_line_in : FuncData
  F_require_line_in : Fun K "require_line_in" "require_line_in" st_require_line_in f_require_line_in fd_require_line_in
  g_require_line_in : mg "require_line_in" = some (.ref f_require_line_in)
  b_require_line_in : L2.Binds K fd_require_line_in ["table", "line"] []
  f_closed_up : Addr
  fd_closed_up : FuncData
  F_closed_up : Fun K "closed_up" "closed_up" st_closed_up f_closed_up fd_closed_up
  g_closed_up : mg "closed_up" = some (.ref f_closed_up)
  b_closed_up : L2.Binds K fd_closed_up ["mask", "line"] []
  f_parted_by : Addr
  fd_parted_by : FuncData
  F_parted_by : Fun K "parted_by" "parted_by" st_parted_by f_parted_by fd_parted_by
  g_parted_by : mg "parted_by" = some (.ref f_parted_by)
  b_parted_by : L2.Binds K fd_parted_by ["table", "line"] []
  f_tied_in : Addr
  fd_tied_in : FuncData
  F_tied_in : Fun K "tied_in" "tied_in" st_tied_in f_tied_in fd_tied_in
  g_tied_in : mg "tied_in" = some (.ref f_tied_in)
  b_tied_in : L2.Binds K fd_tied_in ["one", "line", "other", "further"] []
  f_tied : Addr
  fd_tied : FuncData
  F_tied : Fun K "tied" "tied" st_tied f_tied fd_tied
  g_tied : mg "tied" = some (.ref f_tied)
  b_tied : L2.Binds K fd_tied ["one", "line", "other", "further"] []
  f_reduced : Addr
  fd_reduced : FuncData
  F_reduced : Fun K "reduced" "reduced" st_reduced f_reduced fd_reduced
  g_reduced : mg "reduced" = some (.ref f_reduced)
  b_reduced : L2.Binds K fd_reduced ["mask", "form"] []
  f_is_sum_in : Addr
  fd_is_sum_in : FuncData
  F_is_sum_in : Fun K "is_sum_in" "is_sum_in" st_is_sum_in f_is_sum_in fd_is_sum_in
  g_is_sum_in : mg "is_sum_in" = some (.ref f_is_sum_in)
  b_is_sum_in : L2.Binds K fd_is_sum_in ["mask", "form"] []
  f_side_of : Addr
  fd_side_of : FuncData
  F_side_of : Fun K "side_of" "side_of" st_side_of f_side_of fd_side_of
  g_side_of : mg "side_of" = some (.ref f_side_of)
  b_side_of : L2.Binds K fd_side_of ["table", "lot"] []
  f_taken_apart : Addr
  fd_taken_apart : FuncData
  F_taken_apart : Fun K "taken_apart" "taken_apart" st_taken_apart f_taken_apart fd_taken_apart
  g_taken_apart : mg "taken_apart" = some (.ref f_taken_apart)
  b_taken_apart : L2.Binds K fd_taken_apart ["table", "seam"] []
  f__law_right : Addr
  fd__law_right : FuncData
  F__law_right : Fun K "_law_right" "_law_right" st__law_right f__law_right fd__law_right
  g__law_right : mg "_law_right" = some (.ref f__law_right)
  b__law_right : L2.Binds K fd__law_right ["dice"] []
  f_law : Addr
  fd_law : FuncData
  F_law : Fun K "law" "law" st_law f_law fd_law
  g_law : mg "law" = some (.ref f_law)
  b_law : L2.Binds K fd_law ["script"] []
  C_Table : Addr
  gC_Table : mg "Table" = some (.ref C_Table)
  sc_Table : L2.SCls K C_Table
  mk_Table : L2.Mk K C_Table f_Table_init
  p_Table_own_form : Addr
  st_Table_own_form : L2.Slt K C_Table "own_form" 0 p_Table_own_form
  p_Table_own_lots : Addr
  st_Table_own_lots : L2.Slt K C_Table "own_lots" 1 p_Table_own_lots
  p_Table_own_many : Addr
  st_Table_own_many : L2.Slt K C_Table "own_many" 2 p_Table_own_many
  p_Table_own_size : Addr
  st_Table_own_size : L2.Slt K C_Table "own_size" 3 p_Table_own_size
  p_Table_own_told : Addr
  st_Table_own_told : L2.Slt K C_Table "own_told" 4 p_Table_own_told
  q_Table_size : Addr
  pr_Table_size : L2.PropOf K C_Table "size" q_Table_size f_Table_size
  cl : Cls K mg CL
  z_abs : mg "abs" = none
  z_all : mg "all" = none
  z_bool : mg "bool" = none
  z_enumerate : mg "enumerate" = none
  z_int : mg "int" = none
  z_isinstance : mg "isinstance" = none
  z_len : mg "len" = none
  z_list : mg "list" = none
  z_max : mg "max" = none
  z_min : mg "min" = none
  z_range : mg "range" = none
  z_repr : mg "repr" = none
  z_set : mg "set" = none
  z_sorted : mg "sorted" = none
  z_sum : mg "sum" = none
  z_tuple : mg "tuple" = none
  z_zip : mg "zip" = none
  z_lam_law_right_0 : mg "lam_law_right_0" = none
  c_LEAST_BESIDE : ∃ t, mg "LEAST_BESIDE" = some (.int 2 t)
  c_MOST_LINES : ∃ t, mg "MOST_LINES" = some (.int 24 t)
  c_MOST_TABLE_LINES : ∃ t, mg "MOST_TABLE_LINES" = some (.int 24 t)
  c_MOST_TABLE_LOTS : ∃ t, mg "MOST_TABLE_LOTS" = some (.int 24 t)
  c_NOTHING : TupC K mg "NOTHING" [.str "nothing"]
  a_InvalidTable : Addr
  ga_InvalidTable : mg "InvalidTable" = some (.ref a_InvalidTable)
  e_InvalidTable : ErP K mg "InvalidTable"
  a_InvalidNumber : Addr
  ga_InvalidNumber : mg "InvalidNumber" = some (.ref a_InvalidNumber)
  i_InvalidNumber : Addr
  e_InvalidNumber : PX.ErC P K mg "InvalidNumber" "given" "IndexError" "IndexError.__new__" "IndexError.__init__" [.type "IndexError", .type "LookupError", .type "Exception", .type "BaseException", .type "object"] a_InvalidNumber i_InvalidNumber
  a_TooMany : Addr
  ga_TooMany : mg "TooMany" = some (.ref a_TooMany)
  i_TooMany : Addr
  e_TooMany : PX.ErC P K mg "TooMany" "limit" "OverflowError" "OverflowError.__new__" "OverflowError.__init__" [.type "OverflowError", .type "ArithmeticError", .type "Exception", .type "BaseException", .type "object"] a_TooMany i_TooMany
  a_Refused : Addr
  ga_Refused : mg "Refused" = some (.ref a_Refused)
  i_Refused : Addr
  e_Refused : PX.ErC P K mg "Refused" "reason" "ArithmeticError" "ArithmeticError.__new__" "ArithmeticError.__init__" [.type "ArithmeticError", .type "Exception", .type "BaseException", .type "object"] a_Refused i_Refused
  a_InvalidOperation : Addr
  ga_InvalidOperation : mg "InvalidOperation" = some (.ref a_InvalidOperation)
  e_InvalidOperation : ErP K mg "InvalidOperation"
  x_InvalidNumber_InvalidNumber : PySem.W.exmOne K (.ref a_InvalidNumber) (.ref a_InvalidNumber) = some true
  x_InvalidNumber_InvalidOperation : PySem.W.exmOne K (.ref a_InvalidNumber) (.ref a_InvalidOperation) = some false
  x_InvalidNumber_InvalidTable : PySem.W.exmOne K (.ref a_InvalidNumber) (.ref a_InvalidTable) = some false
  x_InvalidNumber_Refused : PySem.W.exmOne K (.ref a_InvalidNumber) (.ref a_Refused) = some false
  x_InvalidNumber_TooMany : PySem.W.exmOne K (.ref a_InvalidNumber) (.ref a_TooMany) = some false
  x_InvalidOperation_InvalidNumber : PySem.W.exmOne K (.ref a_InvalidOperation) (.ref a_InvalidNumber) = some false
  x_InvalidOperation_InvalidOperation : PySem.W.exmOne K (.ref a_InvalidOperation) (.ref a_InvalidOperation) = some true
  x_InvalidOperation_InvalidTable : PySem.W.exmOne K (.ref a_InvalidOperation) (.ref a_InvalidTable) = some false
  x_InvalidOperation_Refused : PySem.W.exmOne K (.ref a_InvalidOperation) (.ref a_Refused) = some false
  x_InvalidOperation_TooMany : PySem.W.exmOne K (.ref a_InvalidOperation) (.ref a_TooMany) = some false
  x_InvalidTable_InvalidNumber : PySem.W.exmOne K (.ref a_InvalidTable) (.ref a_InvalidNumber) = some false
  x_InvalidTable_InvalidOperation : PySem.W.exmOne K (.ref a_InvalidTable) (.ref a_InvalidOperation) = some false
  x_InvalidTable_InvalidTable : PySem.W.exmOne K (.ref a_InvalidTable) (.ref a_InvalidTable) = some true
  x_InvalidTable_Refused : PySem.W.exmOne K (.ref a_InvalidTable) (.ref a_Refused) = some false
  x_InvalidTable_TooMany : PySem.W.exmOne K (.ref a_InvalidTable) (.ref a_TooMany) = some false
  x_Refused_InvalidNumber : PySem.W.exmOne K (.ref a_Refused) (.ref a_InvalidNumber) = some false
  x_Refused_InvalidOperation : PySem.W.exmOne K (.ref a_Refused) (.ref a_InvalidOperation) = some false
  x_Refused_InvalidTable : PySem.W.exmOne K (.ref a_Refused) (.ref a_InvalidTable) = some false
  x_Refused_Refused : PySem.W.exmOne K (.ref a_Refused) (.ref a_Refused) = some true
  x_Refused_TooMany : PySem.W.exmOne K (.ref a_Refused) (.ref a_TooMany) = some false
  x_TooMany_InvalidNumber : PySem.W.exmOne K (.ref a_TooMany) (.ref a_InvalidNumber) = some false
  x_TooMany_InvalidOperation : PySem.W.exmOne K (.ref a_TooMany) (.ref a_InvalidOperation) = some false
  x_TooMany_InvalidTable : PySem.W.exmOne K (.ref a_TooMany) (.ref a_InvalidTable) = some false
  x_TooMany_Refused : PySem.W.exmOne K (.ref a_TooMany) (.ref a_Refused) = some false
  x_TooMany_TooMany : PySem.W.exmOne K (.ref a_TooMany) (.ref a_TooMany) = some true
  cc__law_right : Addr
  P__law_right : Addr
  cd__law_right : fd__law_right.code = .ref cc__law_right
  cc_law : Addr
  P_law : Addr
  cd_law : fd_law.code = .ref cc_law
  bl : ∀ (s : Shared) (v : Value), BindsTo s fd_law ⟨[v], []⟩ [("script", v)]
  nd : (([(P__law_right, ("_law_right" : Str) ++ ".<locals>." ++ "<lambda>"), (P_law, ("law" : Str) ++ ".<locals>." ++ "<lambda>")] : List (Addr × Str)).map (·.1)).Nodup
abbrev gc {P : Program} {K : PySem.W.Frag} {mg : Str → Option Value} (M : Md P K mg) : Gc := ⟨K, mg, [(M.P__law_right, ("_law_right" : Str) ++ ".<locals>." ++ "<lambda>"), (M.P_law, ("law" : Str) ++ ".<locals>." ++ "<lambda>")], lmT, M.me⟩
structure Bd {P : Program} {K : PySem.W.Frag} {mg : Str → Option Value} (M : Md P K mg) (base : Heap) : Prop where
  t__law_right : LamX.TabB base mg M.cc__law_right M.P__law_right
  t_law : LamX.TabB base mg M.cc_law M.P_law
  ok : True
def Md.at {P : Program} {K : PySem.W.Frag} {mg : Str → Option Value} (M : Md P K mg) (a : Addr) : Md P K mg := { M with me := a }
theorem Bd.at {P : Program} {K : PySem.W.Frag} {mg : Str → Option Value} {M : Md P K mg} {base : Heap} (B : Bd M base) (a : Addr) : Bd (M.at a) base := ⟨B.t__law_right, B.t_law, B.ok⟩
section
variable {P : Program} {w : World} {K : PySem.W.Frag} {mg : Str → Option Value} {base : Heap}
theorem ok__law_dice (M : Md P K mg) (B : Bd M base) : FnG P w K mg base (L2.CX P w) 1 M.f__law_dice M.fd__law_dice ["script", "spot"] (spD (gc M) true 2 f__law_dice) :=
  okF M.F__law_dice sc__law_dice (by decide) fun cdv A outer s H E H0 F0 hcv hr =>
  (rss_cons (rs_set sc__law_dice.nd rfl (by first | exact .inl rfl | exact .inr rfl) (re_if (rt_cmp op_lt oa_lt (pv 1) (re_cb call_lenX oa_len rfl M.z_len bt_len (ro_cons (pv 0) ro_nil)) (by first | exact nobehind _ (by decide) (by decide) | rfl)) (re_ct call_int1 oa_int rfl M.z_int bt_int (ro_cons (re_ixx rfl hr.units (pv 0) (pv 1) (fun _ _ => rfl) (fun _ _ => rfl)) ro_nil)) (re_op op_addX oa_add (re_op op_mulXX oa_mul re_int (pv 1)) re_int)))
  (rss_cons (rs_set sc__law_dice.nd rfl (by first | exact .inl rfl | exact .inr rfl) (re_op op_modN oa_mod (re_cb (call_max2 rfl) oa_max2 rfl M.z_max bt_max (ro_cons re_int (ro_cons (re_op op_sub oa_sub (re_cb call_abs oa_abs rfl M.z_abs bt_abs (ro_cons (pv 2) ro_nil)) (re_op op_pow oa_pow re_int re_int)) ro_nil))) (re_op op_mulXX oa_mul (re_op op_pow oa_pow re_int re_int) (re_op op_pow oa_pow re_int re_int))))
  (rss_one (rs_rtF (re_lst (ra_cons (re_var (pv 3)) (ra_cons (re_op op_addX oa_add (re_op op_addX oa_add (re_op op_addX oa_add (re_op op_mulXX oa_mul (re_op op_modN oa_mod (re_cb call_abs oa_abs rfl M.z_abs bt_abs (ro_cons (pv 2) ro_nil)) re_int) re_int) (re_op op_mulXX oa_mul re_int (pv 1))) (re_op op_mulXX oa_mul re_int (re_ct call_int1 oa_int rfl M.z_int bt_int (ro_cons (re_cmp op_lt oa_lt (pv 2) re_int (by first | exact nobehind _ (by decide) (by decide) | rfl)) ro_nil)))) re_int) (ra_cons re_int ra_nil))))))))
theorem ok_is_whole_lots (M : Md P K mg) (B : Bd M base) : FnG P w K mg base (L2.CX P w) 1 M.f_is_whole_lots M.fd_is_whole_lots ["value"] (spD (gc M) false 1 f_is_whole_lots) :=
  okD M.F_is_whole_lots sc_is_whole_lots (by decide) fun cdv A outer s H E H0 F0 hcv hr =>
  (rss_one (rs_rt (re_and (re_isX rfl M.cl rfl M.z_isinstance bt_isinstance rfl M.z_int bt_int (re_var (pv 0))) (re_one (re_not (re_isX rfl M.cl rfl M.z_isinstance bt_isinstance rfl M.z_bool bt_bool (re_var (pv 0))))))))
theorem ok_is_below (M : Md P K mg) (B : Bd M base) : FnG P w K mg base (L2.CX P w) 2 M.f_is_below M.fd_is_below ["value", "many"] (spD (gc M) false 2 f_is_below) :=
  okD M.F_is_below sc_is_below (by decide) fun cdv A outer s H E H0 F0 hcv hr =>
  (rss_one (rs_rt (re_and (re_call (ok_is_whole_lots M B) (hr.mono (by decide)) rfl M.g_is_whole_lots M.F_is_whole_lots.kp M.b_is_whole_lots (takes_of rfl rfl rfl rfl) (ra_cons (re_var (pv 0)) ra_nil)) (re_one (re_chain op_le op_lt oa_le oa_lt re_int (re_var (pv 0)) (re_var (pv 1)))))))
theorem ok_is_rising (M : Md P K mg) (B : Bd M base) : FnG P w K mg base (L2.CX P w) 3 M.f_is_rising M.fd_is_rising ["value", "many"] (spD (gc M) false 2 f_is_rising) :=
  okD M.F_is_rising sc_is_rising (by decide) fun cdv A outer s H E H0 F0 hcv hr =>
  (rss_cons (rs_if (PW.pt (rw_or (rt_not (rt_val (re_isX rfl M.cl rfl M.z_isinstance bt_isinstance rfl M.z_tuple bt_tuple (re_var (pv 0))))) (rw_or1 (rt_not (rt_val (re_cb (cr_all rfl) oa_all rfl M.z_all bt_all (ro_cons (re_fz (re_lc rfl sc_is_rising.nd (blkOk_by (own := [("one", 2)]) (by kernel_rfl)) (by decide) (ri_any rfl (re_var (pv 0))) (fun _ _ _ _ _ => PGx fun _ => (rg_name sc_is_rising.nd rfl (by first | exact .inl rfl | exact .inr rfl))) (fun _ _ _ _ _ => PTx0) (fun _ _ _ _ _ => PEx fun _ => (re_call (ok_is_below M B) (hr.mono (by decide)) rfl M.g_is_below M.F_is_below.kp M.b_is_below tk0 (ra_cons (re_var (pv 2)) (ra_cons (re_var (pv 1)) ra_nil)))))) ro_nil))))))) (rss_one (rs_rt re_bl)) rss_nil)
  (rss_one (rs_rt (re_cb (cr_all rfl) oa_all rfl M.z_all bt_all (ro_cons (re_fz (re_lc rfl sc_is_rising.nd (blkOk_by (own := [("one", 2), ("other", 3)]) (by kernel_rfl)) (by decide) (ri_zip rfl rfl M.z_zip (re_var (pv 0)) (re_sl rfl (pv 0) (.some re_int) .none)) (fun _ _ _ _ _ => PGx fun _ => (rg_tup rfl rfl (rgs_cons (rg_name sc_is_rising.nd rfl (by first | exact .inl rfl | exact .inr rfl)) (rgs_cons (rg_name sc_is_rising.nd rfl (by first | exact .inl rfl | exact .inr rfl)) rgs_nil)))) (fun _ _ _ _ _ => PTx0) (fun _ _ _ _ _ => PEx fun _ => (re_cmp op_lt oa_lt (pv 2) (pv 3) (by first | exact nobehind _ (by decide) (by decide) | rfl))))) ro_nil)))))
theorem ok_are_table_parts (M : Md P K mg) (B : Bd M base) : FnG P w K mg base (L2.CX P w) 4 M.f_are_table_parts M.fd_are_table_parts ["many", "lots"] (spD (gc M) false 2 f_are_table_parts) :=
  okD M.F_are_table_parts sc_are_table_parts (by decide) fun cdv A outer s H E H0 F0 hcv hr =>
  (rss_cons (rs_if (PW.pt (rw_or (rt_not (rt_val (re_call (ok_is_whole_lots M B) (hr.mono (by decide)) rfl M.g_is_whole_lots M.F_is_whole_lots.kp M.b_is_whole_lots (takes_of rfl rfl rfl rfl) (ra_cons (re_var (pv 0)) ra_nil)))) (rw_or (rt_not (rt_chain op_le op_le oa_le oa_le re_int (re_var (pv 0)) (re_gint rfl M.c_MOST_LINES))) (rw_or1 (rt_not (rt_val (re_isX rfl M.cl rfl M.z_isinstance bt_isinstance rfl M.z_tuple bt_tuple (re_var (pv 1))))))))) (rss_one (rs_rt re_bl)) rss_nil)
  (rss_one (rs_rt (re_and (re_cmp op_le oa_le (re_cb call_lenX oa_len rfl M.z_len bt_len (ro_cons (pv 1) ro_nil)) (re_gint rfl M.c_MOST_TABLE_LOTS) (by first | exact nobehind _ (by decide) (by decide) | rfl)) (re_one (re_cb (cr_all rfl) oa_all rfl M.z_all bt_all (ro_cons (re_fz (re_lc rfl sc_are_table_parts.nd (blkOk_by (own := [("lot", 2)]) (by kernel_rfl)) (by decide) (ri_any rfl (re_var (pv 1))) (fun _ _ _ _ _ => PGx fun _ => (rg_name sc_are_table_parts.nd rfl (by first | exact .inl rfl | exact .inr rfl))) (fun _ _ _ _ _ => PTx0) (fun _ _ _ _ _ => PEx fun _ => (re_call (ok_is_rising M B) (hr.mono (by decide)) rfl M.g_is_rising M.F_is_rising.kp M.b_is_rising tk0 (ra_cons (re_var (pv 2)) (ra_cons (re_var (pv 0)) ra_nil)))))) ro_nil)))))))
theorem ok_head_of (M : Md P K mg) (B : Bd M base) : FnG P w K mg base (L2.CX P w) 1 M.f_head_of M.fd_head_of ["mask"] (spD (gc M) false 1 f_head_of) :=
  okD M.F_head_of sc_head_of (by decide) fun cdv A outer s H E H0 F0 hcv hr =>
  (rss_one (rs_rt (re_op op_and oa_and (pv 0) (re_un un_neg oa_neg (pv 0)))))
theorem ok_told_form (M : Md P K mg) (B : Bd M base) : FnG P w K mg base (L2.CX P w) 2 M.f_told_form M.fd_told_form ["masks"] (spD (gc M) false 1 f_told_form) :=
  okD M.F_told_form sc_told_form (by decide) fun cdv A outer s H E H0 F0 hcv hr =>
  (rss_cons (rs_mul rfl rfl (rok_cons (fun _ => re_dnew) (rok_cons (fun _ => (re_lst ra_nil)) rok_nil)) (rgn_cons sc_told_form.nd rfl (by first | exact .inl rfl | exact .inr rfl) (rgn_cons sc_told_form.nd rfl (by first | exact .inl rfl | exact .inr rfl) rgn_nil)))
  (rss_cons (rs_for (passes_of rfl) rfl (ri_enum rfl rfl M.z_enumerate (re_var (pv 0))) (rg_tup rfl rfl (rgs_cons (rg_name sc_told_form.nd rfl (by first | exact .inl rfl | exact .inr rfl)) (rgs_cons (rg_name sc_told_form.nd rfl (by first | exact .inl rfl | exact .inr rfl)) rgs_nil))) (rss_cons (rs_par rfl sc_told_form.nd rfl rfl (by decide) rfl rfl (re_var (pv 4)) (fun _ => (re_op op_shl oa_shl re_int (pv 3))))
  (rss_cons (rs_for (passes_of rfl) rfl (ri_any rfl (re_fz (re_cbF (cr_sortedY rfl hr.units) of_sortedY rfl M.z_sorted bt_sorted (ro_cons (pv 1) ro_nil)))) (rg_name sc_told_form.nd rfl (by first | exact .inl rfl | exact .inr rfl)) (rss_one (rs_if (rt_cmp (op_neD hr.units) oa_ne (re_op op_and oa_and (pv 5) (pv 7)) re_int (by first | exact nobehind _ (by decide) (by decide) | rfl)) (rss_one (rs_par rfl sc_told_form.nd rfl rfl (by decide) rfl rfl (re_op op_xor oa_xor (pv 5) (re_ixx rfl hr.units (re_ixx rfl hr.units (pv 1) (pv 7) (fun _ _ => rfl) (fun _ _ => rfl)) re_int (fun _ _ => rfl) (fun _ _ => rfl))) (fun _ => (re_op op_xor oa_xor (pv 6) (re_ixx rfl hr.units (re_ixx rfl hr.units (pv 1) (pv 7) (fun _ _ => rfl) (fun _ _ => rfl)) re_int (fun _ _ => rfl) (fun _ _ => rfl)))))) rss_nil)))
  (rss_cons (rs_if (rt_cmp (op_eqD hr.units) oa_eq (pv 5) re_int (by first | exact nobehind _ (by decide) (by decide) | rfl)) (rss_cons (rs_ex (re_append rfl (pv 2) (re_var (pv 6))))
  (rss_one rs_ct)) rss_nil)
  (rss_cons (rs_set sc_told_form.nd rfl (by first | exact .inl rfl | exact .inr rfl) (re_call (ok_head_of M B) (hr.mono (by decide)) rfl M.g_head_of M.F_head_of.kp M.b_head_of (takes_of rfl rfl rfl rfl) (ra_cons (re_var (pv 5)) ra_nil)))
  (rss_cons (rs_for (passes_of rfl) rfl (ri_any rfl (re_fz (re_cbF (cr_sortedY rfl hr.units) of_sortedY rfl M.z_sorted bt_sorted (ro_cons (pv 1) ro_nil)))) (rg_name sc_told_form.nd rfl (by first | exact .inl rfl | exact .inr rfl)) (rss_one (rs_if (rt_cmp (op_neD hr.units) oa_ne (re_op op_and oa_and (re_ixx rfl hr.units (re_ixx rfl hr.units (pv 1) (pv 7) (fun _ _ => rfl) (fun _ _ => rfl)) re_int (fun _ _ => rfl) (fun _ _ => rfl)) (pv 8)) re_int (by first | exact nobehind _ (by decide) (by decide) | rfl)) (rss_one (rs_sub hr.units (pv 1) (re_var (pv 7)) (re_tup (ra_cons (re_op op_xor oa_xor (re_ixx rfl hr.units (re_ixx rfl hr.units (pv 1) (pv 7) (fun _ _ => rfl) (fun _ _ => rfl)) re_int (fun _ _ => rfl) (fun _ _ => rfl)) (pv 5)) (ra_cons (re_op op_xor oa_xor (re_ixx rfl hr.units (re_ixx rfl hr.units (pv 1) (pv 7) (fun _ _ => rfl) (fun _ _ => rfl)) re_int (fun _ _ => rfl) (fun _ _ => rfl)) (pv 6)) ra_nil))))) rss_nil)))
  (rss_one (rs_sub hr.units (pv 1) (re_var (pv 8)) (re_tup (ra_cons (re_var (pv 5)) (ra_cons (re_var (pv 6)) ra_nil)))))))))))
  (rss_cons (rs_set sc_told_form.nd rfl (by first | exact .inl rfl | exact .inr rfl) (re_fz (re_cbF (cr_sortedY rfl hr.units) of_sortedY rfl M.z_sorted bt_sorted (ro_cons (pv 1) ro_nil))))
  (rss_fz (rss_one (rs_rt (re_tup (ra_cons (re_fz (re_lc rfl sc_told_form.nd (blkOk_by (own := [("head", 7)]) (by kernel_rfl)) (by decide) (ri_any rfl (re_var (pv 9))) (fun _ _ _ _ _ => PGx fun _ => (rg_name sc_told_form.nd rfl (by first | exact .inl rfl | exact .inr rfl))) (fun _ _ _ _ _ => PTx0) (fun _ _ _ _ _ => PEx fun _ => (re_ixx rfl hr.units (re_ixx rfl hr.units (pv 1) (pv 7) (fun _ _ => rfl) (fun _ _ => rfl)) re_int (fun _ _ => rfl) (fun _ _ => rfl))))) (ra_cons (re_fz (re_lc rfl sc_told_form.nd (blkOk_by (own := [("head", 7)]) (by kernel_rfl)) (by decide) (ri_any rfl (re_var (pv 9))) (fun _ _ _ _ _ => PGx fun _ => (rg_name sc_told_form.nd rfl (by first | exact .inl rfl | exact .inr rfl))) (fun _ _ _ _ _ => PTx0) (fun _ _ _ _ _ => PEx fun _ => (re_ixx rfl hr.units (re_ixx rfl hr.units (pv 1) (pv 7) (fun _ _ => rfl) (fun _ _ => rfl)) re_int (fun _ _ => rfl) (fun _ _ => rfl))))) (ra_cons (re_var (pv 2)) ra_nil))))))))))
theorem ok_form_masks (M : Md P K mg) (B : Bd M base) : FnG P w K mg base (L2.CX P w) 3 M.f_form_masks M.fd_form_masks ["masks"] (spD (gc M) false 1 f_form_masks) :=
  okD M.F_form_masks sc_form_masks (by decide) fun cdv A outer s H E H0 F0 hcv hr =>
  (rss_one (rs_rt (re_ixx rfl hr.units (re_call (ok_told_form M B) (hr.mono (by decide)) rfl M.g_told_form M.F_told_form.kp M.b_told_form (takes_of rfl rfl rfl rfl) (ra_cons (re_var (pv 0)) ra_nil)) re_int (fun _ _ => rfl) (fun _ _ => rfl))))
theorem ok_lot_of (M : Md P K mg) (B : Bd M base) : FnG P w K mg base (L2.CX P w) 1 M.f_lot_of M.fd_lot_of ["mask"] (spD (gc M) false 1 f_lot_of) :=
  okD M.F_lot_of sc_lot_of (by decide) fun cdv A outer s H E H0 F0 hcv hr =>
  (rss_cons (rs_par rfl sc_lot_of.nd rfl rfl (by decide) rfl rfl (re_lst ra_nil) (fun _ => (re_var (pv 0))))
  (rss_cons (rs_while (passes_of rfl) (rt_cmp (op_neD hr.units) oa_ne (pv 2) re_int (by first | exact nobehind _ (by decide) (by decide) | rfl)) (rss_cons (rs_set sc_lot_of.nd rfl (by first | exact .inl rfl | exact .inr rfl) (re_op op_and oa_and (pv 2) (re_un un_neg oa_neg (pv 2))))
  (rss_cons (rs_ex (re_append rfl (pv 1) (re_op op_sub oa_sub (re_bits (pv 3)) re_int)))
  (rss_one (rs_aug sc_lot_of.nd rfl (by first | exact .inl rfl | exact .inr rfl) iop_xor oa_xor (re_var (pv 3)))))))
  (rss_one (rs_rt (re_ct call_tuple_of oa_tuple rfl M.z_tuple bt_tuple (ro_cons (pv 1) ro_nil))))))
theorem ok_told_lots (M : Md P K mg) (B : Bd M base) : FnG P w K mg base (L2.CX P w) 2 M.f_told_lots M.fd_told_lots ["masks"] (spD (gc M) false 1 f_told_lots) :=
  okD M.F_told_lots sc_told_lots (by decide) fun cdv A outer s H E H0 F0 hcv hr =>
  (rss_one (rs_rt (re_ct call_tuple_of oa_tuple rfl M.z_tuple bt_tuple (ro_cons (re_fz (re_lc rfl sc_told_lots.nd (blkOk_by (own := [("mask", 1)]) (by kernel_rfl)) (by decide) (ri_any rfl (re_var (pv 0))) (fun _ _ _ _ _ => PGx fun _ => (rg_name sc_told_lots.nd rfl (by first | exact .inl rfl | exact .inr rfl))) (fun _ _ _ _ _ => PTx0) (fun _ _ _ _ _ => PEx fun _ => (re_call (ok_lot_of M B) (hr.mono (by decide)) rfl M.g_lot_of M.F_lot_of.kp M.b_lot_of tk0 (ra_cons (re_var (pv 1)) ra_nil))))) ro_nil))))
theorem ok_mask_of (M : Md P K mg) (B : Bd M base) : FnG P w K mg base (L2.CX P w) 1 M.f_mask_of M.fd_mask_of ["lot"] (spD (gc M) false 1 f_mask_of) :=
  okD M.F_mask_of sc_mask_of (by decide) fun cdv A outer s H E H0 F0 hcv hr =>
  (rss_one (rs_rt (re_cb (cr_sum rfl) oa_sum rfl M.z_sum bt_sum (ro_cons (re_fz (re_lc rfl sc_mask_of.nd (blkOk_by (own := [("line", 1)]) (by kernel_rfl)) (by decide) (ri_any rfl (re_var (pv 0))) (fun _ _ _ _ _ => PGx fun _ => (rg_name sc_mask_of.nd rfl (by first | exact .inl rfl | exact .inr rfl))) (fun _ _ _ _ _ => PTx0) (fun _ _ _ _ _ => PEx fun _ => (re_op op_shl oa_shl re_int (pv 1))))) ro_nil))))
theorem ok_masks_of (M : Md P K mg) (B : Bd M base) : FnG P w K mg base (L2.CX P w) 2 M.f_masks_of M.fd_masks_of ["lots"] (spD (gc M) false 1 f_masks_of) :=
  okD M.F_masks_of sc_masks_of (by decide) fun cdv A outer s H E H0 F0 hcv hr =>
  (rss_one (rs_rt (re_fz (re_lc rfl sc_masks_of.nd (blkOk_by (own := [("lot", 1)]) (by kernel_rfl)) (by decide) (ri_any rfl (re_var (pv 0))) (fun _ _ _ _ _ => PGx fun _ => (rg_name sc_masks_of.nd rfl (by first | exact .inl rfl | exact .inr rfl))) (fun _ _ _ _ _ => PTx0) (fun _ _ _ _ _ => PEx fun _ => (re_call (ok_mask_of M B) (hr.mono (by decide)) rfl M.g_mask_of M.F_mask_of.kp M.b_mask_of tk0 (ra_cons (re_var (pv 1)) ra_nil)))))))
theorem body_Table_init (M : Md P K mg) (B : Bd M base) (cdv : Value) (A : Around) (outer : List Env) (s : Shared) (H : Hp) (E : XK) (H0 F0 : Hp) (hcv : M.fd_Table_init.code = cdv) (hr : RmG 4 (A.deeper (envOfC "Table.__init__" (defScope st_Table_init) s.heap.objs.size M.f_Table_init cdv))) :
    PSs (cxOf (L2.CX P w) P w K mg base ["self", "many", "lots"] "Table.__init__" (defScope st_Table_init) M.f_Table_init cdv A outer s H E) (defBody st_Table_init) (tS ⟨gc M, some M.me, H0, F0, false⟩ (wD E) m_Table_init) :=
  (rss_cons (rs_if (rt_not (rt_val (re_call (ok_are_table_parts M B) (hr.mono (by decide)) rfl M.g_are_table_parts M.F_are_table_parts.kp M.b_are_table_parts (takes_of rfl rfl rfl rfl) (ra_cons (re_var (pv 1)) (ra_cons (re_var (pv 2)) ra_nil))))) (rss_one (rs_raise0 M.e_InvalidTable rfl (takes_of rfl rfl rfl rfl) rfl rfl)) rss_nil)
  (rss_cons (rs_puts rfl rfl M.gC_Table rfl (re_tup (ra_cons (re_var (pv 1)) (ra_cons (re_var (pv 2)) ra_nil))) (pgf_cons M.sc_Table M.st_Table_own_many (pv 0) (pgf_cons M.sc_Table M.st_Table_own_lots (pv 0) pgf_nil)))
  (rss_cons (rs_put rfl rfl ⟨⟨_, _, M.gC_Table, M.sc_Table, M.st_Table_own_form⟩⟩ (pv 0) (re_ct call_tuple_of oa_tuple rfl M.z_tuple bt_tuple (ro_cons (re_call (ok_form_masks M B) (hr.mono (by decide)) rfl M.g_form_masks M.F_form_masks.kp M.b_form_masks (takes_of rfl rfl rfl rfl) (ra_cons (re_call (ok_masks_of M B) (hr.mono (by decide)) rfl M.g_masks_of M.F_masks_of.kp M.b_masks_of (takes_of rfl rfl rfl rfl) (ra_cons (re_var (pv 2)) ra_nil)) ra_nil)) ro_nil)))
  (rss_one (rs_puts rfl rfl M.gC_Table rfl (re_tup (ra_cons (re_call (ok_told_lots M B) (hr.mono (by decide)) rfl M.g_told_lots M.F_told_lots.kp M.b_told_lots (takes_of rfl rfl rfl rfl) (ra_cons (re_slf rfl rfl ⟨⟨_, _, M.gC_Table, M.sc_Table, M.st_Table_own_form⟩⟩ (pv 0)) ra_nil)) (ra_cons (re_cb call_lenX oa_len rfl M.z_len bt_len (ro_cons (re_slf rfl rfl ⟨⟨_, _, M.gC_Table, M.sc_Table, M.st_Table_own_form⟩⟩ (pv 0)) ro_nil)) ra_nil))) (pgf_cons M.sc_Table M.st_Table_own_told (pv 0) (pgf_cons M.sc_Table M.st_Table_own_size (pv 0) pgf_nil)))))))
theorem ok_Table_init (M : Md P K mg) (B : Bd M base) : FnG P w K mg base (L2.CX P w) 5 M.f_Table_init M.fd_Table_init ["self", "many", "lots"] (spN (gc M) "Table" 2 f_Table_init) :=
  okN M.F_Table_init sc_Table_init rfl (by decide) fun a cdv A outer s H E H0 F0 hcv hr => body_Table_init (M.at a) (B.at a) cdv A outer s H E H0 F0 hcv hr
theorem given__law_met {X : Cx} {P : Program} {K : PySem.W.Frag} {mg : Str → Option Value} (M : Md P K mg) (h1 : X.prog = P) (h2 : X.K = K) (h3 : X.mg = mg) (cdv : Value) (q : Str) : Given X ["call", "error"] "_law_met" (defScope st__law_met) M.f__law_met cdv (defBody st__law_met) "call" q (TTm (gc M) hs__law_met dd__law_met) := by
  subst h1 h2 h3
  exact met_given (g := gc M) rfl (by decide) (by decide) (fun s H hr => ⟨_, (.bare rfl M.ga_InvalidTable rfl (can_cons M.ga_InvalidTable M.x_InvalidTable_InvalidTable (can_cons M.ga_InvalidNumber M.x_InvalidNumber_InvalidTable (can_cons M.ga_TooMany M.x_TooMany_InvalidTable (can_cons M.ga_Refused M.x_Refused_InvalidTable (can_cons M.ga_InvalidOperation M.x_InvalidOperation_InvalidTable can_nil))))) (fun a oe cls d pn hz hf => su_ret ru_str)
    (.bare rfl M.ga_InvalidOperation rfl (can_cons M.ga_InvalidTable M.x_InvalidTable_InvalidOperation (can_cons M.ga_InvalidNumber M.x_InvalidNumber_InvalidOperation (can_cons M.ga_TooMany M.x_TooMany_InvalidOperation (can_cons M.ga_Refused M.x_Refused_InvalidOperation (can_cons M.ga_InvalidOperation M.x_InvalidOperation_InvalidOperation can_nil))))) (fun a oe cls d pn hz hf => su_ret ru_str)
    (.as rfl rfl (by decide) rfl M.ga_InvalidNumber rfl (can_cons M.ga_InvalidTable M.x_InvalidTable_InvalidNumber (can_cons M.ga_InvalidNumber M.x_InvalidNumber_InvalidNumber (can_cons M.ga_TooMany M.x_TooMany_InvalidNumber (can_cons M.ga_Refused M.x_Refused_InvalidNumber (can_cons M.ga_InvalidOperation M.x_InvalidOperation_InvalidNumber can_nil))))) (fun a oe cls d pn hz hf => su_ret (ru_op op_addX oa_add ru_str (ru_cb (cr_reprX hr.g hr.units) oa_reprX rfl M.z_repr bt_repr (ru_fld ⟨M.e_InvalidNumber.ga, M.e_InvalidNumber.gg, M.e_InvalidNumber.exC, M.e_InvalidNumber.hdC⟩ M.e_InvalidNumber.noN M.ga_InvalidNumber hz hf (pv 1)))))
    (.as rfl rfl (by decide) rfl M.ga_Refused rfl (can_cons M.ga_InvalidTable M.x_InvalidTable_Refused (can_cons M.ga_InvalidNumber M.x_InvalidNumber_Refused (can_cons M.ga_TooMany M.x_TooMany_Refused (can_cons M.ga_Refused M.x_Refused_Refused (can_cons M.ga_InvalidOperation M.x_InvalidOperation_Refused can_nil))))) (fun a oe cls d pn hz hf => su_ret (ru_op op_addX oa_add ru_str (ru_cb (cr_reprX hr.g hr.units) oa_reprX rfl M.z_repr bt_repr (ru_fld ⟨M.e_Refused.ga, M.e_Refused.gg, M.e_Refused.exC, M.e_Refused.hdC⟩ M.e_Refused.noN M.ga_Refused hz hf (pv 1)))))
    (.as rfl rfl (by decide) rfl M.ga_TooMany rfl (can_cons M.ga_InvalidTable M.x_InvalidTable_TooMany (can_cons M.ga_InvalidNumber M.x_InvalidNumber_TooMany (can_cons M.ga_TooMany M.x_TooMany_TooMany (can_cons M.ga_Refused M.x_Refused_TooMany (can_cons M.ga_InvalidOperation M.x_InvalidOperation_TooMany can_nil))))) (fun a oe cls d pn hz hf => su_ret (ru_op op_addX oa_add ru_str (ru_cb (cr_reprX hr.g hr.units) oa_reprX rfl M.z_repr bt_repr (ru_fld ⟨M.e_TooMany.ga, M.e_TooMany.gg, M.e_TooMany.exC, M.e_TooMany.hdC⟩ M.e_TooMany.noN M.ga_TooMany hz hf (pv 1)))))
    .nil)))))⟩)
    (fun s H H0 F0 => by exact re_str) rfl
theorem ok_require_table (M : Md P K mg) (B : Bd M base) : FnG P w K mg base (L2.CX P w) 7 M.f_require_table M.fd_require_table ["value"] (spD (gc M) false 1 f_require_table) :=
  okD M.F_require_table sc_require_table (by decide) fun cdv A outer s H E H0 F0 hcv hr =>
  (rss_one (rs_if (rt_not (rt_val (re_isC rfl rfl M.cl (.head _) rfl M.z_isinstance bt_isinstance rfl M.gC_Table (re_var (pv 0))))) (rss_one (rs_raise0 M.e_InvalidTable rfl (takes_of rfl rfl rfl rfl) rfl rfl)) rss_nil))
theorem ok_linked_parts (M : Md P K mg) (B : Bd M base) : FnG P w K mg base (L2.CX P w) 2 M.f_linked_parts M.fd_linked_parts ["masks", "many"] (spD (gc M) false 2 f_linked_parts) :=
  okD M.F_linked_parts sc_linked_parts (by decide) fun cdv A outer s H E H0 F0 hcv hr =>
  (rss_cons (rs_set sc_linked_parts.nd rfl (by first | exact .inl rfl | exact .inr rfl) (re_listRg rfl rfl M.z_list rfl M.z_range (re_var (pv 1))))
  (rss_cons (rs_for (passes_of rfl) rfl (ri_any rfl (re_var (pv 0))) (rg_name sc_linked_parts.nd rfl (by first | exact .inl rfl | exact .inr rfl)) (rss_cons (rs_set sc_linked_parts.nd rfl (by first | exact .inl rfl | exact .inr rfl) (re_fz (re_lc rfl sc_linked_parts.nd (blkOk_by (own := [("line", 5)]) (by kernel_rfl)) (by decide) (ri_any rfl (re_call (ok_lot_of M B) (hr.mono (by decide)) rfl M.g_lot_of M.F_lot_of.kp M.b_lot_of (takes_of rfl rfl rfl rfl) (ra_cons (re_var (pv 3)) ra_nil))) (fun _ _ _ _ _ => PGx fun _ => (rg_name sc_linked_parts.nd rfl (by first | exact .inl rfl | exact .inr rfl))) (fun _ _ _ _ _ => PTx0) (fun _ _ _ _ _ => PEx fun _ => (re_ixx rfl hr.units (pv 2) (pv 5) (fun _ _ => rfl) (fun _ _ => rfl))))))
  (rss_one (rs_set sc_linked_parts.nd rfl (by first | exact .inl rfl | exact .inr rfl) (re_fz (re_lc rfl sc_linked_parts.nd (blkOk_by (own := [("mark", 6)]) (by kernel_rfl)) (by decide) (ri_any rfl (re_var (pv 2))) (fun _ _ _ _ _ => PGx fun _ => (rg_name sc_linked_parts.nd rfl (by first | exact .inl rfl | exact .inr rfl))) (fun _ _ _ _ _ => PTx0) (fun _ _ _ _ _ => PEx fun _ => (re_if (rt_cmp (op_inY hr.units) (oa_inY false) (pv 6) (pv 4) (by first | exact nobehind _ (by decide) (by decide) | rfl)) (re_cb (cr_min rfl) oa_min1 rfl M.z_min bt_min (ro_cons (pv 4) ro_nil)) (re_var (pv 6))))))))))
  (rss_one (rs_rt (re_fz (re_lc rfl sc_linked_parts.nd (blkOk_by (own := [("mark", 6)]) (by kernel_rfl)) (by decide) (ri_any rfl (re_fz (re_srtSetY rfl rfl rfl M.z_sorted rfl M.z_set (pv 2)))) (fun _ _ _ _ _ => PGx fun _ => (rg_name sc_linked_parts.nd rfl (by first | exact .inl rfl | exact .inr rfl))) (fun _ _ _ _ _ => PTx0) (fun _ _ _ _ _ => PEx fun _ => (re_ct call_tuple_of oa_tuple rfl M.z_tuple bt_tuple (ro_cons (re_fz (re_lc rfl sc_linked_parts.nd (blkOk_by (own := [("line", 5)]) (by kernel_rfl)) (by decide) (ri_range1 rfl M.z_range (re_var (pv 1))) (fun _ _ _ _ _ => PGx fun _ => (rg_name sc_linked_parts.nd rfl (by first | exact .inl rfl | exact .inr rfl))) (fun _ _ _ _ _ => PTx1 fun _ => (rt_cmp (op_eqD hr.units) oa_eq (re_ixx rfl hr.units (pv 2) (pv 5) (fun _ _ => rfl) (fun _ _ => rfl)) (pv 6) (by first | exact nobehind _ (by decide) (by decide) | rfl))) (fun _ _ _ _ _ => PEx fun _ => (re_var (pv 5))))) ro_nil)))))))))
theorem ok_parts_in (M : Md P K mg) (B : Bd M base) : FnG P w K mg base (L2.CX P w) 3 M.f_parts_in M.fd_parts_in ["table"] (spD (gc M) false 1 f_parts_in) :=
  okD M.F_parts_in sc_parts_in (by decide) fun cdv A outer s H E H0 F0 hcv hr =>
  (rss_one (rs_rt (re_call (ok_linked_parts M B) (hr.mono (by decide)) rfl M.g_linked_parts M.F_linked_parts.kp M.b_linked_parts (takes_of rfl rfl rfl rfl) (ra_cons (re_fld rfl ⟨⟨_, _, M.gC_Table, M.sc_Table, M.st_Table_own_form⟩⟩ (re_var (pv 0))) (ra_cons (re_fld rfl ⟨⟨_, _, M.gC_Table, M.sc_Table, M.st_Table_own_many⟩⟩ (re_var (pv 0))) ra_nil)))))
theorem ok_parts (M : Md P K mg) (B : Bd M base) : FnG P w K mg base (L2.CX P w) 8 M.f_parts M.fd_parts ["table"] (spD (gc M) false 1 f_parts) :=
  okD M.F_parts sc_parts (by decide) fun cdv A outer s H E H0 F0 hcv hr =>
  (rss_cons (rs_ex (re_call (ok_require_table M B) (hr.mono (by decide)) rfl M.g_require_table M.F_require_table.kp M.b_require_table (takes_of rfl rfl rfl rfl) (ra_cons (re_var (pv 0)) ra_nil)))
  (rss_one (rs_rt (re_ct call_tuple_of oa_tuple rfl M.z_tuple bt_tuple (ro_cons (re_call (ok_parts_in M B) (hr.mono (by decide)) rfl M.g_parts_in M.F_parts_in.kp M.b_parts_in (takes_of rfl rfl rfl rfl) (ra_cons (re_var (pv 0)) ra_nil)) ro_nil)))))
theorem ok__law_roll (M : Md P K mg) (B : Bd M base) : FnG P w K mg base (L2.CX P w) 1 M.f__law_roll M.fd__law_roll ["dice", "most"] (spR (gc M) false 1 f__law_roll) :=
  okR M.F__law_roll sc__law_roll rfl (by decide) fun cdv A outer s H E ra H0 F0 hcv hr =>
  (rss_cons (rs_if (rt_cmp op_gt oa_gt (re_ixx rfl hr.units (pv 0) re_int (fun _ _ => rfl) (fun _ _ => rfl)) re_int (by first | exact nobehind _ (by decide) (by decide) | rfl)) (rss_cons (rs_set sc__law_roll.nd rfl (by first | exact .inl rfl | exact .inr rfl) (re_op op_modN oa_mod (re_ct call_int1 oa_int rfl M.z_int bt_int (ro_cons (re_ixx rfl hr.units (pv 0) re_int (fun _ _ => rfl) (fun _ _ => rfl)) ro_nil)) (pv 1)))
  (rss_cons (rs_sub hr.units (pv 0) re_int (re_op op_fdivW oa_fdiv (re_ixx rfl hr.units (pv 0) re_int (fun _ _ => rfl) (fun _ _ => rfl)) (pv 1)))
  (rss_one (rs_rt (re_var (pv 2)))))) rss_nil)
  (rss_cons (rs_sub hr.units (pv 0) re_int (re_op op_addX oa_add (re_ixx rfl hr.units (pv 0) re_int (fun _ _ => rfl) (fun _ _ => rfl)) re_int))
  (rss_cons (rs_set sc__law_roll.nd rfl (by first | exact .inl rfl | exact .inr rfl) (re_op op_modN oa_mod (re_ct call_int1 oa_int rfl M.z_int bt_int (ro_cons (re_op op_addX oa_add (re_ixx rfl hr.units (pv 0) re_int (fun _ _ => rfl) (fun _ _ => rfl)) (re_op op_mulXX oa_mul re_int (re_ixx rfl hr.units (pv 0) re_int (fun _ _ => rfl) (fun _ _ => rfl)))) ro_nil)) re_int))
  (rss_cons (rs_set sc__law_roll.nd rfl (by first | exact .inl rfl | exact .inr rfl) (re_op op_addX oa_add (re_op op_mulXX oa_mul (re_op op_modN oa_mod (re_ct call_int1 oa_int rfl M.z_int bt_int (ro_cons (re_op op_addX oa_add (re_op op_mulXX oa_mul (pv 3) (pv 3)) (re_op op_mulXX oa_mul re_int (re_ixx rfl hr.units (pv 0) re_int (fun _ _ => rfl) (fun _ _ => rfl)))) ro_nil)) re_int) re_int) (pv 3)))
  (rss_one (rs_rt (re_op op_modN oa_mod (re_ct call_int1 oa_int rfl M.z_int bt_int (ro_cons (re_op op_fdivW oa_fdiv (pv 4) re_int) ro_nil)) (pv 1))))))))
theorem ok__law_pick (M : Md P K mg) (B : Bd M base) : FnG P w K mg base (L2.CX P w) 2 M.f__law_pick M.fd__law_pick ["dice", "items"] (spR (gc M) false 1 f__law_pick) :=
  okR M.F__law_pick sc__law_pick rfl (by decide) fun cdv A outer s H E ra H0 F0 hcv hr =>
  (rss_one (rs_rt (re_ixx rfl hr.units (pv 1) (re_callR (ok__law_roll M B) (hr.mono (by decide)) rfl M.g__law_roll M.F__law_roll.kp M.b__law_roll (takes_of rfl rfl rfl rfl) (pv 0) (ra_cons (re_cb call_lenX oa_len rfl M.z_len bt_len (ro_cons (pv 1) ro_nil)) ra_nil)) (fun _ _ => rfl) (fun _ _ => rfl))))
theorem ok_does_hang (M : Md P K mg) (B : Bd M base) : FnG P w K mg base (L2.CX P w) 8 M.f_does_hang M.fd_does_hang ["table"] (spD (gc M) false 1 f_does_hang) :=
  okD M.F_does_hang sc_does_hang (by decide) fun cdv A outer s H E H0 F0 hcv hr =>
  (rss_cons (rs_ex (re_call (ok_require_table M B) (hr.mono (by decide)) rfl M.g_require_table M.F_require_table.kp M.b_require_table (takes_of rfl rfl rfl rfl) (ra_cons (re_var (pv 0)) ra_nil)))
  (rss_one (rs_rt (re_cmp (op_eqD hr.units) oa_eq (re_cb call_lenX oa_len rfl M.z_len bt_len (ro_cons (re_call (ok_parts_in M B) (hr.mono (by decide)) rfl M.g_parts_in M.F_parts_in.kp M.b_parts_in (takes_of rfl rfl rfl rfl) (ra_cons (re_var (pv 0)) ra_nil)) ro_nil)) re_int (by first | exact nobehind _ (by decide) (by decide) | rfl)))))
theorem ok_rank_within (M : Md P K mg) (B : Bd M base) : FnG P w K mg base (L2.CX P w) 4 M.f_rank_within M.fd_rank_within ["table", "mask"] (spD (gc M) false 2 f_rank_within) :=
  okD M.F_rank_within sc_rank_within (by decide) fun cdv A outer s H E H0 F0 hcv hr =>
  (rss_one (rs_rt (re_cb call_lenX oa_len rfl M.z_len bt_len (ro_cons (re_call (ok_form_masks M B) (hr.mono (by decide)) rfl M.g_form_masks M.F_form_masks.kp M.b_form_masks (takes_of rfl rfl rfl rfl) (ra_cons (re_fz (re_lc rfl sc_rank_within.nd (blkOk_by (own := [("row", 2)]) (by kernel_rfl)) (by decide) (ri_any rfl (re_fld rfl ⟨⟨_, _, M.gC_Table, M.sc_Table, M.st_Table_own_form⟩⟩ (re_var (pv 0)))) (fun _ _ _ _ _ => PGx fun _ => (rg_name sc_rank_within.nd rfl (by first | exact .inl rfl | exact .inr rfl))) (fun _ _ _ _ _ => PTx0) (fun _ _ _ _ _ => PEx fun _ => (re_op op_and oa_and (pv 2) (pv 1))))) ra_nil)) ro_nil))))
theorem ok_Table_size (M : Md P K mg) (B : Bd M base) : FnG P w K mg base (L2.CX P w) 1 M.f_Table_size M.fd_Table_size ["self"] (spD (gc M) false 1 f_Table_size) :=
  okD M.F_Table_size sc_Table_size (by decide) fun cdv A outer s H E H0 F0 hcv hr =>
  (rss_one (rs_rt (re_fld rfl ⟨⟨_, _, M.gC_Table, M.sc_Table, M.st_Table_own_size⟩⟩ (re_var (pv 0)))))
theorem ok_beyond_parts (M : Md P K mg) (B : Bd M base) : FnG P w K mg base (L2.CX P w) 1 M.f_beyond_parts M.fd_beyond_parts ["table", "lot"] (spD (gc M) false 2 f_beyond_parts) :=
  okD M.F_beyond_parts sc_beyond_parts (by decide) fun cdv A outer s H E H0 F0 hcv hr =>
  (rss_one (rs_rt (re_ct call_tuple_of oa_tuple rfl M.z_tuple bt_tuple (ro_cons (re_fz (re_lc rfl sc_beyond_parts.nd (blkOk_by (own := [("line", 2)]) (by kernel_rfl)) (by decide) (ri_range1 rfl M.z_range (re_fld rfl ⟨⟨_, _, M.gC_Table, M.sc_Table, M.st_Table_own_many⟩⟩ (re_var (pv 0)))) (fun _ _ _ _ _ => PGx fun _ => (rg_name sc_beyond_parts.nd rfl (by first | exact .inl rfl | exact .inr rfl))) (fun _ _ _ _ _ => PTx1 fun _ => (rt_cmp (op_notinY hr.units) (oa_inY true) (pv 2) (pv 1) (by first | exact nobehind _ (by decide) (by decide) | rfl))) (fun _ _ _ _ _ => PEx fun _ => (re_var (pv 2))))) ro_nil))))
theorem ok_is_seam_in (M : Md P K mg) (B : Bd M base) : FnG P w K mg base (L2.CX P w) 5 M.f_is_seam_in M.fd_is_seam_in ["table", "value"] (spD (gc M) false 2 f_is_seam_in) :=
  okD M.F_is_seam_in sc_is_seam_in (by decide) fun cdv A outer s H E H0 F0 hcv hr =>
  (rss_cons (rs_if (PW.pt (rw_or (rt_not (rt_val (re_call (ok_is_rising M B) (hr.mono (by decide)) rfl M.g_is_rising M.F_is_rising.kp M.b_is_rising (takes_of rfl rfl rfl rfl) (ra_cons (re_var (pv 1)) (ra_cons (re_fld rfl ⟨⟨_, _, M.gC_Table, M.sc_Table, M.st_Table_own_many⟩⟩ (re_var (pv 0))) ra_nil))))) (rw_or1 (rt_cmp op_gt oa_gt (re_cb call_lenX oa_len rfl M.z_len bt_len (ro_cons (re_call (ok_parts_in M B) (hr.mono (by decide)) rfl M.g_parts_in M.F_parts_in.kp M.b_parts_in (takes_of rfl rfl rfl rfl) (ra_cons (re_var (pv 0)) ra_nil)) ro_nil)) re_int (by first | exact nobehind _ (by decide) (by decide) | rfl))))) (rss_one (rs_rt re_bl)) rss_nil)
  (rss_cons (rs_if (PW.pt (rw_or (rt_cmp op_lt oa_lt (re_cb call_lenX oa_len rfl M.z_len bt_len (ro_cons (pv 1) ro_nil)) (re_gint rfl M.c_LEAST_BESIDE) (by first | exact nobehind _ (by decide) (by decide) | rfl)) (rw_or1 (rt_cmp op_lt oa_lt (re_op op_sub oa_sub (re_fld rfl ⟨⟨_, _, M.gC_Table, M.sc_Table, M.st_Table_own_many⟩⟩ (re_var (pv 0))) (re_cb call_lenX oa_len rfl M.z_len bt_len (ro_cons (pv 1) ro_nil))) (re_gint rfl M.c_LEAST_BESIDE) (by first | exact nobehind _ (by decide) (by decide) | rfl))))) (rss_one (rs_rt re_bl)) rss_nil)
  (rss_cons (rs_unp rfl rfl (re_fz (re_lc rfl sc_is_seam_in.nd (blkOk_by (own := [("lot", 4)]) (by kernel_rfl)) (by decide) (ri_any rfl (re_tup (ra_cons (re_var (pv 1)) (ra_cons (re_call (ok_beyond_parts M B) (hr.mono (by decide)) rfl M.g_beyond_parts M.F_beyond_parts.kp M.b_beyond_parts (takes_of rfl rfl rfl rfl) (ra_cons (re_var (pv 0)) (ra_cons (re_var (pv 1)) ra_nil))) ra_nil)))) (fun _ _ _ _ _ => PGx fun _ => (rg_name sc_is_seam_in.nd rfl (by first | exact .inl rfl | exact .inr rfl))) (fun _ _ _ _ _ => PTx0) (fun _ _ _ _ _ => PEx fun _ => (re_call (ok_rank_within M B) (hr.mono (by decide)) rfl M.g_rank_within M.F_rank_within.kp M.b_rank_within tk0 (ra_cons (re_var (pv 0)) (ra_cons (re_call (ok_mask_of M B) (hr.mono (by decide)) rfl M.g_mask_of M.F_mask_of.kp M.b_mask_of tk0 (ra_cons (re_var (pv 4)) ra_nil)) ra_nil)))))) (rgs_cons (rg_name sc_is_seam_in.nd rfl (by first | exact .inl rfl | exact .inr rfl)) (rgs_cons (rg_name sc_is_seam_in.nd rfl (by first | exact .inl rfl | exact .inr rfl)) rgs_nil)))
  (rss_one (rs_rt (re_cmp (op_eqD hr.units) oa_eq (re_op op_addX oa_add (pv 2) (pv 3)) (re_op op_addX oa_add (re_prop rfl ⟨⟨_, _, M.gC_Table, M.sc_Table, M.pr_Table_size⟩⟩ (ok_Table_size M B) (hr.mono (by decide)) M.b_Table_size (re_var (pv 0))) re_int) (by first | exact nobehind _ (by decide) (by decide) | rfl)))))))
theorem ok_is_seam (M : Md P K mg) (B : Bd M base) : FnG P w K mg base (L2.CX P w) 8 M.f_is_seam M.fd_is_seam ["table", "value"] (spD (gc M) false 2 f_is_seam) :=
  okD M.F_is_seam sc_is_seam (by decide) fun cdv A outer s H E H0 F0 hcv hr =>
  (rss_cons (rs_ex (re_call (ok_require_table M B) (hr.mono (by decide)) rfl M.g_require_table M.F_require_table.kp M.b_require_table (takes_of rfl rfl rfl rfl) (ra_cons (re_var (pv 0)) ra_nil)))
  (rss_one (rs_rt (re_call (ok_is_seam_in M B) (hr.mono (by decide)) rfl M.g_is_seam_in M.F_is_seam_in.kp M.b_is_seam_in (takes_of rfl rfl rfl rfl) (ra_cons (re_var (pv 0)) (ra_cons (re_var (pv 1)) ra_nil))))))
theorem ok_require_index (M : Md P K mg) (B : Bd M base) : FnG P w K mg base (L2.CX P w) 2 M.f_require_index M.fd_require_index ["value", "many"] (spD (gc M) false 2 f_require_index) :=
  okD M.F_require_index sc_require_index (by decide) fun cdv A outer s H E H0 F0 hcv hr =>
  (rss_one (rs_if (PW.pt (rw_or (rt_not (rt_val (re_call (ok_is_whole_lots M B) (hr.mono (by decide)) rfl M.g_is_whole_lots M.F_is_whole_lots.kp M.b_is_whole_lots (takes_of rfl rfl rfl rfl) (ra_cons (re_var (pv 0)) ra_nil)))) (rw_or1 (rt_not (rt_chain op_le op_lt oa_le oa_lt re_int (re_var (pv 0)) (re_var (pv 1))))))) (rss_one (rs_raise1 M.e_InvalidNumber hr rfl (takes_of rfl rfl rfl rfl) rfl (re_var (pv 0)) rfl)) rss_nil))
theorem ok_table_by (M : Md P K mg) (B : Bd M base) : FnG P w K mg base (L2.CX P w) 7 M.f_table_by M.fd_table_by ["many", "masks"] (spD (gc M) false 2 f_table_by) :=
  okD M.F_table_by sc_table_by (by decide) fun cdv A outer s H E H0 F0 hcv hr =>
  (rss_one (rs_rt (re_make M.mk_Table (ok_Table_init M B) (hr.mono (by decide)) rfl M.gC_Table M.gC_Table M.b_Table_init (takes_of rfl rfl rfl rfl) (ra_cons (re_var (pv 0)) (ra_cons (re_call (ok_told_lots M B) (hr.mono (by decide)) rfl M.g_told_lots M.F_told_lots.kp M.b_told_lots (takes_of rfl rfl rfl rfl) (ra_cons (re_call (ok_form_masks M B) (hr.mono (by decide)) rfl M.g_form_masks M.F_form_masks.kp M.b_form_masks (takes_of rfl rfl rfl rfl) (ra_cons (re_var (pv 1)) ra_nil)) ra_nil)) ra_nil)))))
theorem ok_renamed (M : Md P K mg) (B : Bd M base) : FnG P w K mg base (L2.CX P w) 2 M.f_renamed M.fd_renamed ["mask", "lot"] (spD (gc M) false 2 f_renamed) :=
  okD M.F_renamed sc_renamed (by decide) fun cdv A outer s H E H0 F0 hcv hr =>
  (rss_one (rs_rt (re_call (ok_mask_of M B) (hr.mono (by decide)) rfl M.g_mask_of M.F_mask_of.kp M.b_mask_of (takes_of rfl rfl rfl rfl) (ra_cons (re_fz (re_lc rfl sc_renamed.nd (blkOk_by (own := [("at", 2), ("line", 3)]) (by kernel_rfl)) (by decide) (ri_enum rfl rfl M.z_enumerate (re_var (pv 1))) (fun _ _ _ _ _ => PGx fun _ => (rg_tup rfl rfl (rgs_cons (rg_name sc_renamed.nd rfl (by first | exact .inl rfl | exact .inr rfl)) (rgs_cons (rg_name sc_renamed.nd rfl (by first | exact .inl rfl | exact .inr rfl)) rgs_nil)))) (fun _ _ _ _ _ => PTx1 fun _ => (rt_cmp (op_eqD hr.units) oa_eq (re_op op_and oa_and (re_op op_shr oa_shr (pv 0) (pv 3)) re_int) re_int (by first | exact nobehind _ (by decide) (by decide) | rfl))) (fun _ _ _ _ _ => PEx fun _ => (re_var (pv 2))))) ra_nil))))
theorem ok_table_within (M : Md P K mg) (B : Bd M base) : FnG P w K mg base (L2.CX P w) 8 M.f_table_within M.fd_table_within ["table", "part"] (spD (gc M) false 2 f_table_within) :=
  okD M.F_table_within sc_table_within (by decide) fun cdv A outer s H E H0 F0 hcv hr =>
  (rss_cons (rs_set sc_table_within.nd rfl (by first | exact .inl rfl | exact .inr rfl) (re_call (ok_mask_of M B) (hr.mono (by decide)) rfl M.g_mask_of M.F_mask_of.kp M.b_mask_of (takes_of rfl rfl rfl rfl) (ra_cons (re_var (pv 1)) ra_nil)))
  (rss_one (rs_rt (re_call (ok_table_by M B) (hr.mono (by decide)) rfl M.g_table_by M.F_table_by.kp M.b_table_by (takes_of rfl rfl rfl rfl) (ra_cons (re_cb call_lenX oa_len rfl M.z_len bt_len (ro_cons (pv 1) ro_nil)) (ra_cons (re_fz (re_lc rfl sc_table_within.nd (blkOk_by (own := [("row", 3)]) (by kernel_rfl)) (by decide) (ri_any rfl (re_fld rfl ⟨⟨_, _, M.gC_Table, M.sc_Table, M.st_Table_own_form⟩⟩ (re_var (pv 0)))) (fun _ _ _ _ _ => PGx fun _ => (rg_name sc_table_within.nd rfl (by first | exact .inl rfl | exact .inr rfl))) (fun _ _ _ _ _ => PTx1 fun _ => (rt_cmp (op_neD hr.units) oa_ne (re_op op_and oa_and (pv 3) (pv 2)) re_int (by first | exact nobehind _ (by decide) (by decide) | rfl))) (fun _ _ _ _ _ => PEx fun _ => (re_call (ok_renamed M B) (hr.mono (by decide)) rfl M.g_renamed M.F_renamed.kp M.b_renamed tk0 (ra_cons (re_var (pv 3)) (ra_cons (re_var (pv 1)) ra_nil)))))) ra_nil))))))
theorem ok_part_table (M : Md P K mg) (B : Bd M base) : FnG P w K mg base (L2.CX P w) 9 M.f_part_table M.fd_part_table ["table", "part"] (spD (gc M) false 2 f_part_table) :=
  okD M.F_part_table sc_part_table (by decide) fun cdv A outer s H E H0 F0 hcv hr =>
  (rss_cons (rs_ex (re_call (ok_require_table M B) (hr.mono (by decide)) rfl M.g_require_table M.F_require_table.kp M.b_require_table (takes_of rfl rfl rfl rfl) (ra_cons (re_var (pv 0)) ra_nil)))
  (rss_cons (rs_set sc_part_table.nd rfl (by first | exact .inl rfl | exact .inr rfl) (re_call (ok_parts_in M B) (hr.mono (by decide)) rfl M.g_parts_in M.F_parts_in.kp M.b_parts_in (takes_of rfl rfl rfl rfl) (ra_cons (re_var (pv 0)) ra_nil)))
  (rss_cons (rs_ex (re_call (ok_require_index M B) (hr.mono (by decide)) rfl M.g_require_index M.F_require_index.kp M.b_require_index (takes_of rfl rfl rfl rfl) (ra_cons (re_var (pv 1)) (ra_cons (re_cb call_lenX oa_len rfl M.z_len bt_len (ro_cons (pv 2) ro_nil)) ra_nil))))
  (rss_one (rs_rt (re_tup (ra_cons (re_call (ok_table_within M B) (hr.mono (by decide)) rfl M.g_table_within M.F_table_within.kp M.b_table_within (takes_of rfl rfl rfl rfl) (ra_cons (re_var (pv 0)) (ra_cons (re_ixx rfl hr.units (pv 2) (pv 1) (fun _ _ => rfl) (fun _ _ => rfl)) ra_nil))) (ra_cons (re_ixx rfl hr.units (pv 2) (pv 1) (fun _ _ => rfl) (fun _ _ => rfl)) ra_nil))))))))
theorem ok_require_two_parts (M : Md P K mg) (B : Bd M base) : FnG P w K mg base (L2.CX P w) 8 M.f_require_two_parts M.fd_require_two_parts ["one", "other"] (spD (gc M) false 2 f_require_two_parts) :=
  okD M.F_require_two_parts sc_require_two_parts (by decide) fun cdv A outer s H E H0 F0 hcv hr =>
  (rss_cons (rs_ex (re_call (ok_require_table M B) (hr.mono (by decide)) rfl M.g_require_table M.F_require_table.kp M.b_require_table (takes_of rfl rfl rfl rfl) (ra_cons (re_var (pv 0)) ra_nil)))
  (rss_one (rs_ex (re_call (ok_require_table M B) (hr.mono (by decide)) rfl M.g_require_table M.F_require_table.kp M.b_require_table (takes_of rfl rfl rfl rfl) (ra_cons (re_var (pv 1)) ra_nil)))))
theorem ok_need_few (M : Md P K mg) (B : Bd M base) : FnG P w K mg base (L2.CX P w) 1 M.f_need_few M.fd_need_few ["many"] (spD (gc M) false 1 f_need_few) :=
  okD M.F_need_few sc_need_few (by decide) fun cdv A outer s H E H0 F0 hcv hr =>
  (rss_one (rs_if (rt_cmp op_gt oa_gt (pv 0) (re_gint rfl M.c_MOST_TABLE_LINES) (by first | exact nobehind _ (by decide) (by decide) | rfl)) (rss_one (rs_raise1 M.e_TooMany hr rfl (takes_of rfl rfl rfl rfl) rfl (re_gint rfl M.c_MOST_TABLE_LINES) rfl)) rss_nil))
theorem ok_beside_in (M : Md P K mg) (B : Bd M base) : FnG P w K mg base (L2.CX P w) 8 M.f_beside_in M.fd_beside_in ["one", "other"] (spD (gc M) false 2 f_beside_in) :=
  okD M.F_beside_in sc_beside_in (by decide) fun cdv A outer s H E H0 F0 hcv hr =>
  (rss_cons (rs_set sc_beside_in.nd rfl (by first | exact .inl rfl | exact .inr rfl) (re_fld rfl ⟨⟨_, _, M.gC_Table, M.sc_Table, M.st_Table_own_many⟩⟩ (re_var (pv 0))))
  (rss_one (rs_rt (re_call (ok_table_by M B) (hr.mono (by decide)) rfl M.g_table_by M.F_table_by.kp M.b_table_by (takes_of rfl rfl rfl rfl) (ra_cons (re_op op_addX oa_add (pv 2) (re_fld rfl ⟨⟨_, _, M.gC_Table, M.sc_Table, M.st_Table_own_many⟩⟩ (re_var (pv 1)))) (ra_cons (re_fz (re_lstS (rai_s rfl (re_fld rfl ⟨⟨_, _, M.gC_Table, M.sc_Table, M.st_Table_own_form⟩⟩ (re_var (pv 0))) (rai_s rfl (re_fz (re_lc rfl sc_beside_in.nd (blkOk_by (own := [("row", 3)]) (by kernel_rfl)) (by decide) (ri_any rfl (re_fld rfl ⟨⟨_, _, M.gC_Table, M.sc_Table, M.st_Table_own_form⟩⟩ (re_var (pv 1)))) (fun _ _ _ _ _ => PGx fun _ => (rg_name sc_beside_in.nd rfl (by first | exact .inl rfl | exact .inr rfl))) (fun _ _ _ _ _ => PTx0) (fun _ _ _ _ _ => PEx fun _ => (re_op op_shl oa_shl (pv 3) (pv 2))))) rai_nil)))) ra_nil))))))
theorem ok_beside (M : Md P K mg) (B : Bd M base) : FnG P w K mg base (L2.CX P w) 9 M.f_beside M.fd_beside ["one", "other"] (spD (gc M) false 2 f_beside) :=
  okD M.F_beside sc_beside (by decide) fun cdv A outer s H E H0 F0 hcv hr =>
  (rss_cons (rs_ex (re_call (ok_require_two_parts M B) (hr.mono (by decide)) rfl M.g_require_two_parts M.F_require_two_parts.kp M.b_require_two_parts (takes_of rfl rfl rfl rfl) (ra_cons (re_var (pv 0)) (ra_cons (re_var (pv 1)) ra_nil))))
  (rss_cons (rs_ex (re_call (ok_need_few M B) (hr.mono (by decide)) rfl M.g_need_few M.F_need_few.kp M.b_need_few (takes_of rfl rfl rfl rfl) (ra_cons (re_op op_addX oa_add (re_fld rfl ⟨⟨_, _, M.gC_Table, M.sc_Table, M.st_Table_own_many⟩⟩ (re_var (pv 0))) (re_fld rfl ⟨⟨_, _, M.gC_Table, M.sc_Table, M.st_Table_own_many⟩⟩ (re_var (pv 1)))) ra_nil)))
  (rss_one (rs_rt (re_call (ok_beside_in M B) (hr.mono (by decide)) rfl M.g_beside_in M.F_beside_in.kp M.b_beside_in (takes_of rfl rfl rfl rfl) (ra_cons (re_var (pv 0)) (ra_cons (re_var (pv 1)) ra_nil)))))))
theorem ok_require_line_in (M : Md P K mg) (B : Bd M base) : FnG P w K mg base (L2.CX P w) 8 M.f_require_line_in M.fd_require_line_in ["table", "line"] (spD (gc M) false 2 f_require_line_in) :=
  okD M.F_require_line_in sc_require_line_in (by decide) fun cdv A outer s H E H0 F0 hcv hr =>
  (rss_cons (rs_ex (re_call (ok_require_table M B) (hr.mono (by decide)) rfl M.g_require_table M.F_require_table.kp M.b_require_table (takes_of rfl rfl rfl rfl) (ra_cons (re_var (pv 0)) ra_nil)))
  (rss_one (rs_ex (re_call (ok_require_index M B) (hr.mono (by decide)) rfl M.g_require_index M.F_require_index.kp M.b_require_index (takes_of rfl rfl rfl rfl) (ra_cons (re_var (pv 1)) (ra_cons (re_fld rfl ⟨⟨_, _, M.gC_Table, M.sc_Table, M.st_Table_own_many⟩⟩ (re_var (pv 0))) ra_nil))))))
theorem ok_closed_up (M : Md P K mg) (B : Bd M base) : FnG P w K mg base (L2.CX P w) 1 M.f_closed_up M.fd_closed_up ["mask", "line"] (spD (gc M) false 2 f_closed_up) :=
  okD M.F_closed_up sc_closed_up (by decide) fun cdv A outer s H E H0 F0 hcv hr =>
  (rss_cons (rs_set sc_closed_up.nd rfl (by first | exact .inl rfl | exact .inr rfl) (re_op op_sub oa_sub (re_op op_shl oa_shl re_int (pv 1)) re_int))
  (rss_one (rs_rt (re_op op_or oa_or (re_op op_and oa_and (pv 0) (pv 2)) (re_op op_and oa_and (re_op op_shr oa_shr (pv 0) re_int) (re_un un_inv oa_inv (pv 2)))))))
theorem ok_parted_by (M : Md P K mg) (B : Bd M base) : FnG P w K mg base (L2.CX P w) 2 M.f_parted_by M.fd_parted_by ["table", "line"] (spD (gc M) false 2 f_parted_by) :=
  okD M.F_parted_by sc_parted_by (by decide) fun cdv A outer s H E H0 F0 hcv hr =>
  (rss_cons (rs_set sc_parted_by.nd rfl (by first | exact .inl rfl | exact .inr rfl) (re_op op_shl oa_shl re_int (pv 1)))
  (rss_cons (rs_set sc_parted_by.nd rfl (by first | exact .inl rfl | exact .inr rfl) (re_fz (re_lc rfl sc_parted_by.nd (blkOk_by (own := [("row", 5)]) (by kernel_rfl)) (by decide) (ri_any rfl (re_fld rfl ⟨⟨_, _, M.gC_Table, M.sc_Table, M.st_Table_own_form⟩⟩ (re_var (pv 0)))) (fun _ _ _ _ _ => PGx fun _ => (rg_name sc_parted_by.nd rfl (by first | exact .inl rfl | exact .inr rfl))) (fun _ _ _ _ _ => PTx1 fun _ => (rt_cmp (op_neD hr.units) oa_ne (re_op op_and oa_and (pv 5) (pv 2)) re_int (by first | exact nobehind _ (by decide) (by decide) | rfl))) (fun _ _ _ _ _ => PEx fun _ => (re_var (pv 5))))))
  (rss_cons (rs_lc rfl sc_parted_by.nd rfl rfl rfl (blkOk_by (own := [("row", 5)]) (by kernel_rfl)) (by decide) (ri_any rfl (re_fld rfl ⟨⟨_, _, M.gC_Table, M.sc_Table, M.st_Table_own_form⟩⟩ (re_var (pv 0)))) (fun _ _ _ _ _ => PGx fun _ => (rg_name sc_parted_by.nd rfl (by first | exact .inl rfl | exact .inr rfl))) (fun _ _ _ _ _ => PTx1 fun _ => (rt_cmp (op_eqD hr.units) oa_eq (re_op op_and oa_and (pv 5) (pv 2)) re_int (by first | exact nobehind _ (by decide) (by decide) | rfl))) (fun _ _ _ _ _ => PEx fun _ => (re_var (pv 5))))
  (rss_cons (rs_if (rt_cmp (op_eqD hr.units) oa_eq (pv 3) (re_fz (re_lst ra_nil)) (by first | exact nobehind _ (by decide) (by decide) | rfl)) (rss_fz (rss_one (rs_rt (re_tup (ra_cons re_non (ra_cons (re_fz (re_lc rfl sc_parted_by.nd (blkOk_by (own := [("row", 5)]) (by kernel_rfl)) (by decide) (ri_any rfl (re_var (pv 4))) (fun _ _ _ _ _ => PGx fun _ => (rg_name sc_parted_by.nd rfl (by first | exact .inl rfl | exact .inr rfl))) (fun _ _ _ _ _ => PTx0) (fun _ _ _ _ _ => PEx fun _ => (re_call (ok_closed_up M B) (hr.mono (by decide)) rfl M.g_closed_up M.F_closed_up.kp M.b_closed_up tk0 (ra_cons (re_var (pv 5)) (ra_cons (re_var (pv 1)) ra_nil)))))) ra_nil)))))) rss_nil)
  (rss_cons (rs_ex (re_extend rfl (pv 4) (re_fz (re_lc rfl sc_parted_by.nd (blkOk_by (own := [("row", 5)]) (by kernel_rfl)) (by decide) (ri_any rfl (re_sl rfl (pv 3) (.some re_int) .none)) (fun _ _ _ _ _ => PGx fun _ => (rg_name sc_parted_by.nd rfl (by first | exact .inl rfl | exact .inr rfl))) (fun _ _ _ _ _ => PTx0) (fun _ _ _ _ _ => PEx fun _ => (re_op op_xor oa_xor (pv 5) (re_ixx rfl hr.units (pv 3) re_int (fun _ _ => rfl) (fun _ _ => rfl))))))))
  (rss_fz (rss_one (rs_rt (re_tup (ra_cons (re_call (ok_closed_up M B) (hr.mono (by decide)) rfl M.g_closed_up M.F_closed_up.kp M.b_closed_up (takes_of rfl rfl rfl rfl) (ra_cons (re_ixx rfl hr.units (pv 3) re_int (fun _ _ => rfl) (fun _ _ => rfl)) (ra_cons (re_var (pv 1)) ra_nil))) (ra_cons (re_fz (re_lc rfl sc_parted_by.nd (blkOk_by (own := [("row", 5)]) (by kernel_rfl)) (by decide) (ri_any rfl (re_var (pv 4))) (fun _ _ _ _ _ => PGx fun _ => (rg_name sc_parted_by.nd rfl (by first | exact .inl rfl | exact .inr rfl))) (fun _ _ _ _ _ => PTx0) (fun _ _ _ _ _ => PEx fun _ => (re_call (ok_closed_up M B) (hr.mono (by decide)) rfl M.g_closed_up M.F_closed_up.kp M.b_closed_up tk0 (ra_cons (re_var (pv 5)) (ra_cons (re_var (pv 1)) ra_nil)))))) ra_nil)))))))))))
theorem ok_tied_in (M : Md P K mg) (B : Bd M base) : FnG P w K mg base (L2.CX P w) 8 M.f_tied_in M.fd_tied_in ["one", "line", "other", "further"] (spD (gc M) false 4 f_tied_in) :=
  okD M.F_tied_in sc_tied_in (by decide) fun cdv A outer s H E H0 F0 hcv hr =>
  (rss_cons (rs_asg (re_call (ok_parted_by M B) (hr.mono (by decide)) rfl M.g_parted_by M.F_parted_by.kp M.b_parted_by (takes_of rfl rfl rfl rfl) (ra_cons (re_var (pv 0)) (ra_cons (re_var (pv 1)) ra_nil))) (rg_tup rfl rfl (rgs_cons (rg_name sc_tied_in.nd rfl (by first | exact .inl rfl | exact .inr rfl)) (rgs_cons (rg_name sc_tied_in.nd rfl (by first | exact .inl rfl | exact .inr rfl)) rgs_nil))))
  (rss_cons (rs_asg (re_call (ok_parted_by M B) (hr.mono (by decide)) rfl M.g_parted_by M.F_parted_by.kp M.b_parted_by (takes_of rfl rfl rfl rfl) (ra_cons (re_var (pv 2)) (ra_cons (re_var (pv 3)) ra_nil))) (rg_tup rfl rfl (rgs_cons (rg_name sc_tied_in.nd rfl (by first | exact .inl rfl | exact .inr rfl)) (rgs_cons (rg_name sc_tied_in.nd rfl (by first | exact .inl rfl | exact .inr rfl)) rgs_nil))))
  (rss_cons (rs_set sc_tied_in.nd rfl (by first | exact .inl rfl | exact .inr rfl) (re_op op_sub oa_sub (re_fld rfl ⟨⟨_, _, M.gC_Table, M.sc_Table, M.st_Table_own_many⟩⟩ (re_var (pv 0))) re_int))
  (rss_cons (rs_setO sc_tied_in.nd rfl (by first | exact .inl rfl | exact .inr rfl) (re_lstS (rai_s rfl (re_var (pv 5)) (rai_s rfl (re_fz (re_lc rfl sc_tied_in.nd (blkOk_by (own := [("row", 10)]) (by kernel_rfl)) (by decide) (ri_any rfl (re_var (pv 7))) (fun _ _ _ _ _ => PGx fun _ => (rg_name sc_tied_in.nd rfl (by first | exact .inl rfl | exact .inr rfl))) (fun _ _ _ _ _ => PTx0) (fun _ _ _ _ _ => PEx fun _ => (re_op op_shl oa_shl (pv 10) (pv 8))))) rai_nil))))
  (rss_cons (rs_if (PW.pt (rw_and (rt_cmp op_notN oa_notN (pv 4) re_non (by first | exact nobehind _ (by decide) (by decide) | rfl)) (rw_and1 (rt_cmp op_notN oa_notN (pv 6) re_non (by first | exact nobehind _ (by decide) (by decide) | rfl))))) (rss_one (rs_ex (re_append rfl (pv 9) (re_op op_or oa_or (pv 4) (re_op op_shl oa_shl (pv 6) (pv 8)))))) rss_nil)
  (rss_fz (rss_one (rs_rt (re_call (ok_table_by M B) (hr.mono (by decide)) rfl M.g_table_by M.F_table_by.kp M.b_table_by (takes_of rfl rfl rfl rfl) (ra_cons (re_op op_sub oa_sub (re_op op_addX oa_add (pv 8) (re_fld rfl ⟨⟨_, _, M.gC_Table, M.sc_Table, M.st_Table_own_many⟩⟩ (re_var (pv 2)))) re_int) (ra_cons (re_var (pv 9)) ra_nil)))))))))))
theorem ok_tied (M : Md P K mg) (B : Bd M base) : FnG P w K mg base (L2.CX P w) 9 M.f_tied M.fd_tied ["one", "line", "other", "further"] (spD (gc M) false 4 f_tied) :=
  okD M.F_tied sc_tied (by decide) fun cdv A outer s H E H0 F0 hcv hr =>
  (rss_cons (rs_ex (re_call (ok_require_line_in M B) (hr.mono (by decide)) rfl M.g_require_line_in M.F_require_line_in.kp M.b_require_line_in (takes_of rfl rfl rfl rfl) (ra_cons (re_var (pv 0)) (ra_cons (re_var (pv 1)) ra_nil))))
  (rss_cons (rs_ex (re_call (ok_require_line_in M B) (hr.mono (by decide)) rfl M.g_require_line_in M.F_require_line_in.kp M.b_require_line_in (takes_of rfl rfl rfl rfl) (ra_cons (re_var (pv 2)) (ra_cons (re_var (pv 3)) ra_nil))))
  (rss_cons (rs_set sc_tied.nd rfl (by first | exact .inl rfl | exact .inr rfl) (re_op op_sub oa_sub (re_op op_addX oa_add (re_fld rfl ⟨⟨_, _, M.gC_Table, M.sc_Table, M.st_Table_own_many⟩⟩ (re_var (pv 0))) (re_fld rfl ⟨⟨_, _, M.gC_Table, M.sc_Table, M.st_Table_own_many⟩⟩ (re_var (pv 2)))) (re_gint rfl M.c_LEAST_BESIDE)))
  (rss_cons (rs_if (rt_cmp (op_eqD hr.units) oa_eq (pv 4) re_int (by first | exact nobehind _ (by decide) (by decide) | rfl)) (rss_one (rs_raise1 M.e_Refused hr rfl (takes_of rfl rfl rfl rfl) rfl (re_gtup rfl rfl M.c_NOTHING (fun _ => (.cons .str .nil))) rfl)) rss_nil)
  (rss_cons (rs_ex (re_call (ok_need_few M B) (hr.mono (by decide)) rfl M.g_need_few M.F_need_few.kp M.b_need_few (takes_of rfl rfl rfl rfl) (ra_cons (re_var (pv 4)) ra_nil)))
  (rss_one (rs_rt (re_call (ok_tied_in M B) (hr.mono (by decide)) rfl M.g_tied_in M.F_tied_in.kp M.b_tied_in (takes_of rfl rfl rfl rfl) (ra_cons (re_var (pv 0)) (ra_cons (re_var (pv 1)) (ra_cons (re_var (pv 2)) (ra_cons (re_var (pv 3)) ra_nil))))))))))))
theorem ok_reduced (M : Md P K mg) (B : Bd M base) : FnG P w K mg base (L2.CX P w) 2 M.f_reduced M.fd_reduced ["mask", "form"] (spD (gc M) false 2 f_reduced) :=
  okD M.F_reduced sc_reduced (by decide) fun cdv A outer s H E H0 F0 hcv hr =>
  (rss_cons (rs_set sc_reduced.nd rfl (by first | exact .inl rfl | exact .inr rfl) (re_var (pv 0)))
  (rss_cons (rs_for (passes_of rfl) rfl (ri_any rfl (re_var (pv 1))) (rg_name sc_reduced.nd rfl (by first | exact .inl rfl | exact .inr rfl)) (rss_one (rs_if (rt_cmp (op_neD hr.units) oa_ne (re_op op_and oa_and (pv 2) (re_call (ok_head_of M B) (hr.mono (by decide)) rfl M.g_head_of M.F_head_of.kp M.b_head_of (takes_of rfl rfl rfl rfl) (ra_cons (re_var (pv 3)) ra_nil))) re_int (by first | exact nobehind _ (by decide) (by decide) | rfl)) (rss_one (rs_aug sc_reduced.nd rfl (by first | exact .inl rfl | exact .inr rfl) iop_xor oa_xor (re_var (pv 3)))) rss_nil)))
  (rss_one (rs_rt (re_var (pv 2))))))
theorem ok_is_sum_in (M : Md P K mg) (B : Bd M base) : FnG P w K mg base (L2.CX P w) 3 M.f_is_sum_in M.fd_is_sum_in ["mask", "form"] (spD (gc M) false 2 f_is_sum_in) :=
  okD M.F_is_sum_in sc_is_sum_in (by decide) fun cdv A outer s H E H0 F0 hcv hr =>
  (rss_one (rs_rt (re_cmp (op_eqD hr.units) oa_eq (re_call (ok_reduced M B) (hr.mono (by decide)) rfl M.g_reduced M.F_reduced.kp M.b_reduced (takes_of rfl rfl rfl rfl) (ra_cons (re_var (pv 0)) (ra_cons (re_var (pv 1)) ra_nil))) re_int (by first | exact nobehind _ (by decide) (by decide) | rfl))))
theorem ok_side_of (M : Md P K mg) (B : Bd M base) : FnG P w K mg base (L2.CX P w) 8 M.f_side_of M.fd_side_of ["table", "lot"] (spD (gc M) false 2 f_side_of) :=
  okD M.F_side_of sc_side_of (by decide) fun cdv A outer s H E H0 F0 hcv hr =>
  (rss_cons (rs_par3 rfl sc_side_of.nd rfl rfl rfl (by decide) (by decide) (by decide) rfl rfl rfl (rok_cons (fun _ => (re_call (ok_mask_of M B) (hr.mono (by decide)) rfl M.g_mask_of M.F_mask_of.kp M.b_mask_of (takes_of rfl rfl rfl rfl) (ra_cons (re_var (pv 1)) ra_nil))) (rok_cons (fun _ => (re_cb call_lenX oa_len rfl M.z_len bt_len (ro_cons (pv 1) ro_nil))) (rok_cons (fun _ => (re_lst ra_nil)) rok_nil))))
  (rss_cons (rs_for (passes_of rfl) rfl (ri_any rfl (re_fld rfl ⟨⟨_, _, M.gC_Table, M.sc_Table, M.st_Table_own_form⟩⟩ (re_var (pv 0)))) (rg_name sc_side_of.nd rfl (by first | exact .inl rfl | exact .inr rfl)) (rss_cons (rs_set sc_side_of.nd rfl (by first | exact .inl rfl | exact .inr rfl) (re_if (rt_val (re_call (ok_is_sum_in M B) (hr.mono (by decide)) rfl M.g_is_sum_in M.F_is_sum_in.kp M.b_is_sum_in (takes_of rfl rfl rfl rfl) (ra_cons (re_op op_and oa_and (pv 5) (pv 2)) (ra_cons (re_fld rfl ⟨⟨_, _, M.gC_Table, M.sc_Table, M.st_Table_own_form⟩⟩ (re_var (pv 0))) ra_nil)))) re_int (re_op op_shl oa_shl re_int (pv 3))))
  (rss_one (rs_ex (re_append rfl (pv 4) (re_op op_or oa_or (re_call (ok_renamed M B) (hr.mono (by decide)) rfl M.g_renamed M.F_renamed.kp M.b_renamed (takes_of rfl rfl rfl rfl) (ra_cons (re_var (pv 5)) (ra_cons (re_var (pv 1)) ra_nil))) (pv 6)))))))
  (rss_fz (rss_one (rs_rt (re_call (ok_table_by M B) (hr.mono (by decide)) rfl M.g_table_by M.F_table_by.kp M.b_table_by (takes_of rfl rfl rfl rfl) (ra_cons (re_op op_addX oa_add (pv 3) re_int) (ra_cons (re_var (pv 4)) ra_nil))))))))
theorem ok_taken_apart (M : Md P K mg) (B : Bd M base) : FnG P w K mg base (L2.CX P w) 9 M.f_taken_apart M.fd_taken_apart ["table", "seam"] (spD (gc M) false 2 f_taken_apart) :=
  okD M.F_taken_apart sc_taken_apart (by decide) fun cdv A outer s H E H0 F0 hcv hr =>
  (rss_cons (rs_ex (re_call (ok_require_table M B) (hr.mono (by decide)) rfl M.g_require_table M.F_require_table.kp M.b_require_table (takes_of rfl rfl rfl rfl) (ra_cons (re_var (pv 0)) ra_nil)))
  (rss_cons (rs_if (rt_not (rt_val (re_call (ok_is_seam_in M B) (hr.mono (by decide)) rfl M.g_is_seam_in M.F_is_seam_in.kp M.b_is_seam_in (takes_of rfl rfl rfl rfl) (ra_cons (re_var (pv 0)) (ra_cons (re_var (pv 1)) ra_nil))))) (rss_one (rs_raise0 M.e_InvalidOperation rfl (takes_of rfl rfl rfl rfl) rfl rfl)) rss_nil)
  (rss_one (rs_rt (re_tup (ra_cons (re_call (ok_side_of M B) (hr.mono (by decide)) rfl M.g_side_of M.F_side_of.kp M.b_side_of (takes_of rfl rfl rfl rfl) (ra_cons (re_var (pv 0)) (ra_cons (re_var (pv 1)) ra_nil))) (ra_cons (re_call (ok_side_of M B) (hr.mono (by decide)) rfl M.g_side_of M.F_side_of.kp M.b_side_of (takes_of rfl rfl rfl rfl) (ra_cons (re_var (pv 0)) (ra_cons (re_call (ok_beyond_parts M B) (hr.mono (by decide)) rfl M.g_beyond_parts M.F_beyond_parts.kp M.b_beyond_parts (takes_of rfl rfl rfl rfl) (ra_cons (re_var (pv 0)) (ra_cons (re_var (pv 1)) ra_nil))) ra_nil))) ra_nil)))))))
theorem lb_lam_law_right_0 (M : Md P K mg) (B : Bd M base) : LamB P w K mg base (gc M) 9 ["one"] ["one"] lamD_lam_law_right_0 m_lam_law_right_0 where
  S := ⟨rfl, rfl, rfl, by decide +kernel, rfl, by decide +kernel, by decide +kernel⟩
  len := by decide
  bind := fun pm cv ctv us h => match us, h with | [_], _ => rfl
  body := fun f cdv A outer s H E H0 F0 hr => by exact (re_call (ok_is_seam M B) (hr.mono (by decide)) rfl M.g_is_seam M.F_is_seam.kp M.b_is_seam (takes_of rfl rfl rfl rfl) (ra_cons (re_var (pv 0)) (ra_cons re_non ra_nil)))
theorem ok__law_right (M : Md P K mg) (B : Bd M base) : FnG P w K mg base (L2.CX P w) 13 M.f__law_right M.fd__law_right ["dice"] (spR (gc M) false 0 f__law_right) :=
  okR M.F__law_right sc__law_right rfl (by decide) fun cdv A outer s H E ra H0 F0 hcv hr =>
  (rss_cons (rs_asg (re_tup (ra_cons (re_make M.mk_Table (ok_Table_init M B) (hr.mono (by decide)) rfl M.gC_Table M.gC_Table M.b_Table_init (takes_of rfl rfl rfl rfl) (ra_cons re_int (ra_cons (re_tup (ra_cons (re_tup (ra_cons re_int (ra_cons re_int ra_nil))) (ra_cons (re_tup (ra_cons re_int (ra_cons re_int ra_nil))) (ra_cons (re_tup (ra_cons re_int (ra_cons re_int (ra_cons re_int ra_nil)))) ra_nil)))) ra_nil))) (ra_cons (re_make M.mk_Table (ok_Table_init M B) (hr.mono (by decide)) rfl M.gC_Table M.gC_Table M.b_Table_init (takes_of rfl rfl rfl rfl) (ra_cons re_int (ra_cons (re_tup (ra_cons (re_tup (ra_cons re_int (ra_cons re_int ra_nil))) ra_nil)) ra_nil))) ra_nil))) (rg_tup rfl rfl (rgs_cons (rg_name sc__law_right.nd rfl (by first | exact .inl rfl | exact .inr rfl)) (rgs_cons (rg_name sc__law_right.nd rfl (by first | exact .inl rfl | exact .inr rfl)) rgs_nil))))
  (rss_cons (rs_set sc__law_right.nd rfl (by first | exact .inl rfl | exact .inr rfl) (re_callR (ok__law_pick M B) (hr.mono (by decide)) rfl M.g__law_pick M.F__law_pick.kp M.b__law_pick (takes_of rfl rfl rfl rfl) (pv 0) (ra_cons (re_fz (re_lst (ra_cons re_non (ra_cons re_int (ra_cons re_str (ra_cons (re_tup ra_nil) (ra_cons (re_tup (ra_cons re_int (ra_cons (re_tup (ra_cons (re_tup (ra_cons re_int (ra_cons re_int ra_nil))) ra_nil)) ra_nil))) (ra_cons (re_fz re_dnew) (ra_cons (re_fz (re_lst (ra_cons (re_var (pv 1)) ra_nil))) (ra_cons re_bl ra_nil)))))))))) ra_nil)))
  (rss_cons (rs_set sc__law_right.nd rfl (by first | exact .inl rfl | exact .inr rfl) (re_callR (ok__law_pick M B) (hr.mono (by decide)) rfl M.g__law_pick M.F__law_pick.kp M.b__law_pick (takes_of rfl rfl rfl rfl) (pv 0) (ra_cons (re_fz (re_lst (ra_cons re_non (ra_cons (re_un un_neg oa_neg re_int) (ra_cons re_int (ra_cons re_bl (ra_cons re_str (ra_cons (re_tup (ra_cons re_int ra_nil)) (ra_cons (re_op op_pow oa_pow re_int re_int) (ra_cons (re_fz (re_lst ra_nil)) ra_nil)))))))))) ra_nil)))
  (rss_cons (rs_set sc__law_right.nd rfl (by first | exact .inl rfl | exact .inr rfl) (re_callR (ok__law_pick M B) (hr.mono (by decide)) rfl M.g__law_pick M.F__law_pick.kp M.b__law_pick (takes_of rfl rfl rfl rfl) (pv 0) (ra_cons (re_fz (re_lst (ra_cons re_non (ra_cons (re_un un_neg oa_neg re_int) (ra_cons re_int (ra_cons re_bl (ra_cons re_str (ra_cons (re_tup (ra_cons re_int ra_nil)) (ra_cons (re_op op_pow oa_pow re_int re_int) ra_nil))))))))) ra_nil)))
  (rss_cons (rs_set sc__law_right.nd rfl (by first | exact .inl rfl | exact .inr rfl) (re_fz (re_lst (ra_cons re_non (ra_cons re_int (ra_cons (re_tup ra_nil) (ra_cons (re_tup (ra_cons re_int ra_nil)) (ra_cons (re_tup (ra_cons re_int (ra_cons re_int ra_nil))) (ra_cons (re_tup (ra_cons re_int (ra_cons re_int ra_nil))) (ra_cons (re_tup (ra_cons re_int (ra_cons re_int ra_nil))) (ra_cons (re_tup (ra_cons re_bl (ra_cons re_int ra_nil))) (ra_cons (re_fz (re_lst (ra_cons re_int (ra_cons re_int ra_nil)))) (ra_cons (re_tup (ra_cons re_int (ra_cons re_int ra_nil))) (ra_cons (re_tup (ra_cons re_int (ra_cons re_int (ra_cons re_int (ra_cons re_int ra_nil))))) (ra_cons (re_tup (ra_cons re_int (ra_cons re_int (ra_cons re_int (ra_cons re_int (ra_cons re_int ra_nil)))))) (ra_cons re_str (ra_cons (re_fz re_dnew) ra_nil)))))))))))))))))
  (rss_cons (rs_set sc__law_right.nd rfl (by first | exact .inl rfl | exact .inr rfl) (re_callR (ok__law_pick M B) (hr.mono (by decide)) rfl M.g__law_pick M.F__law_pick.kp M.b__law_pick (takes_of rfl rfl rfl rfl) (pv 0) (ra_cons (re_var (pv 6)) ra_nil)))
  (rss_cons (rs_par rfl sc__law_right.nd rfl rfl (by decide) rfl rfl (re_lst ra_nil) (fun _ => (re_lst ra_nil)))
  (rss_cons (rs_for (passes_of rfl) rfl (ri_any rfl (re_tup (ra_cons (re_fn rfl M.g_parts rfl) (ra_cons (re_fn rfl M.g_does_hang rfl) (ra_cons (re_lamV M.z_lam_law_right_0 ((lm_lam_law_right_0).trans (by kernel_rfl)) (B.t__law_right) (by exact hcv.symm.trans M.cd__law_right) (by exact (.head _)) (by exact hu_of M.nd (by exact (.head _))) rfl (by decide +kernel)) ra_nil))))) (rg_name sc__law_right.nd rfl (by first | exact .inl rfl | exact .inr rfl)) (rss_cons (rs_ex (re_append rfl (pv 8) (re_met (k := 10) (hr.mono (by decide)) rfl M.g__law_met M.F__law_met M.b__law_met sc__law_met rfl (.inl rfl) (by exact fun cdv => given__law_met M rfl rfl rfl cdv _) (B.t__law_right) (by exact hcv.symm.trans M.cd__law_right) (by exact (.head _)) (by exact hu_of M.nd (by exact (.head _))) (lamS_by (sc := defScope st__law_right) (by kernel_rfl)) rfl (by intros; rfl) (by exact fun A outer s H E f c' hr => (re_callW (k := 10) rfl (.cons (.df (heldG (k := 10) (ok_parts M B) (by decide) M.g_parts M.F_parts.kp M.b_parts)) (.cons (.df (heldG (k := 10) (ok_does_hang M B) (by decide) M.g_does_hang M.F_does_hang.kp M.b_does_hang)) (.cons (.lam M.z_lam_law_right_0 lm_lam_law_right_0 (lb_lam_law_right_0 M B) (by decide) rfl rfl) .nil))) (hr.mono (by decide)) (pv 10) (takes_of rfl rfl rfl rfl) (ra_cons (re_var (pv 3)) ra_nil))))))
  (rss_one (rs_ex (re_append rfl (pv 9) re_str)))))
  (rss_cons (rs_ex (re_append rfl (pv 8) (re_met (k := 9) (hr.mono (by decide)) rfl M.g__law_met M.F__law_met M.b__law_met sc__law_met rfl (.inl rfl) (by exact fun cdv => given__law_met M rfl rfl rfl cdv _) (B.t__law_right) (by exact hcv.symm.trans M.cd__law_right) (by exact (.head _)) (by exact hu_of M.nd (by exact (.head _))) (lamS_by (sc := defScope st__law_right) (by kernel_rfl)) rfl (by intros; rfl) (by exact fun A outer s H E f c' hr => (re_call (ok_part_table M B) (hr.mono (by decide)) rfl M.g_part_table M.F_part_table.kp M.b_part_table (takes_of rfl rfl rfl rfl) (ra_cons (re_var (pv 3)) (ra_cons (re_var (pv 5)) ra_nil)))))))
  (rss_cons (rs_ex (re_append rfl (pv 8) (re_met (k := 9) (hr.mono (by decide)) rfl M.g__law_met M.F__law_met M.b__law_met sc__law_met rfl (.inl rfl) (by exact fun cdv => given__law_met M rfl rfl rfl cdv _) (B.t__law_right) (by exact hcv.symm.trans M.cd__law_right) (by exact (.head _)) (by exact hu_of M.nd (by exact (.head _))) (lamS_by (sc := defScope st__law_right) (by kernel_rfl)) rfl (by intros; rfl) (by exact fun A outer s H E f c' hr => (re_call (ok_part_table M B) (hr.mono (by decide)) rfl M.g_part_table M.F_part_table.kp M.b_part_table (takes_of rfl rfl rfl rfl) (ra_cons (re_var (pv 1)) (ra_cons (re_var (pv 5)) ra_nil)))))))
  (rss_cons (rs_ex (re_append rfl (pv 8) (re_met (k := 9) (hr.mono (by decide)) rfl M.g__law_met M.F__law_met M.b__law_met sc__law_met rfl (.inl rfl) (by exact fun cdv => given__law_met M rfl rfl rfl cdv _) (B.t__law_right) (by exact hcv.symm.trans M.cd__law_right) (by exact (.head _)) (by exact hu_of M.nd (by exact (.head _))) (lamS_by (sc := defScope st__law_right) (by kernel_rfl)) rfl (by intros; rfl) (by exact fun A outer s H E f c' hr => (re_call (ok_beside M B) (hr.mono (by decide)) rfl M.g_beside M.F_beside.kp M.b_beside (takes_of rfl rfl rfl rfl) (ra_cons (re_var (pv 3)) (ra_cons (re_var (pv 3)) ra_nil)))))))
  (rss_cons (rs_ex (re_append rfl (pv 8) (re_met (k := 9) (hr.mono (by decide)) rfl M.g__law_met M.F__law_met M.b__law_met sc__law_met rfl (.inl rfl) (by exact fun cdv => given__law_met M rfl rfl rfl cdv _) (B.t__law_right) (by exact hcv.symm.trans M.cd__law_right) (by exact (.head _)) (by exact hu_of M.nd (by exact (.head _))) (lamS_by (sc := defScope st__law_right) (by kernel_rfl)) rfl (by intros; rfl) (by exact fun A outer s H E f c' hr => (re_call (ok_beside M B) (hr.mono (by decide)) rfl M.g_beside M.F_beside.kp M.b_beside (takes_of rfl rfl rfl rfl) (ra_cons (re_var (pv 1)) (ra_cons (re_var (pv 3)) ra_nil)))))))
  (rss_cons (rs_ex (re_append rfl (pv 8) (re_met (k := 9) (hr.mono (by decide)) rfl M.g__law_met M.F__law_met M.b__law_met sc__law_met rfl (.inl rfl) (by exact fun cdv => given__law_met M rfl rfl rfl cdv _) (B.t__law_right) (by exact hcv.symm.trans M.cd__law_right) (by exact (.head _)) (by exact hu_of M.nd (by exact (.head _))) (lamS_by (sc := defScope st__law_right) (by kernel_rfl)) rfl (by intros; rfl) (by exact fun A outer s H E f c' hr => (re_call (ok_beside M B) (hr.mono (by decide)) rfl M.g_beside M.F_beside.kp M.b_beside (takes_of rfl rfl rfl rfl) (ra_cons (re_var (pv 1)) (ra_cons (re_var (pv 2)) ra_nil)))))))
  (rss_cons (rs_setO sc__law_right.nd rfl (by first | exact .inl rfl | exact .inr rfl) (re_opF op_addX of_catX (pv 9) (re_fz (re_lst (ra_cons re_str (ra_cons (re_op op_addX oa_add re_str (re_cb (cr_reprX hr.g hr.units) oa_reprX rfl M.z_repr bt_repr (ro_cons (pv 5) ro_nil))) (ra_cons re_str (ra_cons re_str (ra_cons re_str ra_nil)))))))))
  (rss_cons (rs_ex (re_append rfl (pv 8) (re_met (k := 9) (hr.mono (by decide)) rfl M.g__law_met M.F__law_met M.b__law_met sc__law_met rfl (.inl rfl) (by exact fun cdv => given__law_met M rfl rfl rfl cdv _) (B.t__law_right) (by exact hcv.symm.trans M.cd__law_right) (by exact (.head _)) (by exact hu_of M.nd (by exact (.head _))) (lamS_by (sc := defScope st__law_right) (by kernel_rfl)) rfl (by intros; rfl) (by exact fun A outer s H E f c' hr => (re_call (ok_tied M B) (hr.mono (by decide)) rfl M.g_tied M.F_tied.kp M.b_tied (takes_of rfl rfl rfl rfl) (ra_cons (re_var (pv 3)) (ra_cons (re_var (pv 4)) (ra_cons (re_var (pv 3)) (ra_cons (re_var (pv 4)) ra_nil)))))))))
  (rss_cons (rs_ex (re_append rfl (pv 8) (re_met (k := 9) (hr.mono (by decide)) rfl M.g__law_met M.F__law_met M.b__law_met sc__law_met rfl (.inl rfl) (by exact fun cdv => given__law_met M rfl rfl rfl cdv _) (B.t__law_right) (by exact hcv.symm.trans M.cd__law_right) (by exact (.head _)) (by exact hu_of M.nd (by exact (.head _))) (lamS_by (sc := defScope st__law_right) (by kernel_rfl)) rfl (by intros; rfl) (by exact fun A outer s H E f c' hr => (re_call (ok_tied M B) (hr.mono (by decide)) rfl M.g_tied M.F_tied.kp M.b_tied (takes_of rfl rfl rfl rfl) (ra_cons (re_var (pv 1)) (ra_cons (re_var (pv 4)) (ra_cons (re_var (pv 3)) (ra_cons (re_var (pv 4)) ra_nil)))))))))
  (rss_cons (rs_ex (re_append rfl (pv 8) (re_met (k := 9) (hr.mono (by decide)) rfl M.g__law_met M.F__law_met M.b__law_met sc__law_met rfl (.inl rfl) (by exact fun cdv => given__law_met M rfl rfl rfl cdv _) (B.t__law_right) (by exact hcv.symm.trans M.cd__law_right) (by exact (.head _)) (by exact hu_of M.nd (by exact (.head _))) (lamS_by (sc := defScope st__law_right) (by kernel_rfl)) rfl (by intros; rfl) (by exact fun A outer s H E f c' hr => (re_call (ok_tied M B) (hr.mono (by decide)) rfl M.g_tied M.F_tied.kp M.b_tied (takes_of rfl rfl rfl rfl) (ra_cons (re_var (pv 1)) (ra_cons re_int (ra_cons (re_var (pv 3)) (ra_cons (re_var (pv 4)) ra_nil)))))))))
  (rss_cons (rs_ex (re_append rfl (pv 8) (re_met (k := 9) (hr.mono (by decide)) rfl M.g__law_met M.F__law_met M.b__law_met sc__law_met rfl (.inl rfl) (by exact fun cdv => given__law_met M rfl rfl rfl cdv _) (B.t__law_right) (by exact hcv.symm.trans M.cd__law_right) (by exact (.head _)) (by exact hu_of M.nd (by exact (.head _))) (lamS_by (sc := defScope st__law_right) (by kernel_rfl)) rfl (by intros; rfl) (by exact fun A outer s H E f c' hr => (re_call (ok_tied M B) (hr.mono (by decide)) rfl M.g_tied M.F_tied.kp M.b_tied (takes_of rfl rfl rfl rfl) (ra_cons (re_var (pv 1)) (ra_cons re_int (ra_cons (re_var (pv 2)) (ra_cons (re_var (pv 4)) ra_nil)))))))))
  (rss_cons (rs_ex (re_append rfl (pv 8) (re_met (k := 9) (hr.mono (by decide)) rfl M.g__law_met M.F__law_met M.b__law_met sc__law_met rfl (.inl rfl) (by exact fun cdv => given__law_met M rfl rfl rfl cdv _) (B.t__law_right) (by exact hcv.symm.trans M.cd__law_right) (by exact (.head _)) (by exact hu_of M.nd (by exact (.head _))) (lamS_by (sc := defScope st__law_right) (by kernel_rfl)) rfl (by intros; rfl) (by exact fun A outer s H E f c' hr => (re_call (ok_tied M B) (hr.mono (by decide)) rfl M.g_tied M.F_tied.kp M.b_tied (takes_of rfl rfl rfl rfl) (ra_cons (re_var (pv 1)) (ra_cons re_int (ra_cons (re_var (pv 2)) (ra_cons re_int ra_nil)))))))))
  (rss_cons (rs_setO sc__law_right.nd rfl (by first | exact .inl rfl | exact .inr rfl) (re_opF op_addX of_catX (pv 9) (re_fz (re_lst (ra_cons re_str (ra_cons (re_op op_addX oa_add re_str (re_cb (cr_reprX hr.g hr.units) oa_reprX rfl M.z_repr bt_repr (ro_cons (pv 4) ro_nil))) (ra_cons re_str (ra_cons (re_op op_addX oa_add re_str (re_cb (cr_reprX hr.g hr.units) oa_reprX rfl M.z_repr bt_repr (ro_cons (pv 4) ro_nil))) (ra_cons re_str ra_nil)))))))))
  (rss_cons (rs_ex (re_append rfl (pv 8) (re_met (k := 9) (hr.mono (by decide)) rfl M.g__law_met M.F__law_met M.b__law_met sc__law_met rfl (.inl rfl) (by exact fun cdv => given__law_met M rfl rfl rfl cdv _) (B.t__law_right) (by exact hcv.symm.trans M.cd__law_right) (by exact (.head _)) (by exact hu_of M.nd (by exact (.head _))) (lamS_by (sc := defScope st__law_right) (by kernel_rfl)) rfl (by intros; rfl) (by exact fun A outer s H E f c' hr => (re_call (ok_taken_apart M B) (hr.mono (by decide)) rfl M.g_taken_apart M.F_taken_apart.kp M.b_taken_apart (takes_of rfl rfl rfl rfl) (ra_cons (re_var (pv 3)) (ra_cons (re_var (pv 7)) ra_nil)))))))
  (rss_cons (rs_ex (re_append rfl (pv 8) (re_met (k := 9) (hr.mono (by decide)) rfl M.g__law_met M.F__law_met M.b__law_met sc__law_met rfl (.inl rfl) (by exact fun cdv => given__law_met M rfl rfl rfl cdv _) (B.t__law_right) (by exact hcv.symm.trans M.cd__law_right) (by exact (.head _)) (by exact hu_of M.nd (by exact (.head _))) (lamS_by (sc := defScope st__law_right) (by kernel_rfl)) rfl (by intros; rfl) (by exact fun A outer s H E f c' hr => (re_call (ok_taken_apart M B) (hr.mono (by decide)) rfl M.g_taken_apart M.F_taken_apart.kp M.b_taken_apart (takes_of rfl rfl rfl rfl) (ra_cons (re_var (pv 1)) (ra_cons (re_var (pv 7)) ra_nil)))))))
  (rss_cons (rs_ex (re_append rfl (pv 8) (re_met (k := 9) (hr.mono (by decide)) rfl M.g__law_met M.F__law_met M.b__law_met sc__law_met rfl (.inl rfl) (by exact fun cdv => given__law_met M rfl rfl rfl cdv _) (B.t__law_right) (by exact hcv.symm.trans M.cd__law_right) (by exact (.head _)) (by exact hu_of M.nd (by exact (.head _))) (lamS_by (sc := defScope st__law_right) (by kernel_rfl)) rfl (by intros; rfl) (by exact fun A outer s H E f c' hr => (re_call (ok_taken_apart M B) (hr.mono (by decide)) rfl M.g_taken_apart M.F_taken_apart.kp M.b_taken_apart (takes_of rfl rfl rfl rfl) (ra_cons (re_var (pv 1)) (ra_cons (re_tup (ra_cons re_int (ra_cons re_int ra_nil))) ra_nil)))))))
  (rss_cons (rs_setO sc__law_right.nd rfl (by first | exact .inl rfl | exact .inr rfl) (re_opF op_addX of_catX (pv 9) (re_fz (re_lst (ra_cons re_str (ra_cons re_str (ra_cons re_str ra_nil)))))))
  (rss_one (rs_rt (re_and (re_cmp (op_eqD hr.units) oa_eq (pv 8) (pv 9) (by first | exact nobehind _ (by decide) (by decide) | rfl)) (re_and (re_not (re_call (ok_is_seam M B) (hr.mono (by decide)) rfl M.g_is_seam M.F_is_seam.kp M.b_is_seam (takes_of rfl rfl rfl rfl) (ra_cons (re_var (pv 1)) (ra_cons (re_var (pv 7)) ra_nil)))) (re_one (re_not (re_call (ok_is_seam M B) (hr.mono (by decide)) rfl M.g_is_seam M.F_is_seam.kp M.b_is_seam (takes_of rfl rfl rfl rfl) (ra_cons (re_call (ok_beside M B) (hr.mono (by decide)) rfl M.g_beside M.F_beside.kp M.b_beside (takes_of rfl rfl rfl rfl) (ra_cons (re_var (pv 2)) (ra_cons (re_var (pv 2)) ra_nil))) (ra_cons (re_tup (ra_cons re_int (ra_cons re_int ra_nil))) ra_nil)))))))))))))))))))))))))))))))))
theorem ok_law (M : Md P K mg) (B : Bd M base) : FnG P w K mg base (L2.CX P w) 14 M.f_law M.fd_law ["script"] (spD (gc M) false 1 f_law) :=
  okD M.F_law sc_law (by decide) fun cdv A outer s H E H0 F0 hcv hr =>
  (rss_cons (rs_for (passes_of rfl) rfl (ri_range1 rfl M.z_range (re_cb (call_max2 rfl) oa_max2 rfl M.z_max bt_max (ro_cons re_int (ro_cons (re_cb (call_min2 rfl) oa_min2 rfl M.z_min bt_min (ro_cons re_int (ro_cons (re_cb call_lenX oa_len rfl M.z_len bt_len (ro_cons (pv 0) ro_nil)) ro_nil))) ro_nil)))) (rg_name sc_law.nd rfl (by first | exact .inl rfl | exact .inr rfl)) (rss_cons (rs_setO sc_law.nd rfl (by first | exact .inl rfl | exact .inr rfl) (re_callF (ok__law_dice M B) (hr.mono (by decide)) rfl M.g__law_dice M.F__law_dice.kp M.b__law_dice (takes_of rfl rfl rfl rfl) (ra_cons (re_var (pv 0)) (ra_cons (re_var (pv 1)) ra_nil))))
  (rss_one (rs_if (PW.pt (rw_or (rt_not (rt_val (re_callR (ok__law_right M B) (hr.mono (by decide)) rfl M.g__law_right M.F__law_right.kp M.b__law_right (takes_of rfl rfl rfl rfl) (pv 2) ra_nil))) (rw_or1 (rt_not (rt_val (re_callR (ok__law_right M B) (hr.mono (by decide)) rfl M.g__law_right M.F__law_right.kp M.b__law_right (takes_of rfl rfl rfl rfl) (pv 2) ra_nil)))))) (rss_one (rs_rt re_bl)) rss_nil))))
  (rss_cons (rs_set sc_law.nd rfl (by first | exact .inl rfl | exact .inr rfl) (re_fz (re_lc rfl sc_law.nd (blkOk_by (own := [("many", 5)]) (by kernel_rfl)) (by decide) (ri_any rfl (re_tup (ra_cons re_int (ra_cons re_int (ra_cons re_int (ra_cons re_int (ra_cons re_int ra_nil))))))) (fun _ _ _ _ _ => PGx fun _ => (rg_name sc_law.nd rfl (by first | exact .inl rfl | exact .inr rfl))) (fun _ _ _ _ _ => PTx0) (fun _ _ _ _ _ => PEx fun _ => (re_make M.mk_Table (ok_Table_init M B) (hr.mono (by decide)) rfl M.gC_Table M.gC_Table M.b_Table_init tk0 (ra_cons (re_var (pv 5)) (ra_cons (re_tup (ra_cons (re_tup (ra_cons re_int (ra_cons (re_op op_sub oa_sub (pv 5) re_int) ra_nil))) ra_nil)) ra_nil)))))))
  (rss_cons (rs_setO sc_law.nd rfl (by first | exact .inl rfl | exact .inr rfl) (re_lst (ra_cons (re_met (k := 9) (hr.mono (by decide)) rfl M.g__law_met M.F__law_met M.b__law_met sc__law_met rfl (.inl rfl) (by exact fun cdv => given__law_met M rfl rfl rfl cdv _) (B.t_law) (by exact hcv.symm.trans M.cd_law) (by exact (.tail _ (.head _))) (by exact hu_of M.nd (by exact (.tail _ (.head _)))) (lamS_by (sc := defScope st_law) (by kernel_rfl)) rfl (by intros; rfl) (by exact fun A outer s H E f c' hr => (re_call (ok_beside M B) (hr.mono (by decide)) rfl M.g_beside M.F_beside.kp M.b_beside (takes_of rfl rfl rfl rfl) (ra_cons (re_ixx rfl hr.units (pv 3) re_int (fun _ _ => rfl) (fun _ _ => rfl)) (ra_cons (re_ixx rfl hr.units (pv 3) re_int (fun _ _ => rfl) (fun _ _ => rfl)) ra_nil))))) ra_nil)))
  (rss_cons (rs_ex (re_append rfl (pv 4) (re_met (k := 9) (hr.mono (by decide)) rfl M.g__law_met M.F__law_met M.b__law_met sc__law_met rfl (.inl rfl) (by exact fun cdv => given__law_met M rfl rfl rfl cdv _) (B.t_law) (by exact hcv.symm.trans M.cd_law) (by exact (.tail _ (.head _))) (by exact hu_of M.nd (by exact (.tail _ (.head _)))) (lamS_by (sc := defScope st_law) (by kernel_rfl)) rfl (by intros; rfl) (by exact fun A outer s H E f c' hr => (re_call (ok_beside M B) (hr.mono (by decide)) rfl M.g_beside M.F_beside.kp M.b_beside (takes_of rfl rfl rfl rfl) (ra_cons (re_ixx rfl hr.units (pv 3) re_int (fun _ _ => rfl) (fun _ _ => rfl)) (ra_cons (re_ixx rfl hr.units (pv 3) re_int (fun _ _ => rfl) (fun _ _ => rfl)) ra_nil)))))))
  (rss_cons (rs_ex (re_append rfl (pv 4) (re_met (k := 9) (hr.mono (by decide)) rfl M.g__law_met M.F__law_met M.b__law_met sc__law_met rfl (.inl rfl) (by exact fun cdv => given__law_met M rfl rfl rfl cdv _) (B.t_law) (by exact hcv.symm.trans M.cd_law) (by exact (.tail _ (.head _))) (by exact hu_of M.nd (by exact (.tail _ (.head _)))) (lamS_by (sc := defScope st_law) (by kernel_rfl)) rfl (by intros; rfl) (by exact fun A outer s H E f c' hr => (re_call (ok_tied M B) (hr.mono (by decide)) rfl M.g_tied M.F_tied.kp M.b_tied (takes_of rfl rfl rfl rfl) (ra_cons (re_ixx rfl hr.units (pv 3) re_int (fun _ _ => rfl) (fun _ _ => rfl)) (ra_cons re_int (ra_cons (re_ixx rfl hr.units (pv 3) re_int (fun _ _ => rfl) (fun _ _ => rfl)) (ra_cons re_int ra_nil)))))))))
  (rss_cons (rs_ex (re_append rfl (pv 4) (re_met (k := 9) (hr.mono (by decide)) rfl M.g__law_met M.F__law_met M.b__law_met sc__law_met rfl (.inl rfl) (by exact fun cdv => given__law_met M rfl rfl rfl cdv _) (B.t_law) (by exact hcv.symm.trans M.cd_law) (by exact (.tail _ (.head _))) (by exact hu_of M.nd (by exact (.tail _ (.head _)))) (lamS_by (sc := defScope st_law) (by kernel_rfl)) rfl (by intros; rfl) (by exact fun A outer s H E f c' hr => (re_call (ok_tied M B) (hr.mono (by decide)) rfl M.g_tied M.F_tied.kp M.b_tied (takes_of rfl rfl rfl rfl) (ra_cons (re_ixx rfl hr.units (pv 3) re_int (fun _ _ => rfl) (fun _ _ => rfl)) (ra_cons re_int (ra_cons (re_ixx rfl hr.units (pv 3) re_int (fun _ _ => rfl) (fun _ _ => rfl)) (ra_cons re_int ra_nil)))))))))
  (rss_cons (rs_ex (re_append rfl (pv 4) (re_met (k := 9) (hr.mono (by decide)) rfl M.g__law_met M.F__law_met M.b__law_met sc__law_met rfl (.inl rfl) (by exact fun cdv => given__law_met M rfl rfl rfl cdv _) (B.t_law) (by exact hcv.symm.trans M.cd_law) (by exact (.tail _ (.head _))) (by exact hu_of M.nd (by exact (.tail _ (.head _)))) (lamS_by (sc := defScope st_law) (by kernel_rfl)) rfl (by intros; rfl) (by exact fun A outer s H E f c' hr => (re_call (ok_tied M B) (hr.mono (by decide)) rfl M.g_tied M.F_tied.kp M.b_tied (takes_of rfl rfl rfl rfl) (ra_cons (re_ixx rfl hr.units (pv 3) re_int (fun _ _ => rfl) (fun _ _ => rfl)) (ra_cons re_int (ra_cons (re_ixx rfl hr.units (pv 3) re_int (fun _ _ => rfl) (fun _ _ => rfl)) (ra_cons re_int ra_nil)))))))))
  (rss_cons (rs_ex (re_append rfl (pv 4) (re_met (k := 9) (hr.mono (by decide)) rfl M.g__law_met M.F__law_met M.b__law_met sc__law_met rfl (.inl rfl) (by exact fun cdv => given__law_met M rfl rfl rfl cdv _) (B.t_law) (by exact hcv.symm.trans M.cd_law) (by exact (.tail _ (.head _))) (by exact hu_of M.nd (by exact (.tail _ (.head _)))) (lamS_by (sc := defScope st_law) (by kernel_rfl)) rfl (by intros; rfl) (by exact fun A outer s H E f c' hr => (re_call (ok_tied M B) (hr.mono (by decide)) rfl M.g_tied M.F_tied.kp M.b_tied (takes_of rfl rfl rfl rfl) (ra_cons (re_make M.mk_Table (ok_Table_init M B) (hr.mono (by decide)) rfl M.gC_Table M.gC_Table M.b_Table_init (takes_of rfl rfl rfl rfl) (ra_cons re_int (ra_cons (re_tup ra_nil) ra_nil))) (ra_cons re_int (ra_cons (re_make M.mk_Table (ok_Table_init M B) (hr.mono (by decide)) rfl M.gC_Table M.gC_Table M.b_Table_init (takes_of rfl rfl rfl rfl) (ra_cons re_int (ra_cons (re_tup (ra_cons (re_tup (ra_cons re_int ra_nil)) ra_nil)) ra_nil))) (ra_cons re_int ra_nil)))))))))
  (rss_cons (rs_if (rt_cmp (op_neD hr.units) oa_ne (pv 4) (re_fz (re_lst (ra_cons re_str (ra_cons re_str (ra_cons re_str (ra_cons re_str (ra_cons re_str (ra_cons re_str ra_nil)))))))) (by first | exact nobehind _ (by decide) (by decide) | rfl)) (rss_one (rs_rt re_bl)) rss_nil)
  (rss_one (rs_rt (re_and (re_cmp (op_eqD hr.units) oa_eq (re_call (ok_parts M B) (hr.mono (by decide)) rfl M.g_parts M.F_parts.kp M.b_parts (takes_of rfl rfl rfl rfl) (ra_cons (re_ixx rfl hr.units (pv 3) re_int (fun _ _ => rfl) (fun _ _ => rfl)) ra_nil)) (re_tup (ra_cons (re_tup (ra_cons re_int (ra_cons re_int ra_nil))) ra_nil)) (by first | exact nobehind _ (by decide) (by decide) | rfl)) (re_one (re_cmp (op_eqD hr.units) oa_eq (re_cb call_lenX oa_len rfl M.z_len bt_len (ro_cons (re_call (ok_parts M B) (hr.mono (by decide)) rfl M.g_parts M.F_parts.kp M.b_parts (takes_of rfl rfl rfl rfl) (ra_cons (re_ixx rfl hr.units (pv 3) re_int (fun _ _ => rfl) (fun _ _ => rfl)) ra_nil)) ro_nil)) re_int (by first | exact nobehind _ (by decide) (by decide) | rfl)))))))))))))))
end
def md_of {P : Program} {K : PySem.W.Frag} {h : Heap} {mg : Str → Option Value} (X : K.In h) (G : h.Ns mainGlobals mg)
  {y0C f12 : Addr} (y0a : PySem.W.nsIn K mainGlobals "Table" = some (some (.ref y0C))) (y0pg : PySem.W.plainGet K y0C Str.empty = true) (y0ic : PySem.W.isClsIn K y0C = true) (y0po : PySem.W.plainOver K y0C = true) (y0sa : PySem.W.findIn K (.ref y0C) "__setattr__" = some (some (.builtin "object.__setattr__"))) (y0ca : PySem.W.findIn K (.ref y0C) "__class__" = some (some (.builtin "object.__class__"))) (y0cn : PySem.W.specialIn K (.builtin "object.__class__") "__get__" = some (some (.builtin "getset_descriptor.__get__"))) (y0ct : PySem.W.takesIn K (.builtin "object.__class__") = some true) (y0cm : PySem.W.mroIn K y0C (.type "object") = some true) (y0ty : PySem.W.typeIn K (.ref y0C) = some (.type "type")) (y0b0 : PySem.W.subIn K (.ref y0C) (.type "bool") = some false) (y0b1 : PySem.W.subIn K (.ref y0C) (.type "int") = some false) (y0b2 : PySem.W.subIn K (.ref y0C) (.type "str") = some false) (y0b3 : PySem.W.subIn K (.ref y0C) (.type "tuple") = some false) (y0b4 : PySem.W.subIn K (.ref y0C) (.type "list") = some false) (y0b5 : PySem.W.subIn K (.ref y0C) (.type "dict") = some false) (y0d0 : PySem.W.subIn K (.type "NoneType") (.ref y0C) = some false) (y0d1 : PySem.W.subIn K (.type "bool") (.ref y0C) = some false) (y0d2 : PySem.W.subIn K (.type "int") (.ref y0C) = some false) (y0d3 : PySem.W.subIn K (.type "str") (.ref y0C) = some false) (y0d4 : PySem.W.subIn K (.type "tuple") (.ref y0C) = some false) (y0d5 : PySem.W.subIn K (.type "list") (.ref y0C) = some false) (y0d6 : PySem.W.subIn K (.type "dict") (.ref y0C) = some false) (y0mk : PySem.W.makesIn K y0C = true) (y0in : PySem.W.findIn K (.ref y0C) "__init__" = some (some (.ref f12))) (y0fn : PySem.W.isFn K (.ref f12) = true) (y0kp : PySem.W.keepIn K (.ref y0C) = true)
  {y0s0p : Addr} (y0s0a : PySem.W.findIn K (.ref y0C) "own_form" = some (some (.ref y0s0p))) (y0s0g : PySem.W.specialIn K (.ref y0s0p) "__get__" = some (some (.builtin "member_descriptor.__get__"))) (y0s0t : PySem.W.takesIn K (.ref y0s0p) = some true) (y0s0i : PySem.W.slotIn K y0s0p y0C = some 0) (y0s0y : PySem.W.typeIn K (.ref y0s0p) = some (.type "member_descriptor"))
  {y0s1p : Addr} (y0s1a : PySem.W.findIn K (.ref y0C) "own_lots" = some (some (.ref y0s1p))) (y0s1g : PySem.W.specialIn K (.ref y0s1p) "__get__" = some (some (.builtin "member_descriptor.__get__"))) (y0s1t : PySem.W.takesIn K (.ref y0s1p) = some true) (y0s1i : PySem.W.slotIn K y0s1p y0C = some 1) (y0s1y : PySem.W.typeIn K (.ref y0s1p) = some (.type "member_descriptor"))
  {y0s2p : Addr} (y0s2a : PySem.W.findIn K (.ref y0C) "own_many" = some (some (.ref y0s2p))) (y0s2g : PySem.W.specialIn K (.ref y0s2p) "__get__" = some (some (.builtin "member_descriptor.__get__"))) (y0s2t : PySem.W.takesIn K (.ref y0s2p) = some true) (y0s2i : PySem.W.slotIn K y0s2p y0C = some 2) (y0s2y : PySem.W.typeIn K (.ref y0s2p) = some (.type "member_descriptor"))
  {y0s3p : Addr} (y0s3a : PySem.W.findIn K (.ref y0C) "own_size" = some (some (.ref y0s3p))) (y0s3g : PySem.W.specialIn K (.ref y0s3p) "__get__" = some (some (.builtin "member_descriptor.__get__"))) (y0s3t : PySem.W.takesIn K (.ref y0s3p) = some true) (y0s3i : PySem.W.slotIn K y0s3p y0C = some 3) (y0s3y : PySem.W.typeIn K (.ref y0s3p) = some (.type "member_descriptor"))
  {y0s4p : Addr} (y0s4a : PySem.W.findIn K (.ref y0C) "own_told" = some (some (.ref y0s4p))) (y0s4g : PySem.W.specialIn K (.ref y0s4p) "__get__" = some (some (.builtin "member_descriptor.__get__"))) (y0s4t : PySem.W.takesIn K (.ref y0s4p) = some true) (y0s4i : PySem.W.slotIn K y0s4p y0C = some 4) (y0s4y : PySem.W.typeIn K (.ref y0s4p) = some (.type "member_descriptor"))
  {y0r3p f22 : Addr} {y0r3l : List Value} (y0r3a : PySem.W.findIn K (.ref y0C) "size" = some (some (.ref y0r3p))) (y0r3g : PySem.W.specialIn K (.ref y0r3p) "__get__" = some (some (.builtin "property.__get__"))) (y0r3t : PySem.W.takesIn K (.ref y0r3p) = some true) (y0r3r : PySem.W.recIn K y0r3p "property" = some (.ref f22 :: y0r3l))
  {od0 an0 : Option Addr} {sl0 : Array (Option Value)} {oc0 kV0 dc0 pm0 cd0 ct0 : Value} {f0 : Addr}
  (a0 : PySem.W.nsIn K mainGlobals "_law_dice" = some (some (.ref f0))) (l0 : K.lookup f0 = some ⟨oc0, od0, .func (PySem.W.fnOf "_law_dice" "_law_dice" (defArgs st__law_dice) (defBody st__law_dice) (defScope st__law_dice) .none kV0 dc0 pm0 an0 cd0 ct0), sl0⟩) (c0 : PySem.W.codeIn K cd0 "_law_dice" = true) (k0 : PySem.W.keepIn K (.ref f0) = true)
  {od1 an1 : Option Addr} {sl1 : Array (Option Value)} {oc1 kV1 dc1 pm1 cd1 ct1 : Value} {f1 : Addr}
  (a1 : PySem.W.nsIn K mainGlobals "is_whole" = some (some (.ref f1))) (l1 : K.lookup f1 = some ⟨oc1, od1, .func (PySem.W.fnOf "is_whole" "is_whole" (defArgs st_is_whole_lots) (defBody st_is_whole_lots) (defScope st_is_whole_lots) .none kV1 dc1 pm1 an1 cd1 ct1), sl1⟩) (c1 : PySem.W.codeIn K cd1 "is_whole" = true) (k1 : PySem.W.keepIn K (.ref f1) = true)
  {od2 an2 : Option Addr} {sl2 : Array (Option Value)} {oc2 kV2 dc2 pm2 cd2 ct2 : Value} {f2 : Addr}
  (a2 : PySem.W.nsIn K mainGlobals "is_below" = some (some (.ref f2))) (l2 : K.lookup f2 = some ⟨oc2, od2, .func (PySem.W.fnOf "is_below" "is_below" (defArgs st_is_below) (defBody st_is_below) (defScope st_is_below) .none kV2 dc2 pm2 an2 cd2 ct2), sl2⟩) (c2 : PySem.W.codeIn K cd2 "is_below" = true) (k2 : PySem.W.keepIn K (.ref f2) = true)
  {od3 an3 : Option Addr} {sl3 : Array (Option Value)} {oc3 kV3 dc3 pm3 cd3 ct3 : Value} {f3 : Addr}
  (a3 : PySem.W.nsIn K mainGlobals "is_rising" = some (some (.ref f3))) (l3 : K.lookup f3 = some ⟨oc3, od3, .func (PySem.W.fnOf "is_rising" "is_rising" (defArgs st_is_rising) (defBody st_is_rising) (defScope st_is_rising) .none kV3 dc3 pm3 an3 cd3 ct3), sl3⟩) (c3 : PySem.W.codeIn K cd3 "is_rising" = true) (k3 : PySem.W.keepIn K (.ref f3) = true)
  {od4 an4 : Option Addr} {sl4 : Array (Option Value)} {oc4 kV4 dc4 pm4 cd4 ct4 : Value} {f4 : Addr}
  (a4 : PySem.W.nsIn K mainGlobals "are_table_parts" = some (some (.ref f4))) (l4 : K.lookup f4 = some ⟨oc4, od4, .func (PySem.W.fnOf "are_table_parts" "are_table_parts" (defArgs st_are_table_parts) (defBody st_are_table_parts) (defScope st_are_table_parts) .none kV4 dc4 pm4 an4 cd4 ct4), sl4⟩) (c4 : PySem.W.codeIn K cd4 "are_table_parts" = true) (k4 : PySem.W.keepIn K (.ref f4) = true)
  {od5 an5 : Option Addr} {sl5 : Array (Option Value)} {oc5 kV5 dc5 pm5 cd5 ct5 : Value} {f5 : Addr}
  (a5 : PySem.W.nsIn K mainGlobals "head_of" = some (some (.ref f5))) (l5 : K.lookup f5 = some ⟨oc5, od5, .func (PySem.W.fnOf "head_of" "head_of" (defArgs st_head_of) (defBody st_head_of) (defScope st_head_of) .none kV5 dc5 pm5 an5 cd5 ct5), sl5⟩) (c5 : PySem.W.codeIn K cd5 "head_of" = true) (k5 : PySem.W.keepIn K (.ref f5) = true)
  {od6 an6 : Option Addr} {sl6 : Array (Option Value)} {oc6 kV6 dc6 pm6 cd6 ct6 : Value} {f6 : Addr}
  (a6 : PySem.W.nsIn K mainGlobals "told_form" = some (some (.ref f6))) (l6 : K.lookup f6 = some ⟨oc6, od6, .func (PySem.W.fnOf "told_form" "told_form" (defArgs st_told_form) (defBody st_told_form) (defScope st_told_form) .none kV6 dc6 pm6 an6 cd6 ct6), sl6⟩) (c6 : PySem.W.codeIn K cd6 "told_form" = true) (k6 : PySem.W.keepIn K (.ref f6) = true)
  {od7 an7 : Option Addr} {sl7 : Array (Option Value)} {oc7 kV7 dc7 pm7 cd7 ct7 : Value} {f7 : Addr}
  (a7 : PySem.W.nsIn K mainGlobals "form_masks" = some (some (.ref f7))) (l7 : K.lookup f7 = some ⟨oc7, od7, .func (PySem.W.fnOf "form_masks" "form_masks" (defArgs st_form_masks) (defBody st_form_masks) (defScope st_form_masks) .none kV7 dc7 pm7 an7 cd7 ct7), sl7⟩) (c7 : PySem.W.codeIn K cd7 "form_masks" = true) (k7 : PySem.W.keepIn K (.ref f7) = true)
  {od8 an8 : Option Addr} {sl8 : Array (Option Value)} {oc8 kV8 dc8 pm8 cd8 ct8 : Value} {f8 : Addr}
  (a8 : PySem.W.nsIn K mainGlobals "lot_of" = some (some (.ref f8))) (l8 : K.lookup f8 = some ⟨oc8, od8, .func (PySem.W.fnOf "lot_of" "lot_of" (defArgs st_lot_of) (defBody st_lot_of) (defScope st_lot_of) .none kV8 dc8 pm8 an8 cd8 ct8), sl8⟩) (c8 : PySem.W.codeIn K cd8 "lot_of" = true) (k8 : PySem.W.keepIn K (.ref f8) = true)
  {od9 an9 : Option Addr} {sl9 : Array (Option Value)} {oc9 kV9 dc9 pm9 cd9 ct9 : Value} {f9 : Addr}
  (a9 : PySem.W.nsIn K mainGlobals "told_lots" = some (some (.ref f9))) (l9 : K.lookup f9 = some ⟨oc9, od9, .func (PySem.W.fnOf "told_lots" "told_lots" (defArgs st_told_lots) (defBody st_told_lots) (defScope st_told_lots) .none kV9 dc9 pm9 an9 cd9 ct9), sl9⟩) (c9 : PySem.W.codeIn K cd9 "told_lots" = true) (k9 : PySem.W.keepIn K (.ref f9) = true)
  {od10 an10 : Option Addr} {sl10 : Array (Option Value)} {oc10 kV10 dc10 pm10 cd10 ct10 : Value} {f10 : Addr}
  (a10 : PySem.W.nsIn K mainGlobals "mask_of" = some (some (.ref f10))) (l10 : K.lookup f10 = some ⟨oc10, od10, .func (PySem.W.fnOf "mask_of" "mask_of" (defArgs st_mask_of) (defBody st_mask_of) (defScope st_mask_of) .none kV10 dc10 pm10 an10 cd10 ct10), sl10⟩) (c10 : PySem.W.codeIn K cd10 "mask_of" = true) (k10 : PySem.W.keepIn K (.ref f10) = true)
  {od11 an11 : Option Addr} {sl11 : Array (Option Value)} {oc11 kV11 dc11 pm11 cd11 ct11 : Value} {f11 : Addr}
  (a11 : PySem.W.nsIn K mainGlobals "masks_of" = some (some (.ref f11))) (l11 : K.lookup f11 = some ⟨oc11, od11, .func (PySem.W.fnOf "masks_of" "masks_of" (defArgs st_masks_of) (defBody st_masks_of) (defScope st_masks_of) .none kV11 dc11 pm11 an11 cd11 ct11), sl11⟩) (c11 : PySem.W.codeIn K cd11 "masks_of" = true) (k11 : PySem.W.keepIn K (.ref f11) = true)
  {od12 an12 : Option Addr} {sl12 : Array (Option Value)} {oc12 kV12 dc12 pm12 cd12 ct12 : Value}
  (l12 : K.lookup f12 = some ⟨oc12, od12, .func (PySem.W.fnOf "__init__" "Table.__init__" (defArgs st_Table_init) (defBody st_Table_init) (defScope st_Table_init) .none kV12 dc12 pm12 an12 cd12 ct12), sl12⟩) (c12 : PySem.W.codeIn K cd12 "Table.__init__" = true) (k12 : PySem.W.keepIn K (.ref f12) = true)
  {od13 an13 : Option Addr} {sl13 : Array (Option Value)} {oc13 kV13 dc13 pm13 cd13 ct13 : Value} {f13 : Addr}
  (a13 : PySem.W.nsIn K mainGlobals "_law_met" = some (some (.ref f13))) (l13 : K.lookup f13 = some ⟨oc13, od13, .func (PySem.W.fnOf "_law_met" "_law_met" (defArgs st__law_met) (defBody st__law_met) (defScope st__law_met) .none kV13 dc13 pm13 an13 cd13 ct13), sl13⟩) (c13 : PySem.W.codeIn K cd13 "_law_met" = true) (k13 : PySem.W.keepIn K (.ref f13) = true)
  {od14 an14 : Option Addr} {sl14 : Array (Option Value)} {oc14 kV14 dc14 pm14 cd14 ct14 : Value} {f14 : Addr}
  (a14 : PySem.W.nsIn K mainGlobals "require_table" = some (some (.ref f14))) (l14 : K.lookup f14 = some ⟨oc14, od14, .func (PySem.W.fnOf "require_table" "require_table" (defArgs st_require_table) (defBody st_require_table) (defScope st_require_table) .none kV14 dc14 pm14 an14 cd14 ct14), sl14⟩) (c14 : PySem.W.codeIn K cd14 "require_table" = true) (k14 : PySem.W.keepIn K (.ref f14) = true)
  {od15 an15 : Option Addr} {sl15 : Array (Option Value)} {oc15 kV15 dc15 pm15 cd15 ct15 : Value} {f15 : Addr}
  (a15 : PySem.W.nsIn K mainGlobals "linked_parts" = some (some (.ref f15))) (l15 : K.lookup f15 = some ⟨oc15, od15, .func (PySem.W.fnOf "linked_parts" "linked_parts" (defArgs st_linked_parts) (defBody st_linked_parts) (defScope st_linked_parts) .none kV15 dc15 pm15 an15 cd15 ct15), sl15⟩) (c15 : PySem.W.codeIn K cd15 "linked_parts" = true) (k15 : PySem.W.keepIn K (.ref f15) = true)
  {od16 an16 : Option Addr} {sl16 : Array (Option Value)} {oc16 kV16 dc16 pm16 cd16 ct16 : Value} {f16 : Addr}
  (a16 : PySem.W.nsIn K mainGlobals "parts_in" = some (some (.ref f16))) (l16 : K.lookup f16 = some ⟨oc16, od16, .func (PySem.W.fnOf "parts_in" "parts_in" (defArgs st_parts_in) (defBody st_parts_in) (defScope st_parts_in) .none kV16 dc16 pm16 an16 cd16 ct16), sl16⟩) (c16 : PySem.W.codeIn K cd16 "parts_in" = true) (k16 : PySem.W.keepIn K (.ref f16) = true)
  {od17 an17 : Option Addr} {sl17 : Array (Option Value)} {oc17 kV17 dc17 pm17 cd17 ct17 : Value} {f17 : Addr}
  (a17 : PySem.W.nsIn K mainGlobals "parts" = some (some (.ref f17))) (l17 : K.lookup f17 = some ⟨oc17, od17, .func (PySem.W.fnOf "parts" "parts" (defArgs st_parts) (defBody st_parts) (defScope st_parts) .none kV17 dc17 pm17 an17 cd17 ct17), sl17⟩) (c17 : PySem.W.codeIn K cd17 "parts" = true) (k17 : PySem.W.keepIn K (.ref f17) = true)
  {od18 an18 : Option Addr} {sl18 : Array (Option Value)} {oc18 kV18 dc18 pm18 cd18 ct18 : Value} {f18 : Addr}
  (a18 : PySem.W.nsIn K mainGlobals "_law_roll" = some (some (.ref f18))) (l18 : K.lookup f18 = some ⟨oc18, od18, .func (PySem.W.fnOf "_law_roll" "_law_roll" (defArgs st__law_roll) (defBody st__law_roll) (defScope st__law_roll) .none kV18 dc18 pm18 an18 cd18 ct18), sl18⟩) (c18 : PySem.W.codeIn K cd18 "_law_roll" = true) (k18 : PySem.W.keepIn K (.ref f18) = true)
  {od19 an19 : Option Addr} {sl19 : Array (Option Value)} {oc19 kV19 dc19 pm19 cd19 ct19 : Value} {f19 : Addr}
  (a19 : PySem.W.nsIn K mainGlobals "_law_pick" = some (some (.ref f19))) (l19 : K.lookup f19 = some ⟨oc19, od19, .func (PySem.W.fnOf "_law_pick" "_law_pick" (defArgs st__law_pick) (defBody st__law_pick) (defScope st__law_pick) .none kV19 dc19 pm19 an19 cd19 ct19), sl19⟩) (c19 : PySem.W.codeIn K cd19 "_law_pick" = true) (k19 : PySem.W.keepIn K (.ref f19) = true)
  {od20 an20 : Option Addr} {sl20 : Array (Option Value)} {oc20 kV20 dc20 pm20 cd20 ct20 : Value} {f20 : Addr}
  (a20 : PySem.W.nsIn K mainGlobals "does_hang" = some (some (.ref f20))) (l20 : K.lookup f20 = some ⟨oc20, od20, .func (PySem.W.fnOf "does_hang" "does_hang" (defArgs st_does_hang) (defBody st_does_hang) (defScope st_does_hang) .none kV20 dc20 pm20 an20 cd20 ct20), sl20⟩) (c20 : PySem.W.codeIn K cd20 "does_hang" = true) (k20 : PySem.W.keepIn K (.ref f20) = true)
  {od21 an21 : Option Addr} {sl21 : Array (Option Value)} {oc21 kV21 dc21 pm21 cd21 ct21 : Value} {f21 : Addr}
  (a21 : PySem.W.nsIn K mainGlobals "rank_within" = some (some (.ref f21))) (l21 : K.lookup f21 = some ⟨oc21, od21, .func (PySem.W.fnOf "rank_within" "rank_within" (defArgs st_rank_within) (defBody st_rank_within) (defScope st_rank_within) .none kV21 dc21 pm21 an21 cd21 ct21), sl21⟩) (c21 : PySem.W.codeIn K cd21 "rank_within" = true) (k21 : PySem.W.keepIn K (.ref f21) = true)
  {od22 an22 : Option Addr} {sl22 : Array (Option Value)} {oc22 kV22 dc22 pm22 cd22 ct22 : Value}
  (l22 : K.lookup f22 = some ⟨oc22, od22, .func (PySem.W.fnOf "size" "Table.size" (defArgs st_Table_size) (defBody st_Table_size) (defScope st_Table_size) .none kV22 dc22 pm22 an22 cd22 ct22), sl22⟩) (c22 : PySem.W.codeIn K cd22 "Table.size" = true) (k22 : PySem.W.keepIn K (.ref f22) = true)
  {od23 an23 : Option Addr} {sl23 : Array (Option Value)} {oc23 kV23 dc23 pm23 cd23 ct23 : Value} {f23 : Addr}
  (a23 : PySem.W.nsIn K mainGlobals "beyond" = some (some (.ref f23))) (l23 : K.lookup f23 = some ⟨oc23, od23, .func (PySem.W.fnOf "beyond" "beyond" (defArgs st_beyond_parts) (defBody st_beyond_parts) (defScope st_beyond_parts) .none kV23 dc23 pm23 an23 cd23 ct23), sl23⟩) (c23 : PySem.W.codeIn K cd23 "beyond" = true) (k23 : PySem.W.keepIn K (.ref f23) = true)
  {od24 an24 : Option Addr} {sl24 : Array (Option Value)} {oc24 kV24 dc24 pm24 cd24 ct24 : Value} {f24 : Addr}
  (a24 : PySem.W.nsIn K mainGlobals "is_seam_in" = some (some (.ref f24))) (l24 : K.lookup f24 = some ⟨oc24, od24, .func (PySem.W.fnOf "is_seam_in" "is_seam_in" (defArgs st_is_seam_in) (defBody st_is_seam_in) (defScope st_is_seam_in) .none kV24 dc24 pm24 an24 cd24 ct24), sl24⟩) (c24 : PySem.W.codeIn K cd24 "is_seam_in" = true) (k24 : PySem.W.keepIn K (.ref f24) = true)
  {od25 an25 : Option Addr} {sl25 : Array (Option Value)} {oc25 kV25 dc25 pm25 cd25 ct25 : Value} {f25 : Addr}
  (a25 : PySem.W.nsIn K mainGlobals "is_seam" = some (some (.ref f25))) (l25 : K.lookup f25 = some ⟨oc25, od25, .func (PySem.W.fnOf "is_seam" "is_seam" (defArgs st_is_seam) (defBody st_is_seam) (defScope st_is_seam) .none kV25 dc25 pm25 an25 cd25 ct25), sl25⟩) (c25 : PySem.W.codeIn K cd25 "is_seam" = true) (k25 : PySem.W.keepIn K (.ref f25) = true)
  {od26 an26 : Option Addr} {sl26 : Array (Option Value)} {oc26 kV26 dc26 pm26 cd26 ct26 : Value} {f26 : Addr}
  (a26 : PySem.W.nsIn K mainGlobals "require_index" = some (some (.ref f26))) (l26 : K.lookup f26 = some ⟨oc26, od26, .func (PySem.W.fnOf "require_index" "require_index" (defArgs st_require_index) (defBody st_require_index) (defScope st_require_index) .none kV26 dc26 pm26 an26 cd26 ct26), sl26⟩) (c26 : PySem.W.codeIn K cd26 "require_index" = true) (k26 : PySem.W.keepIn K (.ref f26) = true)
  {od27 an27 : Option Addr} {sl27 : Array (Option Value)} {oc27 kV27 dc27 pm27 cd27 ct27 : Value} {f27 : Addr}
  (a27 : PySem.W.nsIn K mainGlobals "table_by" = some (some (.ref f27))) (l27 : K.lookup f27 = some ⟨oc27, od27, .func (PySem.W.fnOf "table_by" "table_by" (defArgs st_table_by) (defBody st_table_by) (defScope st_table_by) .none kV27 dc27 pm27 an27 cd27 ct27), sl27⟩) (c27 : PySem.W.codeIn K cd27 "table_by" = true) (k27 : PySem.W.keepIn K (.ref f27) = true)
  {od28 an28 : Option Addr} {sl28 : Array (Option Value)} {oc28 kV28 dc28 pm28 cd28 ct28 : Value} {f28 : Addr}
  (a28 : PySem.W.nsIn K mainGlobals "renamed" = some (some (.ref f28))) (l28 : K.lookup f28 = some ⟨oc28, od28, .func (PySem.W.fnOf "renamed" "renamed" (defArgs st_renamed) (defBody st_renamed) (defScope st_renamed) .none kV28 dc28 pm28 an28 cd28 ct28), sl28⟩) (c28 : PySem.W.codeIn K cd28 "renamed" = true) (k28 : PySem.W.keepIn K (.ref f28) = true)
  {od29 an29 : Option Addr} {sl29 : Array (Option Value)} {oc29 kV29 dc29 pm29 cd29 ct29 : Value} {f29 : Addr}
  (a29 : PySem.W.nsIn K mainGlobals "table_within" = some (some (.ref f29))) (l29 : K.lookup f29 = some ⟨oc29, od29, .func (PySem.W.fnOf "table_within" "table_within" (defArgs st_table_within) (defBody st_table_within) (defScope st_table_within) .none kV29 dc29 pm29 an29 cd29 ct29), sl29⟩) (c29 : PySem.W.codeIn K cd29 "table_within" = true) (k29 : PySem.W.keepIn K (.ref f29) = true)
  {od30 an30 : Option Addr} {sl30 : Array (Option Value)} {oc30 kV30 dc30 pm30 cd30 ct30 : Value} {f30 : Addr}
  (a30 : PySem.W.nsIn K mainGlobals "part_table" = some (some (.ref f30))) (l30 : K.lookup f30 = some ⟨oc30, od30, .func (PySem.W.fnOf "part_table" "part_table" (defArgs st_part_table) (defBody st_part_table) (defScope st_part_table) .none kV30 dc30 pm30 an30 cd30 ct30), sl30⟩) (c30 : PySem.W.codeIn K cd30 "part_table" = true) (k30 : PySem.W.keepIn K (.ref f30) = true)
  {od31 an31 : Option Addr} {sl31 : Array (Option Value)} {oc31 kV31 dc31 pm31 cd31 ct31 : Value} {f31 : Addr}
  (a31 : PySem.W.nsIn K mainGlobals "require_two" = some (some (.ref f31))) (l31 : K.lookup f31 = some ⟨oc31, od31, .func (PySem.W.fnOf "require_two" "require_two" (defArgs st_require_two_parts) (defBody st_require_two_parts) (defScope st_require_two_parts) .none kV31 dc31 pm31 an31 cd31 ct31), sl31⟩) (c31 : PySem.W.codeIn K cd31 "require_two" = true) (k31 : PySem.W.keepIn K (.ref f31) = true)
  {od32 an32 : Option Addr} {sl32 : Array (Option Value)} {oc32 kV32 dc32 pm32 cd32 ct32 : Value} {f32 : Addr}
  (a32 : PySem.W.nsIn K mainGlobals "need_few" = some (some (.ref f32))) (l32 : K.lookup f32 = some ⟨oc32, od32, .func (PySem.W.fnOf "need_few" "need_few" (defArgs st_need_few) (defBody st_need_few) (defScope st_need_few) .none kV32 dc32 pm32 an32 cd32 ct32), sl32⟩) (c32 : PySem.W.codeIn K cd32 "need_few" = true) (k32 : PySem.W.keepIn K (.ref f32) = true)
  {od33 an33 : Option Addr} {sl33 : Array (Option Value)} {oc33 kV33 dc33 pm33 cd33 ct33 : Value} {f33 : Addr}
  (a33 : PySem.W.nsIn K mainGlobals "beside_in" = some (some (.ref f33))) (l33 : K.lookup f33 = some ⟨oc33, od33, .func (PySem.W.fnOf "beside_in" "beside_in" (defArgs st_beside_in) (defBody st_beside_in) (defScope st_beside_in) .none kV33 dc33 pm33 an33 cd33 ct33), sl33⟩) (c33 : PySem.W.codeIn K cd33 "beside_in" = true) (k33 : PySem.W.keepIn K (.ref f33) = true)
  {od34 an34 : Option Addr} {sl34 : Array (Option Value)} {oc34 kV34 dc34 pm34 cd34 ct34 : Value} {f34 : Addr}
  (a34 : PySem.W.nsIn K mainGlobals "beside" = some (some (.ref f34))) (l34 : K.lookup f34 = some ⟨oc34, od34, .func (PySem.W.fnOf "beside" "beside" (defArgs st_beside) (defBody st_beside) (defScope st_beside) .none kV34 dc34 pm34 an34 cd34 ct34), sl34⟩) (c34 : PySem.W.codeIn K cd34 "beside" = true) (k34 : PySem.W.keepIn K (.ref f34) = true)
  {od35 an35 : Option Addr} {sl35 : Array (Option Value)} {oc35 kV35 dc35 pm35 cd35 ct35 : Value} {f35 : Addr}
  (a35 : PySem.W.nsIn K mainGlobals "require_line_in" = some (some (.ref f35))) (l35 : K.lookup f35 = some ⟨oc35, od35, .func (PySem.W.fnOf "require_line_in" "require_line_in" (defArgs st_require_line_in) (defBody st_require_line_in) (defScope st_require_line_in) .none kV35 dc35 pm35 an35 cd35 ct35), sl35⟩) (c35 : PySem.W.codeIn K cd35 "require_line_in" = true) (k35 : PySem.W.keepIn K (.ref f35) = true)
  {od36 an36 : Option Addr} {sl36 : Array (Option Value)} {oc36 kV36 dc36 pm36 cd36 ct36 : Value} {f36 : Addr}
  (a36 : PySem.W.nsIn K mainGlobals "closed_up" = some (some (.ref f36))) (l36 : K.lookup f36 = some ⟨oc36, od36, .func (PySem.W.fnOf "closed_up" "closed_up" (defArgs st_closed_up) (defBody st_closed_up) (defScope st_closed_up) .none kV36 dc36 pm36 an36 cd36 ct36), sl36⟩) (c36 : PySem.W.codeIn K cd36 "closed_up" = true) (k36 : PySem.W.keepIn K (.ref f36) = true)
  {od37 an37 : Option Addr} {sl37 : Array (Option Value)} {oc37 kV37 dc37 pm37 cd37 ct37 : Value} {f37 : Addr}
  (a37 : PySem.W.nsIn K mainGlobals "parted_by" = some (some (.ref f37))) (l37 : K.lookup f37 = some ⟨oc37, od37, .func (PySem.W.fnOf "parted_by" "parted_by" (defArgs st_parted_by) (defBody st_parted_by) (defScope st_parted_by) .none kV37 dc37 pm37 an37 cd37 ct37), sl37⟩) (c37 : PySem.W.codeIn K cd37 "parted_by" = true) (k37 : PySem.W.keepIn K (.ref f37) = true)
  {od38 an38 : Option Addr} {sl38 : Array (Option Value)} {oc38 kV38 dc38 pm38 cd38 ct38 : Value} {f38 : Addr}
  (a38 : PySem.W.nsIn K mainGlobals "tied_in" = some (some (.ref f38))) (l38 : K.lookup f38 = some ⟨oc38, od38, .func (PySem.W.fnOf "tied_in" "tied_in" (defArgs st_tied_in) (defBody st_tied_in) (defScope st_tied_in) .none kV38 dc38 pm38 an38 cd38 ct38), sl38⟩) (c38 : PySem.W.codeIn K cd38 "tied_in" = true) (k38 : PySem.W.keepIn K (.ref f38) = true)
  {od39 an39 : Option Addr} {sl39 : Array (Option Value)} {oc39 kV39 dc39 pm39 cd39 ct39 : Value} {f39 : Addr}
  (a39 : PySem.W.nsIn K mainGlobals "tied" = some (some (.ref f39))) (l39 : K.lookup f39 = some ⟨oc39, od39, .func (PySem.W.fnOf "tied" "tied" (defArgs st_tied) (defBody st_tied) (defScope st_tied) .none kV39 dc39 pm39 an39 cd39 ct39), sl39⟩) (c39 : PySem.W.codeIn K cd39 "tied" = true) (k39 : PySem.W.keepIn K (.ref f39) = true)
  {od40 an40 : Option Addr} {sl40 : Array (Option Value)} {oc40 kV40 dc40 pm40 cd40 ct40 : Value} {f40 : Addr}
  (a40 : PySem.W.nsIn K mainGlobals "reduced" = some (some (.ref f40))) (l40 : K.lookup f40 = some ⟨oc40, od40, .func (PySem.W.fnOf "reduced" "reduced" (defArgs st_reduced) (defBody st_reduced) (defScope st_reduced) .none kV40 dc40 pm40 an40 cd40 ct40), sl40⟩) (c40 : PySem.W.codeIn K cd40 "reduced" = true) (k40 : PySem.W.keepIn K (.ref f40) = true)
  {od41 an41 : Option Addr} {sl41 : Array (Option Value)} {oc41 kV41 dc41 pm41 cd41 ct41 : Value} {f41 : Addr}
  (a41 : PySem.W.nsIn K mainGlobals "is_sum_in" = some (some (.ref f41))) (l41 : K.lookup f41 = some ⟨oc41, od41, .func (PySem.W.fnOf "is_sum_in" "is_sum_in" (defArgs st_is_sum_in) (defBody st_is_sum_in) (defScope st_is_sum_in) .none kV41 dc41 pm41 an41 cd41 ct41), sl41⟩) (c41 : PySem.W.codeIn K cd41 "is_sum_in" = true) (k41 : PySem.W.keepIn K (.ref f41) = true)
  {od42 an42 : Option Addr} {sl42 : Array (Option Value)} {oc42 kV42 dc42 pm42 cd42 ct42 : Value} {f42 : Addr}
  (a42 : PySem.W.nsIn K mainGlobals "side_of" = some (some (.ref f42))) (l42 : K.lookup f42 = some ⟨oc42, od42, .func (PySem.W.fnOf "side_of" "side_of" (defArgs st_side_of) (defBody st_side_of) (defScope st_side_of) .none kV42 dc42 pm42 an42 cd42 ct42), sl42⟩) (c42 : PySem.W.codeIn K cd42 "side_of" = true) (k42 : PySem.W.keepIn K (.ref f42) = true)
  {od43 an43 : Option Addr} {sl43 : Array (Option Value)} {oc43 kV43 dc43 pm43 cd43 ct43 : Value} {f43 : Addr}
  (a43 : PySem.W.nsIn K mainGlobals "taken_apart" = some (some (.ref f43))) (l43 : K.lookup f43 = some ⟨oc43, od43, .func (PySem.W.fnOf "taken_apart" "taken_apart" (defArgs st_taken_apart) (defBody st_taken_apart) (defScope st_taken_apart) .none kV43 dc43 pm43 an43 cd43 ct43), sl43⟩) (c43 : PySem.W.codeIn K cd43 "taken_apart" = true) (k43 : PySem.W.keepIn K (.ref f43) = true)
  {od44 an44 : Option Addr} {sl44 : Array (Option Value)} {oc44 kV44 dc44 pm44 ct44 : Value} {f44 cc44 P44 : Addr}
  (a44 : PySem.W.nsIn K mainGlobals "_law_right" = some (some (.ref f44))) (l44 : K.lookup f44 = some ⟨oc44, od44, .func (PySem.W.fnOf "_law_right" "_law_right" (defArgs st__law_right) (defBody st__law_right) (defScope st__law_right) .none kV44 dc44 pm44 an44 (.ref cc44) ct44), sl44⟩) (c44 : PySem.W.codeIn K (.ref cc44) "_law_right" = true) (k44 : PySem.W.keepIn K (.ref f44) = true)
  {od45 an45 : Option Addr} {sl45 : Array (Option Value)} {oc45 kV45 dc45 pm45 ct45 : Value} {f45 cc45 P45 : Addr}
  (a45 : PySem.W.nsIn K mainGlobals "law" = some (some (.ref f45))) (l45 : K.lookup f45 = some ⟨oc45, od45, .func (PySem.W.fnOf "law" "law" (defArgs st_law) (defBody st_law) (defScope st_law) .none kV45 dc45 pm45 an45 (.ref cc45) ct45), sl45⟩) (c45 : PySem.W.codeIn K (.ref cc45) "law" = true) (k45 : PySem.W.keepIn K (.ref f45) = true)
  (z0 : PySem.W.nsIn K mainGlobals "abs" = some none)
  (z1 : PySem.W.nsIn K mainGlobals "all" = some none)
  (z2 : PySem.W.nsIn K mainGlobals "bool" = some none)
  (z3 : PySem.W.nsIn K mainGlobals "enumerate" = some none)
  (z4 : PySem.W.nsIn K mainGlobals "int" = some none)
  (z5 : PySem.W.nsIn K mainGlobals "isinstance" = some none)
  (z6 : PySem.W.nsIn K mainGlobals "len" = some none)
  (z7 : PySem.W.nsIn K mainGlobals "list" = some none)
  (z8 : PySem.W.nsIn K mainGlobals "max" = some none)
  (z9 : PySem.W.nsIn K mainGlobals "min" = some none)
  (z10 : PySem.W.nsIn K mainGlobals "range" = some none)
  (z11 : PySem.W.nsIn K mainGlobals "repr" = some none)
  (z12 : PySem.W.nsIn K mainGlobals "set" = some none)
  (z13 : PySem.W.nsIn K mainGlobals "sorted" = some none)
  (z14 : PySem.W.nsIn K mainGlobals "sum" = some none)
  (z15 : PySem.W.nsIn K mainGlobals "tuple" = some none)
  (z16 : PySem.W.nsIn K mainGlobals "zip" = some none)
  (zl0 : PySem.W.nsIn K mainGlobals "lam_law_right_0" = some none)
  {t0 : Tok} (v0 : PySem.W.nsIn K mainGlobals "LEAST_BESIDE" = some (some (.int 2 t0)))
  {t1 : Tok} (v1 : PySem.W.nsIn K mainGlobals "MOST_LINES" = some (some (.int 24 t1)))
  {t2 : Tok} (v2 : PySem.W.nsIn K mainGlobals "MOST_TABLE_LINES" = some (some (.int 24 t2)))
  {t3 : Tok} (v3 : PySem.W.nsIn K mainGlobals "MOST_TABLE_LOTS" = some (some (.int 24 t3)))
  {tc4A : Addr} {tc4i : Array Value} {tc4n : Nat} {tc4o : Option Addr} {tc4s : Array (Option Value)} (tc4a : PySem.W.nsIn K mainGlobals "NOTHING" = some (some (.ref tc4A))) (tc4l : K.lookup tc4A = some ⟨.type "tuple", tc4o, .seq tc4i tc4n, tc4s⟩) (tc4z : tc4i.size ≤ sizeLine) (tc4v : Vals [.str "nothing"] tc4i.toList)
  {e0C : Addr} (e0a : PySem.W.nsIn K mainGlobals "InvalidTable" = some (some (.ref e0C))) (e0k : PySem.W.keepIn K (.ref e0C) = true) (e0b : PySem.W.subIn K (.ref e0C) (.type "BaseException") = some true) (e0t : PySem.W.typeIn K (.ref e0C) = some (.type "type")) (e0i : PySem.W.isClsIn K e0C = true)
  (e0x : PySem.W.excIn K e0C [.type "ValueError", .type "Exception", .type "BaseException", .type "object"] "ValueError.__new__" = true)
  {e1C : Addr} (e1a : PySem.W.nsIn K mainGlobals "InvalidNumber" = some (some (.ref e1C))) (e1k : PySem.W.keepIn K (.ref e1C) = true) (e1b : PySem.W.subIn K (.ref e1C) (.type "BaseException") = some true) (e1t : PySem.W.typeIn K (.ref e1C) = some (.type "type")) (e1i : PySem.W.isClsIn K e1C = true)
  (e1ok : PySem.W.excInitIn K e1C [.type "IndexError", .type "LookupError", .type "Exception", .type "BaseException", .type "object"] "IndexError.__new__" = true) (e1ov : PySem.W.excOver K e1C [.type "IndexError", .type "LookupError", .type "Exception", .type "BaseException", .type "object"] = true)
  (e1sa : PySem.W.findIn K (.ref e1C) "__setattr__" = some (some (.builtin "object.__setattr__"))) (e1ga : PySem.W.findIn K (.ref e1C) "__getattribute__" = some (some (.builtin "BaseException.__getattribute__"))) (e1gg : PySem.W.findIn K (.ref e1C) "__getattr__" = some none) (e1no : PySem.W.findIn K (.ref e1C) "given" = some none)
  {e1I : Addr} (e1ic : PySem.W.findIn K (.ref e1C) "__init__" = some (some (.ref e1I))) (e1ti : PySem.W.typeIn K (.ref e1I) = some (.type "function")) (e1hd : PySem.W.hasDictIn K e1C = true) (e1sb : PySem.W.subIn K (.ref e1C) (.type "IndexError") = some true) (e1su : PySem.W.ks_superIn K e1C e1C "__init__" = some (some (.builtin "IndexError.__init__"))) (e1op : PySem.W.nsIn K cStatics "thirdparty.any" = some none) (e1mr : PySem.W.mroIn K e1C (.ref e1C) = some true) (e1ns : PySem.W.nsIn K mainGlobals "super" = some none) (e1top : (P.main.scope.names.lookup ("super" : Str)).isSome = false)
  {e1oc e1dc e1pm e1ct e1ccl e1cl : Value} {e1od e1an e1cdd e1cld : Option Addr} {e1cc e1cda : Addr} {e1osl e1ccs e1csl : Array (Option Value)} {e1vs : Array Value} {e1file : Str} {e1tf : Tok}
  (e1l : K.lookup e1I = some ⟨e1oc, e1od, .func (PySem.W.ksFn "__init__" "InvalidNumber.__init__" (PX.iA "given" ⟨10, 17, 10, 21⟩ ⟨10, 23, 10, 28⟩) (PX.iB "given" ⟨11, 8, 11, 13⟩ ⟨11, 8, 11, 15⟩ ⟨11, 8, 11, 24⟩ ⟨11, 25, 11, 30⟩ ⟨11, 8, 11, 31⟩ ⟨11, 8, 11, 31⟩ ⟨12, 8, 12, 12⟩ ⟨12, 8, 12, 18⟩ ⟨12, 21, 12, 26⟩ ⟨12, 8, 12, 26⟩) (PX.iS "given") .none .none e1dc e1pm e1an (.ref e1cda) e1ct e1cc), e1osl⟩) (e1cd : PySem.W.codeIn K (.ref e1cda) "InvalidNumber.__init__" = true) (e1ce : K.lookup e1cc = some ⟨e1cl, e1cld, .cell (some (.ref e1C)), e1csl⟩) (e1co : K.lookup e1cda = some ⟨e1ccl, e1cdd, .fields e1vs, e1ccs⟩) (e1fi : (e1vs)[2]? = some (.str e1file e1tf)) (e1mf : ((P.main.file : Str) == e1file) = true)
  {e2C : Addr} (e2a : PySem.W.nsIn K mainGlobals "TooMany" = some (some (.ref e2C))) (e2k : PySem.W.keepIn K (.ref e2C) = true) (e2b : PySem.W.subIn K (.ref e2C) (.type "BaseException") = some true) (e2t : PySem.W.typeIn K (.ref e2C) = some (.type "type")) (e2i : PySem.W.isClsIn K e2C = true)
  (e2ok : PySem.W.excInitIn K e2C [.type "OverflowError", .type "ArithmeticError", .type "Exception", .type "BaseException", .type "object"] "OverflowError.__new__" = true) (e2ov : PySem.W.excOver K e2C [.type "OverflowError", .type "ArithmeticError", .type "Exception", .type "BaseException", .type "object"] = true)
  (e2sa : PySem.W.findIn K (.ref e2C) "__setattr__" = some (some (.builtin "object.__setattr__"))) (e2ga : PySem.W.findIn K (.ref e2C) "__getattribute__" = some (some (.builtin "BaseException.__getattribute__"))) (e2gg : PySem.W.findIn K (.ref e2C) "__getattr__" = some none) (e2no : PySem.W.findIn K (.ref e2C) "limit" = some none)
  {e2I : Addr} (e2ic : PySem.W.findIn K (.ref e2C) "__init__" = some (some (.ref e2I))) (e2ti : PySem.W.typeIn K (.ref e2I) = some (.type "function")) (e2hd : PySem.W.hasDictIn K e2C = true) (e2sb : PySem.W.subIn K (.ref e2C) (.type "OverflowError") = some true) (e2su : PySem.W.ks_superIn K e2C e2C "__init__" = some (some (.builtin "OverflowError.__init__"))) (e2op : PySem.W.nsIn K cStatics "thirdparty.any" = some none) (e2mr : PySem.W.mroIn K e2C (.ref e2C) = some true) (e2ns : PySem.W.nsIn K mainGlobals "super" = some none) (e2top : (P.main.scope.names.lookup ("super" : Str)).isSome = false)
  {e2oc e2dc e2pm e2ct e2ccl e2cl : Value} {e2od e2an e2cdd e2cld : Option Addr} {e2cc e2cda : Addr} {e2osl e2ccs e2csl : Array (Option Value)} {e2vs : Array Value} {e2file : Str} {e2tf : Tok}
  (e2l : K.lookup e2I = some ⟨e2oc, e2od, .func (PySem.W.ksFn "__init__" "TooMany.__init__" (PX.iA "limit" ⟨15, 17, 15, 21⟩ ⟨15, 23, 15, 28⟩) (PX.iB "limit" ⟨16, 8, 16, 13⟩ ⟨16, 8, 16, 15⟩ ⟨16, 8, 16, 24⟩ ⟨16, 25, 16, 30⟩ ⟨16, 8, 16, 31⟩ ⟨16, 8, 16, 31⟩ ⟨17, 8, 17, 12⟩ ⟨17, 8, 17, 18⟩ ⟨17, 21, 17, 26⟩ ⟨17, 8, 17, 26⟩) (PX.iS "limit") .none .none e2dc e2pm e2an (.ref e2cda) e2ct e2cc), e2osl⟩) (e2cd : PySem.W.codeIn K (.ref e2cda) "TooMany.__init__" = true) (e2ce : K.lookup e2cc = some ⟨e2cl, e2cld, .cell (some (.ref e2C)), e2csl⟩) (e2co : K.lookup e2cda = some ⟨e2ccl, e2cdd, .fields e2vs, e2ccs⟩) (e2fi : (e2vs)[2]? = some (.str e2file e2tf)) (e2mf : ((P.main.file : Str) == e2file) = true)
  {e3C : Addr} (e3a : PySem.W.nsIn K mainGlobals "Refused" = some (some (.ref e3C))) (e3k : PySem.W.keepIn K (.ref e3C) = true) (e3b : PySem.W.subIn K (.ref e3C) (.type "BaseException") = some true) (e3t : PySem.W.typeIn K (.ref e3C) = some (.type "type")) (e3i : PySem.W.isClsIn K e3C = true)
  (e3ok : PySem.W.excInitIn K e3C [.type "ArithmeticError", .type "Exception", .type "BaseException", .type "object"] "ArithmeticError.__new__" = true) (e3ov : PySem.W.excOver K e3C [.type "ArithmeticError", .type "Exception", .type "BaseException", .type "object"] = true)
  (e3sa : PySem.W.findIn K (.ref e3C) "__setattr__" = some (some (.builtin "object.__setattr__"))) (e3ga : PySem.W.findIn K (.ref e3C) "__getattribute__" = some (some (.builtin "BaseException.__getattribute__"))) (e3gg : PySem.W.findIn K (.ref e3C) "__getattr__" = some none) (e3no : PySem.W.findIn K (.ref e3C) "reason" = some none)
  {e3I : Addr} (e3ic : PySem.W.findIn K (.ref e3C) "__init__" = some (some (.ref e3I))) (e3ti : PySem.W.typeIn K (.ref e3I) = some (.type "function")) (e3hd : PySem.W.hasDictIn K e3C = true) (e3sb : PySem.W.subIn K (.ref e3C) (.type "ArithmeticError") = some true) (e3su : PySem.W.ks_superIn K e3C e3C "__init__" = some (some (.builtin "ArithmeticError.__init__"))) (e3op : PySem.W.nsIn K cStatics "thirdparty.any" = some none) (e3mr : PySem.W.mroIn K e3C (.ref e3C) = some true) (e3ns : PySem.W.nsIn K mainGlobals "super" = some none) (e3top : (P.main.scope.names.lookup ("super" : Str)).isSome = false)
  {e3oc e3dc e3pm e3ct e3ccl e3cl : Value} {e3od e3an e3cdd e3cld : Option Addr} {e3cc e3cda : Addr} {e3osl e3ccs e3csl : Array (Option Value)} {e3vs : Array Value} {e3file : Str} {e3tf : Tok}
  (e3l : K.lookup e3I = some ⟨e3oc, e3od, .func (PySem.W.ksFn "__init__" "Refused.__init__" (PX.iA "reason" ⟨20, 17, 20, 21⟩ ⟨20, 23, 20, 29⟩) (PX.iB "reason" ⟨21, 8, 21, 13⟩ ⟨21, 8, 21, 15⟩ ⟨21, 8, 21, 24⟩ ⟨21, 25, 21, 31⟩ ⟨21, 8, 21, 32⟩ ⟨21, 8, 21, 32⟩ ⟨22, 8, 22, 12⟩ ⟨22, 8, 22, 19⟩ ⟨22, 22, 22, 28⟩ ⟨22, 8, 22, 28⟩) (PX.iS "reason") .none .none e3dc e3pm e3an (.ref e3cda) e3ct e3cc), e3osl⟩) (e3cd : PySem.W.codeIn K (.ref e3cda) "Refused.__init__" = true) (e3ce : K.lookup e3cc = some ⟨e3cl, e3cld, .cell (some (.ref e3C)), e3csl⟩) (e3co : K.lookup e3cda = some ⟨e3ccl, e3cdd, .fields e3vs, e3ccs⟩) (e3fi : (e3vs)[2]? = some (.str e3file e3tf)) (e3mf : ((P.main.file : Str) == e3file) = true)
  {e4C : Addr} (e4a : PySem.W.nsIn K mainGlobals "InvalidOperation" = some (some (.ref e4C))) (e4k : PySem.W.keepIn K (.ref e4C) = true) (e4b : PySem.W.subIn K (.ref e4C) (.type "BaseException") = some true) (e4t : PySem.W.typeIn K (.ref e4C) = some (.type "type")) (e4i : PySem.W.isClsIn K e4C = true)
  (e4x : PySem.W.excIn K e4C [.type "ValueError", .type "Exception", .type "BaseException", .type "object"] "ValueError.__new__" = true)
  (se1e1 : PySem.W.subIn K (.ref e1C) (.ref e1C) = some true)
  (se1e4 : PySem.W.subIn K (.ref e1C) (.ref e4C) = some false)
  (se1e0 : PySem.W.subIn K (.ref e1C) (.ref e0C) = some false)
  (se1e3 : PySem.W.subIn K (.ref e1C) (.ref e3C) = some false)
  (se1e2 : PySem.W.subIn K (.ref e1C) (.ref e2C) = some false)
  (se4e1 : PySem.W.subIn K (.ref e4C) (.ref e1C) = some false)
  (se4e4 : PySem.W.subIn K (.ref e4C) (.ref e4C) = some true)
  (se4e0 : PySem.W.subIn K (.ref e4C) (.ref e0C) = some false)
  (se4e3 : PySem.W.subIn K (.ref e4C) (.ref e3C) = some false)
  (se4e2 : PySem.W.subIn K (.ref e4C) (.ref e2C) = some false)
  (se0e1 : PySem.W.subIn K (.ref e0C) (.ref e1C) = some false)
  (se0e4 : PySem.W.subIn K (.ref e0C) (.ref e4C) = some false)
  (se0e0 : PySem.W.subIn K (.ref e0C) (.ref e0C) = some true)
  (se0e3 : PySem.W.subIn K (.ref e0C) (.ref e3C) = some false)
  (se0e2 : PySem.W.subIn K (.ref e0C) (.ref e2C) = some false)
  (se3e1 : PySem.W.subIn K (.ref e3C) (.ref e1C) = some false)
  (se3e4 : PySem.W.subIn K (.ref e3C) (.ref e4C) = some false)
  (se3e0 : PySem.W.subIn K (.ref e3C) (.ref e0C) = some false)
  (se3e3 : PySem.W.subIn K (.ref e3C) (.ref e3C) = some true)
  (se3e2 : PySem.W.subIn K (.ref e3C) (.ref e2C) = some false)
  (se2e1 : PySem.W.subIn K (.ref e2C) (.ref e1C) = some false)
  (se2e4 : PySem.W.subIn K (.ref e2C) (.ref e4C) = some false)
  (se2e0 : PySem.W.subIn K (.ref e2C) (.ref e0C) = some false)
  (se2e3 : PySem.W.subIn K (.ref e2C) (.ref e3C) = some false)
  (se2e2 : PySem.W.subIn K (.ref e2C) (.ref e2C) = some true)
  (hnd : (([(P44, ("_law_right" : Str) ++ ".<locals>." ++ "<lambda>"), (P45, ("law" : Str) ++ ".<locals>." ++ "<lambda>")] : List (Addr × Str)).map (·.1)).Nodup) : Md P K mg where
  me := 0
  C_Table := y0C
  gC_Table := PySem.W.mg_of X G y0a
  sc_Table := ⟨y0pg, y0ic, y0po, y0sa⟩
  mk_Table := ⟨y0mk, y0in, y0fn, y0kp⟩
  p_Table_own_form := y0s0p
  st_Table_own_form := ⟨y0s0a, y0s0g, y0s0t, y0s0i, y0s0y, by decide⟩
  p_Table_own_lots := y0s1p
  st_Table_own_lots := ⟨y0s1a, y0s1g, y0s1t, y0s1i, y0s1y, by decide⟩
  p_Table_own_many := y0s2p
  st_Table_own_many := ⟨y0s2a, y0s2g, y0s2t, y0s2i, y0s2y, by decide⟩
  p_Table_own_size := y0s3p
  st_Table_own_size := ⟨y0s3a, y0s3g, y0s3t, y0s3i, y0s3y, by decide⟩
  p_Table_own_told := y0s4p
  st_Table_own_told := ⟨y0s4a, y0s4g, y0s4t, y0s4i, y0s4y, by decide⟩
  q_Table_size := y0r3p
  pr_Table_size := ⟨y0r3a, y0r3g, y0r3t, ⟨_, y0r3r⟩⟩
  cl := cls_one ⟨⟨y0C, PySem.W.mg_of X G y0a, ⟨y0pg, y0ic, y0po, y0sa⟩, ⟨y0ca, y0cn, y0ct, y0cm⟩, y0ty, ⟨y0b0, y0b1, y0b2, y0b3, y0b4, y0b5⟩, ⟨y0d0, y0d1, y0d2, y0d3, y0d4, y0d5, y0d6⟩⟩⟩
  f__law_dice := f0
  fd__law_dice := _
  F__law_dice := fun_mk (st := st__law_dice) l0 c0 k0
  g__law_dice := PySem.W.mg_of X G a0
  b__law_dice := (fun_mk (st := st__law_dice) l0 c0 k0).binds (ps := ["script", "spot"]) fun _ _ _ _ _ _ us hl => match us, hl with | [_, _], _ => rfl
  f_is_whole_lots := f1
  fd_is_whole_lots := _
  F_is_whole_lots := fun_mk (st := st_is_whole_lots) l1 c1 k1
  g_is_whole_lots := PySem.W.mg_of X G a1
  b_is_whole_lots := (fun_mk (st := st_is_whole_lots) l1 c1 k1).binds (ps := ["value"]) fun _ _ _ _ _ _ us hl => match us, hl with | [_], _ => rfl
  f_is_below := f2
  fd_is_below := _
  F_is_below := fun_mk (st := st_is_below) l2 c2 k2
  g_is_below := PySem.W.mg_of X G a2
  b_is_below := (fun_mk (st := st_is_below) l2 c2 k2).binds (ps := ["value", "many"]) fun _ _ _ _ _ _ us hl => match us, hl with | [_, _], _ => rfl
  f_is_rising := f3
  fd_is_rising := _
  F_is_rising := fun_mk (st := st_is_rising) l3 c3 k3
  g_is_rising := PySem.W.mg_of X G a3
  b_is_rising := (fun_mk (st := st_is_rising) l3 c3 k3).binds (ps := ["value", "many"]) fun _ _ _ _ _ _ us hl => match us, hl with | [_, _], _ => rfl
  f_are_table_parts := f4
  fd_are_table_parts := _
  F_are_table_parts := fun_mk (st := st_are_table_parts) l4 c4 k4
  g_are_table_parts := PySem.W.mg_of X G a4
  b_are_table_parts := (fun_mk (st := st_are_table_parts) l4 c4 k4).binds (ps := ["many", "lots"]) fun _ _ _ _ _ _ us hl => match us, hl with | [_, _], _ => rfl
  f_head_of := f5
  fd_head_of := _
  F_head_of := fun_mk (st := st_head_of) l5 c5 k5
  g_head_of := PySem.W.mg_of X G a5
  b_head_of := (fun_mk (st := st_head_of) l5 c5 k5).binds (ps := ["mask"]) fun _ _ _ _ _ _ us hl => match us, hl with | [_], _ => rfl
  f_told_form := f6
  fd_told_form := _
  F_told_form := fun_mk (st := st_told_form) l6 c6 k6
  g_told_form := PySem.W.mg_of X G a6
  b_told_form := (fun_mk (st := st_told_form) l6 c6 k6).binds (ps := ["masks"]) fun _ _ _ _ _ _ us hl => match us, hl with | [_], _ => rfl
  f_form_masks := f7
  fd_form_masks := _
  F_form_masks := fun_mk (st := st_form_masks) l7 c7 k7
  g_form_masks := PySem.W.mg_of X G a7
  b_form_masks := (fun_mk (st := st_form_masks) l7 c7 k7).binds (ps := ["masks"]) fun _ _ _ _ _ _ us hl => match us, hl with | [_], _ => rfl
  f_lot_of := f8
  fd_lot_of := _
  F_lot_of := fun_mk (st := st_lot_of) l8 c8 k8
  g_lot_of := PySem.W.mg_of X G a8
  b_lot_of := (fun_mk (st := st_lot_of) l8 c8 k8).binds (ps := ["mask"]) fun _ _ _ _ _ _ us hl => match us, hl with | [_], _ => rfl
  f_told_lots := f9
  fd_told_lots := _
  F_told_lots := fun_mk (st := st_told_lots) l9 c9 k9
  g_told_lots := PySem.W.mg_of X G a9
  b_told_lots := (fun_mk (st := st_told_lots) l9 c9 k9).binds (ps := ["masks"]) fun _ _ _ _ _ _ us hl => match us, hl with | [_], _ => rfl
  f_mask_of := f10
  fd_mask_of := _
  F_mask_of := fun_mk (st := st_mask_of) l10 c10 k10
  g_mask_of := PySem.W.mg_of X G a10
  b_mask_of := (fun_mk (st := st_mask_of) l10 c10 k10).binds (ps := ["lot"]) fun _ _ _ _ _ _ us hl => match us, hl with | [_], _ => rfl
  f_masks_of := f11
  fd_masks_of := _
  F_masks_of := fun_mk (st := st_masks_of) l11 c11 k11
  g_masks_of := PySem.W.mg_of X G a11
  b_masks_of := (fun_mk (st := st_masks_of) l11 c11 k11).binds (ps := ["lots"]) fun _ _ _ _ _ _ us hl => match us, hl with | [_], _ => rfl
  f_Table_init := f12
  fd_Table_init := _
  F_Table_init := fun_mk (st := st_Table_init) l12 c12 k12
  b_Table_init := (fun_mk (st := st_Table_init) l12 c12 k12).binds (ps := ["self", "many", "lots"]) fun _ _ _ _ _ _ us hl => match us, hl with | [_, _, _], _ => rfl
  f__law_met := f13
  fd__law_met := _
  F__law_met := fun_mk (st := st__law_met) l13 c13 k13
  g__law_met := PySem.W.mg_of X G a13
  b__law_met := (fun_mk (st := st__law_met) l13 c13 k13).binds (ps := ["call"]) fun _ _ _ _ _ _ us hl => match us, hl with | [_], _ => rfl
  f_require_table := f14
  fd_require_table := _
  F_require_table := fun_mk (st := st_require_table) l14 c14 k14
  g_require_table := PySem.W.mg_of X G a14
  b_require_table := (fun_mk (st := st_require_table) l14 c14 k14).binds (ps := ["value"]) fun _ _ _ _ _ _ us hl => match us, hl with | [_], _ => rfl
  f_linked_parts := f15
  fd_linked_parts := _
  F_linked_parts := fun_mk (st := st_linked_parts) l15 c15 k15
  g_linked_parts := PySem.W.mg_of X G a15
  b_linked_parts := (fun_mk (st := st_linked_parts) l15 c15 k15).binds (ps := ["masks", "many"]) fun _ _ _ _ _ _ us hl => match us, hl with | [_, _], _ => rfl
  f_parts_in := f16
  fd_parts_in := _
  F_parts_in := fun_mk (st := st_parts_in) l16 c16 k16
  g_parts_in := PySem.W.mg_of X G a16
  b_parts_in := (fun_mk (st := st_parts_in) l16 c16 k16).binds (ps := ["table"]) fun _ _ _ _ _ _ us hl => match us, hl with | [_], _ => rfl
  f_parts := f17
  fd_parts := _
  F_parts := fun_mk (st := st_parts) l17 c17 k17
  g_parts := PySem.W.mg_of X G a17
  b_parts := (fun_mk (st := st_parts) l17 c17 k17).binds (ps := ["table"]) fun _ _ _ _ _ _ us hl => match us, hl with | [_], _ => rfl
  f__law_roll := f18
  fd__law_roll := _
  F__law_roll := fun_mk (st := st__law_roll) l18 c18 k18
  g__law_roll := PySem.W.mg_of X G a18
  b__law_roll := (fun_mk (st := st__law_roll) l18 c18 k18).binds (ps := ["dice", "most"]) fun _ _ _ _ _ _ us hl => match us, hl with | [_, _], _ => rfl
  f__law_pick := f19
  fd__law_pick := _
  F__law_pick := fun_mk (st := st__law_pick) l19 c19 k19
  g__law_pick := PySem.W.mg_of X G a19
  b__law_pick := (fun_mk (st := st__law_pick) l19 c19 k19).binds (ps := ["dice", "items"]) fun _ _ _ _ _ _ us hl => match us, hl with | [_, _], _ => rfl
  f_does_hang := f20
  fd_does_hang := _
  F_does_hang := fun_mk (st := st_does_hang) l20 c20 k20
  g_does_hang := PySem.W.mg_of X G a20
  b_does_hang := (fun_mk (st := st_does_hang) l20 c20 k20).binds (ps := ["table"]) fun _ _ _ _ _ _ us hl => match us, hl with | [_], _ => rfl
  f_rank_within := f21
  fd_rank_within := _
  F_rank_within := fun_mk (st := st_rank_within) l21 c21 k21
  g_rank_within := PySem.W.mg_of X G a21
  b_rank_within := (fun_mk (st := st_rank_within) l21 c21 k21).binds (ps := ["table", "mask"]) fun _ _ _ _ _ _ us hl => match us, hl with | [_, _], _ => rfl
  f_Table_size := f22
  fd_Table_size := _
  F_Table_size := fun_mk (st := st_Table_size) l22 c22 k22
  b_Table_size := (fun_mk (st := st_Table_size) l22 c22 k22).binds (ps := ["self"]) fun _ _ _ _ _ _ us hl => match us, hl with | [_], _ => rfl
  f_beyond_parts := f23
  fd_beyond_parts := _
  F_beyond_parts := fun_mk (st := st_beyond_parts) l23 c23 k23
  g_beyond_parts := PySem.W.mg_of X G a23
  b_beyond_parts := (fun_mk (st := st_beyond_parts) l23 c23 k23).binds (ps := ["table", "lot"]) fun _ _ _ _ _ _ us hl => match us, hl with | [_, _], _ => rfl
  f_is_seam_in := f24
  fd_is_seam_in := _
  F_is_seam_in := fun_mk (st := st_is_seam_in) l24 c24 k24
  g_is_seam_in := PySem.W.mg_of X G a24
  b_is_seam_in := (fun_mk (st := st_is_seam_in) l24 c24 k24).binds (ps := ["table", "value"]) fun _ _ _ _ _ _ us hl => match us, hl with | [_, _], _ => rfl
  f_is_seam := f25
  fd_is_seam := _
  F_is_seam := fun_mk (st := st_is_seam) l25 c25 k25
  g_is_seam := PySem.W.mg_of X G a25
  b_is_seam := (fun_mk (st := st_is_seam) l25 c25 k25).binds (ps := ["table", "value"]) fun _ _ _ _ _ _ us hl => match us, hl with | [_, _], _ => rfl
  f_require_index := f26
  fd_require_index := _
  F_require_index := fun_mk (st := st_require_index) l26 c26 k26
  g_require_index := PySem.W.mg_of X G a26
  b_require_index := (fun_mk (st := st_require_index) l26 c26 k26).binds (ps := ["value", "many"]) fun _ _ _ _ _ _ us hl => match us, hl with | [_, _], _ => rfl
  f_table_by := f27
  fd_table_by := _
  F_table_by := fun_mk (st := st_table_by) l27 c27 k27
  g_table_by := PySem.W.mg_of X G a27
  b_table_by := (fun_mk (st := st_table_by) l27 c27 k27).binds (ps := ["many", "masks"]) fun _ _ _ _ _ _ us hl => match us, hl with | [_, _], _ => rfl
  f_renamed := f28
  fd_renamed := _
  F_renamed := fun_mk (st := st_renamed) l28 c28 k28
  g_renamed := PySem.W.mg_of X G a28
  b_renamed := (fun_mk (st := st_renamed) l28 c28 k28).binds (ps := ["mask", "lot"]) fun _ _ _ _ _ _ us hl => match us, hl with | [_, _], _ => rfl
  f_table_within := f29
  fd_table_within := _
  F_table_within := fun_mk (st := st_table_within) l29 c29 k29
  g_table_within := PySem.W.mg_of X G a29
  b_table_within := (fun_mk (st := st_table_within) l29 c29 k29).binds (ps := ["table", "part"]) fun _ _ _ _ _ _ us hl => match us, hl with | [_, _], _ => rfl
  f_part_table := f30
  fd_part_table := _
  F_part_table := fun_mk (st := st_part_table) l30 c30 k30
  g_part_table := PySem.W.mg_of X G a30
  b_part_table := (fun_mk (st := st_part_table) l30 c30 k30).binds (ps := ["table", "part"]) fun _ _ _ _ _ _ us hl => match us, hl with | [_, _], _ => rfl
  f_require_two_parts := f31
  fd_require_two_parts := _
  F_require_two_parts := fun_mk (st := st_require_two_parts) l31 c31 k31
  g_require_two_parts := PySem.W.mg_of X G a31
  b_require_two_parts := (fun_mk (st := st_require_two_parts) l31 c31 k31).binds (ps := ["one", "other"]) fun _ _ _ _ _ _ us hl => match us, hl with | [_, _], _ => rfl
  f_need_few := f32
  fd_need_few := _
  F_need_few := fun_mk (st := st_need_few) l32 c32 k32
  g_need_few := PySem.W.mg_of X G a32
  b_need_few := (fun_mk (st := st_need_few) l32 c32 k32).binds (ps := ["many"]) fun _ _ _ _ _ _ us hl => match us, hl with | [_], _ => rfl
  f_beside_in := f33
  fd_beside_in := _
  F_beside_in := fun_mk (st := st_beside_in) l33 c33 k33
  g_beside_in := PySem.W.mg_of X G a33
  b_beside_in := (fun_mk (st := st_beside_in) l33 c33 k33).binds (ps := ["one", "other"]) fun _ _ _ _ _ _ us hl => match us, hl with | [_, _], _ => rfl
  f_beside := f34
  fd_beside := _
  F_beside := fun_mk (st := st_beside) l34 c34 k34
  g_beside := PySem.W.mg_of X G a34
  b_beside := (fun_mk (st := st_beside) l34 c34 k34).binds (ps := ["one", "other"]) fun _ _ _ _ _ _ us hl => match us, hl with | [_, _], _ => rfl
  f_require_line_in := f35
  fd_require_line_in := _
  F_require_line_in := fun_mk (st := st_require_line_in) l35 c35 k35
  g_require_line_in := PySem.W.mg_of X G a35
  b_require_line_in := (fun_mk (st := st_require_line_in) l35 c35 k35).binds (ps := ["table", "line"]) fun _ _ _ _ _ _ us hl => match us, hl with | [_, _], _ => rfl
  f_closed_up := f36
  fd_closed_up := _
  F_closed_up := fun_mk (st := st_closed_up) l36 c36 k36
  g_closed_up := PySem.W.mg_of X G a36
  b_closed_up := (fun_mk (st := st_closed_up) l36 c36 k36).binds (ps := ["mask", "line"]) fun _ _ _ _ _ _ us hl => match us, hl with | [_, _], _ => rfl
  f_parted_by := f37
  fd_parted_by := _
  F_parted_by := fun_mk (st := st_parted_by) l37 c37 k37
  g_parted_by := PySem.W.mg_of X G a37
  b_parted_by := (fun_mk (st := st_parted_by) l37 c37 k37).binds (ps := ["table", "line"]) fun _ _ _ _ _ _ us hl => match us, hl with | [_, _], _ => rfl
  f_tied_in := f38
  fd_tied_in := _
  F_tied_in := fun_mk (st := st_tied_in) l38 c38 k38
  g_tied_in := PySem.W.mg_of X G a38
  b_tied_in := (fun_mk (st := st_tied_in) l38 c38 k38).binds (ps := ["one", "line", "other", "further"]) fun _ _ _ _ _ _ us hl => match us, hl with | [_, _, _, _], _ => rfl
  f_tied := f39
  fd_tied := _
  F_tied := fun_mk (st := st_tied) l39 c39 k39
  g_tied := PySem.W.mg_of X G a39
  b_tied := (fun_mk (st := st_tied) l39 c39 k39).binds (ps := ["one", "line", "other", "further"]) fun _ _ _ _ _ _ us hl => match us, hl with | [_, _, _, _], _ => rfl
  f_reduced := f40
  fd_reduced := _
  F_reduced := fun_mk (st := st_reduced) l40 c40 k40
  g_reduced := PySem.W.mg_of X G a40
  b_reduced := (fun_mk (st := st_reduced) l40 c40 k40).binds (ps := ["mask", "form"]) fun _ _ _ _ _ _ us hl => match us, hl with | [_, _], _ => rfl
  f_is_sum_in := f41
  fd_is_sum_in := _
  F_is_sum_in := fun_mk (st := st_is_sum_in) l41 c41 k41
  g_is_sum_in := PySem.W.mg_of X G a41
  b_is_sum_in := (fun_mk (st := st_is_sum_in) l41 c41 k41).binds (ps := ["mask", "form"]) fun _ _ _ _ _ _ us hl => match us, hl with | [_, _], _ => rfl
  f_side_of := f42
  fd_side_of := _
  F_side_of := fun_mk (st := st_side_of) l42 c42 k42
  g_side_of := PySem.W.mg_of X G a42
  b_side_of := (fun_mk (st := st_side_of) l42 c42 k42).binds (ps := ["table", "lot"]) fun _ _ _ _ _ _ us hl => match us, hl with | [_, _], _ => rfl
  f_taken_apart := f43
  fd_taken_apart := _
  F_taken_apart := fun_mk (st := st_taken_apart) l43 c43 k43
  g_taken_apart := PySem.W.mg_of X G a43
  b_taken_apart := (fun_mk (st := st_taken_apart) l43 c43 k43).binds (ps := ["table", "seam"]) fun _ _ _ _ _ _ us hl => match us, hl with | [_, _], _ => rfl
  f__law_right := f44
  fd__law_right := _
  F__law_right := fun_mk (st := st__law_right) l44 c44 k44
  g__law_right := PySem.W.mg_of X G a44
  b__law_right := (fun_mk (st := st__law_right) l44 c44 k44).binds (ps := ["dice"]) fun _ _ _ _ _ _ us hl => match us, hl with | [_], _ => rfl
  cc__law_right := cc44
  P__law_right := P44
  cd__law_right := rfl
  f_law := f45
  fd_law := _
  F_law := fun_mk (st := st_law) l45 c45 k45
  g_law := PySem.W.mg_of X G a45
  b_law := (fun_mk (st := st_law) l45 c45 k45).binds (ps := ["script"]) fun _ _ _ _ _ _ us hl => match us, hl with | [_], _ => rfl
  cc_law := cc45
  P_law := P45
  cd_law := rfl
  z_abs := PySem.W.mg_none_of X G z0
  z_all := PySem.W.mg_none_of X G z1
  z_bool := PySem.W.mg_none_of X G z2
  z_enumerate := PySem.W.mg_none_of X G z3
  z_int := PySem.W.mg_none_of X G z4
  z_isinstance := PySem.W.mg_none_of X G z5
  z_len := PySem.W.mg_none_of X G z6
  z_list := PySem.W.mg_none_of X G z7
  z_max := PySem.W.mg_none_of X G z8
  z_min := PySem.W.mg_none_of X G z9
  z_range := PySem.W.mg_none_of X G z10
  z_repr := PySem.W.mg_none_of X G z11
  z_set := PySem.W.mg_none_of X G z12
  z_sorted := PySem.W.mg_none_of X G z13
  z_sum := PySem.W.mg_none_of X G z14
  z_tuple := PySem.W.mg_none_of X G z15
  z_zip := PySem.W.mg_none_of X G z16
  z_lam_law_right_0 := PySem.W.mg_none_of X G zl0
  c_LEAST_BESIDE := ⟨_, PySem.W.mg_of X G v0⟩
  c_MOST_LINES := ⟨_, PySem.W.mg_of X G v1⟩
  c_MOST_TABLE_LINES := ⟨_, PySem.W.mg_of X G v2⟩
  c_MOST_TABLE_LOTS := ⟨_, PySem.W.mg_of X G v3⟩
  c_NOTHING := tupC_of (PySem.W.mg_of X G tc4a) tc4l tc4z tc4v
  a_InvalidTable := e0C
  ga_InvalidTable := PySem.W.mg_of X G e0a
  e_InvalidTable := ⟨e0C, _, _, _, _, PySem.W.mg_of X G e0a, PySem.F.excBase_ValueError, e0x, e0k, e0b, e0t⟩
  a_InvalidNumber := e1C
  ga_InvalidNumber := PySem.W.mg_of X G e1a
  i_InvalidNumber := e1I
  e_InvalidNumber := { nm := ⟨by decide, by decide, by decide, by decide, by decide⟩, gC := PySem.W.mg_of X G e1a, fb := PySem.F.excBase_IndexError, kf := PySem.W.kxs_IndexError, sf := PySem.F.store_IndexError, ok := e1ok, over := e1ov, sa := e1sa, ga := e1ga, gg := e1gg, noN := e1no, iC := e1ic, tC := e1ti, kC := e1k, exC := e1b, tyC := e1t, hdC := e1hd, isC := e1i, subB := e1sb, sup := e1su, opq := e1op, mro := e1mr, nS := PySem.W.mg_none_of X G e1ns, bd := fun _ _ _ _ _ _ _ _ _ _ _ _ => rfl, top := e1top, fn := ⟨_, _, _, _, _, _, _, _, _, _, _, _, _, _, _, _, _, _, _, _, _, _, _, _, _, _, _, _, _, _, _, e1l, e1cd, e1ce, e1co, e1fi, e1mf, fun _ => ⟨_, rfl⟩⟩ }
  a_TooMany := e2C
  ga_TooMany := PySem.W.mg_of X G e2a
  i_TooMany := e2I
  e_TooMany := { nm := ⟨by decide, by decide, by decide, by decide, by decide⟩, gC := PySem.W.mg_of X G e2a, fb := PySem.F.excBase_OverflowError, kf := PySem.W.kxs_OverflowError, sf := PySem.F.store_OverflowError, ok := e2ok, over := e2ov, sa := e2sa, ga := e2ga, gg := e2gg, noN := e2no, iC := e2ic, tC := e2ti, kC := e2k, exC := e2b, tyC := e2t, hdC := e2hd, isC := e2i, subB := e2sb, sup := e2su, opq := e2op, mro := e2mr, nS := PySem.W.mg_none_of X G e2ns, bd := fun _ _ _ _ _ _ _ _ _ _ _ _ => rfl, top := e2top, fn := ⟨_, _, _, _, _, _, _, _, _, _, _, _, _, _, _, _, _, _, _, _, _, _, _, _, _, _, _, _, _, _, _, e2l, e2cd, e2ce, e2co, e2fi, e2mf, fun _ => ⟨_, rfl⟩⟩ }
  a_Refused := e3C
  ga_Refused := PySem.W.mg_of X G e3a
  i_Refused := e3I
  e_Refused := { nm := ⟨by decide, by decide, by decide, by decide, by decide⟩, gC := PySem.W.mg_of X G e3a, fb := PySem.F.excBase_ArithmeticError, kf := PySem.W.kxs_ArithmeticError, sf := PySem.F.store_ArithmeticError, ok := e3ok, over := e3ov, sa := e3sa, ga := e3ga, gg := e3gg, noN := e3no, iC := e3ic, tC := e3ti, kC := e3k, exC := e3b, tyC := e3t, hdC := e3hd, isC := e3i, subB := e3sb, sup := e3su, opq := e3op, mro := e3mr, nS := PySem.W.mg_none_of X G e3ns, bd := fun _ _ _ _ _ _ _ _ _ _ _ _ => rfl, top := e3top, fn := ⟨_, _, _, _, _, _, _, _, _, _, _, _, _, _, _, _, _, _, _, _, _, _, _, _, _, _, _, _, _, _, _, e3l, e3cd, e3ce, e3co, e3fi, e3mf, fun _ => ⟨_, rfl⟩⟩ }
  a_InvalidOperation := e4C
  ga_InvalidOperation := PySem.W.mg_of X G e4a
  e_InvalidOperation := ⟨e4C, _, _, _, _, PySem.W.mg_of X G e4a, PySem.F.excBase_ValueError, e4x, e4k, e4b, e4t⟩
  x_InvalidNumber_InvalidNumber := exm_by e1b e1i e1t se1e1
  x_InvalidNumber_InvalidOperation := exm_by e4b e4i e4t se1e4
  x_InvalidNumber_InvalidTable := exm_by e0b e0i e0t se1e0
  x_InvalidNumber_Refused := exm_by e3b e3i e3t se1e3
  x_InvalidNumber_TooMany := exm_by e2b e2i e2t se1e2
  x_InvalidOperation_InvalidNumber := exm_by e1b e1i e1t se4e1
  x_InvalidOperation_InvalidOperation := exm_by e4b e4i e4t se4e4
  x_InvalidOperation_InvalidTable := exm_by e0b e0i e0t se4e0
  x_InvalidOperation_Refused := exm_by e3b e3i e3t se4e3
  x_InvalidOperation_TooMany := exm_by e2b e2i e2t se4e2
  x_InvalidTable_InvalidNumber := exm_by e1b e1i e1t se0e1
  x_InvalidTable_InvalidOperation := exm_by e4b e4i e4t se0e4
  x_InvalidTable_InvalidTable := exm_by e0b e0i e0t se0e0
  x_InvalidTable_Refused := exm_by e3b e3i e3t se0e3
  x_InvalidTable_TooMany := exm_by e2b e2i e2t se0e2
  x_Refused_InvalidNumber := exm_by e1b e1i e1t se3e1
  x_Refused_InvalidOperation := exm_by e4b e4i e4t se3e4
  x_Refused_InvalidTable := exm_by e0b e0i e0t se3e0
  x_Refused_Refused := exm_by e3b e3i e3t se3e3
  x_Refused_TooMany := exm_by e2b e2i e2t se3e2
  x_TooMany_InvalidNumber := exm_by e1b e1i e1t se2e1
  x_TooMany_InvalidOperation := exm_by e4b e4i e4t se2e4
  x_TooMany_InvalidTable := exm_by e0b e0i e0t se2e0
  x_TooMany_Refused := exm_by e3b e3i e3t se2e3
  x_TooMany_TooMany := exm_by e2b e2i e2t se2e2
  nd := hnd
  bl := fun s v => .of_eq rfl
end R


namespace R
open PySem PySem.Spec PyProof.Rows L2 PV LamX
theorem all_mk {l : PySem.W.OpenLaw} {w : World} {q : Program} {K : PySem.W.Frag} {h : Heap} {mg : Str → Option Value} {fa : Addr} {x0 y0 : Addr} {x1 y1 : Addr} (hfa : mg "law" = some (.ref fa)) (M : Md l.prog K mg) (t : TabLs q K h [(x0, y0), (x1, y1)]) (u0 : M.cc__law_right = x0) (v0 : M.P__law_right = y0) (u1 : M.cc_law = x1) (v1 : M.P_law = y1) (hf : ∀ ns : List Int, ns.length ≤ 63 → f_law [.ro (ns.map D.int)] = .ok (.bl true)) :
  LawG l w K (L2.CX l.prog w) 14 63 "script" mg fa h := by
  subst u0 v0
  subst u1 v1
  have e := hfa.symm.trans M.g_law
  have e2 : fa = M.f_law := by
    cases e
    rfl
  subst e2
  exact lawG_of (T := [(M.P__law_right, ("_law_right" : Str) ++ ".<locals>." ++ "<lambda>"), (M.P_law, ("law" : Str) ++ ".<locals>." ++ "<lambda>")]) t (TT2.all (.cons _ _ _ (.cons _ _ _ .nil))) hf M.bl fun base _ _ tbs => ok_law M ⟨tbs _ (by exact (.head _)), tbs _ (by exact (.tail _ (.head _))), trivial⟩
end R

namespace R
open PySem L2 PV ERB
theorem dice_eq : f__law_dice = ERB.f__law_dice := rfl
theorem pick_eq : f__law_pick = ERB.f__law_pick := rfl
def c0 : D := okVD (f_Table_init [.int 5, .tup [.tup [.int 0, .int 1], .tup [.int 2, .int 3], .tup [.int 0, .int 2, .int 4]]])
theorem c0_ok : f_Table_init [.int 5, .tup [.tup [.int 0, .int 1], .tup [.int 2, .int 3], .tup [.int 0, .int 2, .int 4]]] = .ok c0 := by kernel_rfl
def c1 : D := okVD (f_Table_init [.int 2, .tup [.tup [.int 0, .int 1]]])
theorem c1_ok : f_Table_init [.int 2, .tup [.tup [.int 0, .int 1]]] = .ok c1 := by kernel_rfl
def M0  : List D := match k__law_right_0 [.no, .fz c0, .fz c1, .no, .no, .no, .no, .no, .no, .no, .no] with
  | .ok (.lst l) _ => l
  | _ => []
theorem hk0 (d : D)  : k__law_right_0 [.rf d, .fz c0, .fz c1, .no, .no, .no, .no, .no, .no, .no, .no] = .ok (.lst (M0 )) [.rf d, .fz c0, .fz c1, .no, .no, .no, .no, .no, .no, .no, .no] := by kernel_rfl
def M1  : List D := match k__law_right_1 [.no, .fz c0, .fz c1, .no, .no, .no, .no, .no, .no, .no, .no] with
  | .ok (.lst l) _ => l
  | _ => []
theorem hk1 (d : D) (x0 : D) : k__law_right_1 [.rf d, .fz c0, .fz c1, .fz x0, .no, .no, .no, .no, .no, .no, .no] = .ok (.lst (M1 )) [.rf d, .fz c0, .fz c1, .fz x0, .no, .no, .no, .no, .no, .no, .no] := by kernel_rfl
def M2  : List D := match k__law_right_2 [.no, .fz c0, .fz c1, .no, .no, .no, .no, .no, .no, .no, .no] with
  | .ok (.lst l) _ => l
  | _ => []
theorem hk2 (d : D) (x0 : D) (x1 : D) : k__law_right_2 [.rf d, .fz c0, .fz c1, .fz x0, .fz x1, .no, .no, .no, .no, .no, .no] = .ok (.lst (M2 )) [.rf d, .fz c0, .fz c1, .fz x0, .fz x1, .no, .no, .no, .no, .no, .no] := by kernel_rfl
def O_wrong : List D := match k__law_right_5 [.no, .fz c0, .fz c1, .no, .no, .no, .no, .no, .no, .no, .no] with
  | .ok (.lst l) _ => l
  | _ => []
theorem ho_wrong (d : D) (x0 : D) (x1 : D) (x2 : D) : k__law_right_5 [.rf d, .fz c0, .fz c1, .fz x0, .fz x1, .fz x2, .no, .no, .no, .no, .no] = .ok (.lst O_wrong) [.rf d, .fz c0, .fz c1, .fz x0, .fz x1, .fz x2, .no, .no, .no, .no, .no] := by kernel_rfl
abbrev M3 : List D := O_wrong
theorem hk3 (d : D) (x0 : D) (x1 : D) (x2 : D) : (mV 6) [.rf d, .fz c0, .fz c1, .fz x0, .fz x1, .fz x2, .fz (.lst O_wrong), .no, .no, .no, .no] = .ok (.lst (M3 )) [.rf d, .fz c0, .fz c1, .fz x0, .fz x1, .fz x2, .fz (.lst O_wrong), .no, .no, .no, .no] := by kernel_rfl
theorem H0 : ∀ x0 ∈ M0, metR hs__law_met dd__law_met (f_parts [x0]) = some (.str "table") := by
  have h : ((M0).all fun x0 => sameO (metR hs__law_met dd__law_met (f_parts [x0])) (.str "table")) = true := by kernel_rfl
  exact fun x0 h0 => sameO_eq (List.all_eq_true.mp h x0 h0)
theorem H1 : ∀ x0 ∈ M0, metR hs__law_met dd__law_met (f_does_hang [x0]) = some (.str "table") := by
  have h : ((M0).all fun x0 => sameO (metR hs__law_met dd__law_met (f_does_hang [x0])) (.str "table")) = true := by kernel_rfl
  exact fun x0 h0 => sameO_eq (List.all_eq_true.mp h x0 h0)
theorem H2 : ∀ x0 ∈ M0, metR hs__law_met dd__law_met (f_lam_law_right_0 [x0]) = some (.str "table") := by
  have h : ((M0).all fun x0 => sameO (metR hs__law_met dd__law_met (f_lam_law_right_0 [x0])) (.str "table")) = true := by kernel_rfl
  exact fun x0 h0 => sameO_eq (List.all_eq_true.mp h x0 h0)
theorem H3 : ∀ x0 ∈ M0, ∀ x2 ∈ M2, metR hs__law_met dd__law_met (f_part_table [x0, x2]) = some (.str "table") := by
  have h : ((M0).all fun x0 => (M2).all fun x2 => sameO (metR hs__law_met dd__law_met (f_part_table [x0, x2])) (.str "table")) = true := by kernel_rfl
  exact fun x0 h0 x2 h2 => sameO_eq (List.all_eq_true.mp (List.all_eq_true.mp h x0 h0) x2 h2)
theorem H4 : ∀ x2 ∈ M2, metR hs__law_met dd__law_met (f_part_table [c0, x2]) = some ((wrd "number " x2)) := by
  have h : ((M2).all fun x2 => sameO (metR hs__law_met dd__law_met (f_part_table [c0, x2])) ((wrd "number " x2))) = true := by kernel_rfl
  exact fun x2 h2 => sameO_eq (List.all_eq_true.mp h x2 h2)
theorem H5 : ∀ x0 ∈ M0, metR hs__law_met dd__law_met (f_beside [x0, x0]) = some (.str "table") := by
  have h : ((M0).all fun x0 => sameO (metR hs__law_met dd__law_met (f_beside [x0, x0])) (.str "table")) = true := by kernel_rfl
  exact fun x0 h0 => sameO_eq (List.all_eq_true.mp h x0 h0)
theorem H6 : ∀ x0 ∈ M0, metR hs__law_met dd__law_met (f_beside [c0, x0]) = some (.str "table") := by
  have h : ((M0).all fun x0 => sameO (metR hs__law_met dd__law_met (f_beside [c0, x0])) (.str "table")) = true := by kernel_rfl
  exact fun x0 h0 => sameO_eq (List.all_eq_true.mp h x0 h0)
theorem H7 : metR hs__law_met dd__law_met (f_beside [c0, c1]) = some (.str "fine") := by
  have h : (sameO (metR hs__law_met dd__law_met (f_beside [c0, c1])) (.str "fine")) = true := by kernel_rfl
  exact sameO_eq h
theorem rp0 : ∀ v ∈ M2, oReprX [v] = some (.str (repX v)) := repX_ok (by kernel_rfl)
theorem wd0 : ∀ v ∈ M2, oAdd [.str "number ", .str (repX v)] = some (wrd "number " v) := wrd_ok (by kernel_rfl)
theorem H8 : ∀ x0 ∈ M0, ∀ x1 ∈ M1, metR hs__law_met dd__law_met (f_tied [x0, x1, x0, x1]) = some (.str "table") := by
  have h : ((M0).all fun x0 => (M1).all fun x1 => sameO (metR hs__law_met dd__law_met (f_tied [x0, x1, x0, x1])) (.str "table")) = true := by kernel_rfl
  exact fun x0 h0 x1 h1 => sameO_eq (List.all_eq_true.mp (List.all_eq_true.mp h x0 h0) x1 h1)
theorem H9 : ∀ x0 ∈ M0, ∀ x1 ∈ M1, metR hs__law_met dd__law_met (f_tied [c0, x1, x0, x1]) = some ((wrd "number " x1)) := by
  have h : ((M0).all fun x0 => (M1).all fun x1 => sameO (metR hs__law_met dd__law_met (f_tied [c0, x1, x0, x1])) ((wrd "number " x1))) = true := by kernel_rfl
  exact fun x0 h0 x1 h1 => sameO_eq (List.all_eq_true.mp (List.all_eq_true.mp h x0 h0) x1 h1)
theorem H10 : ∀ x0 ∈ M0, ∀ x1 ∈ M1, metR hs__law_met dd__law_met (f_tied [c0, .int 4, x0, x1]) = some (.str "table") := by
  have h : ((M0).all fun x0 => (M1).all fun x1 => sameO (metR hs__law_met dd__law_met (f_tied [c0, .int 4, x0, x1])) (.str "table")) = true := by kernel_rfl
  exact fun x0 h0 x1 h1 => sameO_eq (List.all_eq_true.mp (List.all_eq_true.mp h x0 h0) x1 h1)
theorem H11 : ∀ x1 ∈ M1, metR hs__law_met dd__law_met (f_tied [c0, .int 4, c1, x1]) = some ((wrd "number " x1)) := by
  have h : ((M1).all fun x1 => sameO (metR hs__law_met dd__law_met (f_tied [c0, .int 4, c1, x1])) ((wrd "number " x1))) = true := by kernel_rfl
  exact fun x1 h1 => sameO_eq (List.all_eq_true.mp h x1 h1)
theorem H12 : metR hs__law_met dd__law_met (f_tied [c0, .int 4, c1, .int 1]) = some (.str "fine") := by
  have h : (sameO (metR hs__law_met dd__law_met (f_tied [c0, .int 4, c1, .int 1])) (.str "fine")) = true := by kernel_rfl
  exact sameO_eq h
theorem rp1 : ∀ v ∈ M1, oReprX [v] = some (.str (repX v)) := repX_ok (by kernel_rfl)
theorem wd1 : ∀ v ∈ M1, oAdd [.str "number ", .str (repX v)] = some (wrd "number " v) := wrd_ok (by kernel_rfl)
theorem H13 : ∀ x0 ∈ M0, ∀ x3 ∈ M3, metR hs__law_met dd__law_met (f_taken_apart [x0, x3]) = some (.str "table") := by
  have h : ((M0).all fun x0 => (M3).all fun x3 => sameO (metR hs__law_met dd__law_met (f_taken_apart [x0, x3])) (.str "table")) = true := by kernel_rfl
  exact fun x0 h0 x3 h3 => sameO_eq (List.all_eq_true.mp (List.all_eq_true.mp h x0 h0) x3 h3)
theorem H14 : ∀ x3 ∈ M3, metR hs__law_met dd__law_met (f_taken_apart [c0, x3]) = some (.str "operation") := by
  have h : ((M3).all fun x3 => sameO (metR hs__law_met dd__law_met (f_taken_apart [c0, x3])) (.str "operation")) = true := by kernel_rfl
  exact fun x3 h3 => sameO_eq (List.all_eq_true.mp h x3 h3)
theorem H15 : metR hs__law_met dd__law_met (f_taken_apart [c0, .tup [.int 0, .int 1]]) = some (.str "fine") := by
  have h : (sameO (metR hs__law_met dd__law_met (f_taken_apart [c0, .tup [.int 0, .int 1]])) (.str "fine")) = true := by kernel_rfl
  exact sameO_eq h
theorem HF : ∀ x1 ∈ M1, ∀ x2 ∈ M2, flatE (.lst (.str "table" :: .str "table" :: .str "table" :: .str "table" :: (wrd "number " x2) :: .str "table" :: .str "table" :: .str "fine" :: .str "table" :: (wrd "number " x1) :: .str "table" :: (wrd "number " x1) :: .str "fine" :: .str "table" :: .str "operation" :: .str "fine" :: [])) = true := by
  have h : ((M1).all fun x1 => (M2).all fun x2 => flatE (.lst (.str "table" :: .str "table" :: .str "table" :: .str "table" :: (wrd "number " x2) :: .str "table" :: .str "table" :: .str "fine" :: .str "table" :: (wrd "number " x1) :: .str "table" :: (wrd "number " x1) :: .str "fine" :: .str "table" :: .str "operation" :: .str "fine" :: []))) = true := by kernel_rfl
  exact fun x1 h1 x2 h2 => (List.all_eq_true.mp (List.all_eq_true.mp h x1 h1) x2 h2)
theorem H16 : ∀ x3 ∈ M3, okV (f_is_seam [c0, x3]) = some (.bl false) := by
  have h : ((M3).all fun x3 => sameO (okV (f_is_seam [c0, x3])) (.bl false)) = true := by kernel_rfl
  exact fun x3 h3 => sameO_eq (List.all_eq_true.mp h x3 h3)
def c2 : D := okVD (f_beside [c1, c1])
theorem c2_ok : f_beside [c1, c1] = .ok c2 := by kernel_rfl
theorem H17 : okV (f_is_seam [c2, .tup [.int 0, .int 1]]) = some (.bl false) := by
  have h : (sameO (okV (f_is_seam [c2, .tup [.int 0, .int 1]])) (.bl false)) = true := by kernel_rfl
  exact sameO_eq h
theorem look_lam_law_right_0 : lookF "lam_law_right_0" [("parts", f_parts), ("does_hang", f_does_hang), ("lam_law_right_0", f_lam_law_right_0)] = some f_lam_law_right_0 := by kernel_rfl
theorem look_parts : lookF "parts" [("parts", f_parts), ("does_hang", f_does_hang), ("lam_law_right_0", f_lam_law_right_0)] = some f_parts := by kernel_rfl
theorem look_does_hang : lookF "does_hang" [("parts", f_parts), ("does_hang", f_does_hang), ("lam_law_right_0", f_lam_law_right_0)] = some f_does_hang := by kernel_rfl
end R

namespace R
open PySem L2 PV ERB
set_option maxHeartbeats 0 in
theorem right_ok {n : Nat} {d : D} (hd : GD n d) (hn : n ≤ 100000) : ∃ d', f__law_right d [] = .ok (.bl true) d' ∧ GD (n + 4) d' := by
  obtain ⟨x0, d0, h0, e0, g0⟩ := pick_mem hd (by omega) (l := M0) (by decide +kernel) (by decide +kernel)
  obtain ⟨x1, d1, h1, e1, g1⟩ := pick_mem g0 (by omega) (l := M1) (by decide +kernel) (by decide +kernel)
  obtain ⟨x2, d2, h2, e2, g2⟩ := pick_mem g1 (by omega) (l := M2) (by decide +kernel) (by decide +kernel)
  obtain ⟨x3, d3, h3, e3, g3⟩ := pick_mem g2 (by omega) (l := M3) (by decide +kernel) (by decide +kernel)
  refine ⟨d3, ?_, g3⟩
  rw [← pick_eq] at e0 e1 e2 e3
  refine runR_end ?_
  unfold m__law_right
  refine re_step (by (simp only [runD, runF, runR, runRF, startE, rf0, sSeq, sNil, sPass, sEx, sRt, sRtN, sIf, sSet, sSetO, sPar, sAug, sSub, sAsg, sFz, sFor, mOp, evA, evP, fill, evS, mTup, mLst, mV, mK, mT, mNot, mAnd, mOr, mAndV, mOrV, mNotV, mIf, mChain, mCall, mCallL, mCallR, mIsi, mIt, iAny, mSl, evO, mGet, mOwn, PV.val, ownV, setV, free, bindT, bindTs, wipeE, backE, R.bind, R.bs, Rs.bind, Oe.ev, Oe.sl, tYs, isLst, List.map_cons, List.map_nil, List.length_cons, List.length_nil, List.replicate, List.cons_append, List.nil_append, List.append_nil, List.getElem?_cons_zero, List.getElem?_cons_succ, List.getElem?_nil, List.set_cons_zero, List.set_cons_succ, Option.some.injEq, if_true, if_false, Bool.false_eq_true, Nat.sub_self, Nat.reduceSub, Nat.reduceAdd, Nat.reduceLT, reduceCtorEq, ite_true, ite_false, Bool.not_true, Bool.not_false, Option.bind_some, Option.map_some, ne_eq, not_false_eq_true, and_self, and_true, true_and, Nat.succ_ne_self, List.contains_cons, List.contains_nil, String.reduceBEq, Bool.or_true, Bool.true_or, Bool.or_false, Bool.false_or, Bool.and_true, Bool.and_false, Bool.false_and, Bool.true_and, beq_self_eq_true, subN, tyN, PV.imm, Nat.reduceEqDiff, startE, c0_ok, c1_ok, k__law_right_3, k__law_right_4]; rfl)) ?_
  refine re_step (by (simp only [runD, runF, runR, runRF, startE, rf0, sSeq, sNil, sPass, sEx, sRt, sRtN, sIf, sSet, sSetO, sPar, sAug, sSub, sAsg, sFz, sFor, mOp, evA, evP, fill, evS, mTup, mLst, mV, mK, mT, mNot, mAnd, mOr, mAndV, mOrV, mNotV, mIf, mChain, mCall, mCallL, mCallR, mIsi, mIt, iAny, mSl, evO, mGet, mOwn, PV.val, ownV, setV, free, bindT, bindTs, wipeE, backE, R.bind, R.bs, Rs.bind, Oe.ev, Oe.sl, tYs, isLst, List.map_cons, List.map_nil, List.length_cons, List.length_nil, List.replicate, List.cons_append, List.nil_append, List.append_nil, List.getElem?_cons_zero, List.getElem?_cons_succ, List.getElem?_nil, List.set_cons_zero, List.set_cons_succ, Option.some.injEq, if_true, if_false, Bool.false_eq_true, Nat.sub_self, Nat.reduceSub, Nat.reduceAdd, Nat.reduceLT, reduceCtorEq, ite_true, ite_false, Bool.not_true, Bool.not_false, Option.bind_some, Option.map_some, ne_eq, not_false_eq_true, and_self, and_true, true_and, Nat.succ_ne_self, List.contains_cons, List.contains_nil, String.reduceBEq, Bool.or_true, Bool.true_or, Bool.or_false, Bool.false_or, Bool.and_true, Bool.and_false, Bool.false_and, Bool.true_and, beq_self_eq_true, subN, tyN, PV.imm, Nat.reduceEqDiff, startE, hk0, e0, k__law_right_3, k__law_right_4]; rfl)) ?_
  refine re_step (by (simp only [runD, runF, runR, runRF, startE, rf0, sSeq, sNil, sPass, sEx, sRt, sRtN, sIf, sSet, sSetO, sPar, sAug, sSub, sAsg, sFz, sFor, mOp, evA, evP, fill, evS, mTup, mLst, mV, mK, mT, mNot, mAnd, mOr, mAndV, mOrV, mNotV, mIf, mChain, mCall, mCallL, mCallR, mIsi, mIt, iAny, mSl, evO, mGet, mOwn, PV.val, ownV, setV, free, bindT, bindTs, wipeE, backE, R.bind, R.bs, Rs.bind, Oe.ev, Oe.sl, tYs, isLst, List.map_cons, List.map_nil, List.length_cons, List.length_nil, List.replicate, List.cons_append, List.nil_append, List.append_nil, List.getElem?_cons_zero, List.getElem?_cons_succ, List.getElem?_nil, List.set_cons_zero, List.set_cons_succ, Option.some.injEq, if_true, if_false, Bool.false_eq_true, Nat.sub_self, Nat.reduceSub, Nat.reduceAdd, Nat.reduceLT, reduceCtorEq, ite_true, ite_false, Bool.not_true, Bool.not_false, Option.bind_some, Option.map_some, ne_eq, not_false_eq_true, and_self, and_true, true_and, Nat.succ_ne_self, List.contains_cons, List.contains_nil, String.reduceBEq, Bool.or_true, Bool.true_or, Bool.or_false, Bool.false_or, Bool.and_true, Bool.and_false, Bool.false_and, Bool.true_and, beq_self_eq_true, subN, tyN, PV.imm, Nat.reduceEqDiff, startE, hk1, e1, k__law_right_3, k__law_right_4]; rfl)) ?_
  refine re_step (by (simp only [runD, runF, runR, runRF, startE, rf0, sSeq, sNil, sPass, sEx, sRt, sRtN, sIf, sSet, sSetO, sPar, sAug, sSub, sAsg, sFz, sFor, mOp, evA, evP, fill, evS, mTup, mLst, mV, mK, mT, mNot, mAnd, mOr, mAndV, mOrV, mNotV, mIf, mChain, mCall, mCallL, mCallR, mIsi, mIt, iAny, mSl, evO, mGet, mOwn, PV.val, ownV, setV, free, bindT, bindTs, wipeE, backE, R.bind, R.bs, Rs.bind, Oe.ev, Oe.sl, tYs, isLst, List.map_cons, List.map_nil, List.length_cons, List.length_nil, List.replicate, List.cons_append, List.nil_append, List.append_nil, List.getElem?_cons_zero, List.getElem?_cons_succ, List.getElem?_nil, List.set_cons_zero, List.set_cons_succ, Option.some.injEq, if_true, if_false, Bool.false_eq_true, Nat.sub_self, Nat.reduceSub, Nat.reduceAdd, Nat.reduceLT, reduceCtorEq, ite_true, ite_false, Bool.not_true, Bool.not_false, Option.bind_some, Option.map_some, ne_eq, not_false_eq_true, and_self, and_true, true_and, Nat.succ_ne_self, List.contains_cons, List.contains_nil, String.reduceBEq, Bool.or_true, Bool.true_or, Bool.or_false, Bool.false_or, Bool.and_true, Bool.and_false, Bool.false_and, Bool.true_and, beq_self_eq_true, subN, tyN, PV.imm, Nat.reduceEqDiff, startE, hk2, e2, k__law_right_3, k__law_right_4]; rfl)) ?_
  refine re_step (by (simp only [runD, runF, runR, runRF, startE, rf0, sSeq, sNil, sPass, sEx, sRt, sRtN, sIf, sSet, sSetO, sPar, sAug, sSub, sAsg, sFz, sFor, mOp, evA, evP, fill, evS, mTup, mLst, mV, mK, mT, mNot, mAnd, mOr, mAndV, mOrV, mNotV, mIf, mChain, mCall, mCallL, mCallR, mIsi, mIt, iAny, mSl, evO, mGet, mOwn, PV.val, ownV, setV, free, bindT, bindTs, wipeE, backE, R.bind, R.bs, Rs.bind, Oe.ev, Oe.sl, tYs, isLst, List.map_cons, List.map_nil, List.length_cons, List.length_nil, List.replicate, List.cons_append, List.nil_append, List.append_nil, List.getElem?_cons_zero, List.getElem?_cons_succ, List.getElem?_nil, List.set_cons_zero, List.set_cons_succ, Option.some.injEq, if_true, if_false, Bool.false_eq_true, Nat.sub_self, Nat.reduceSub, Nat.reduceAdd, Nat.reduceLT, reduceCtorEq, ite_true, ite_false, Bool.not_true, Bool.not_false, Option.bind_some, Option.map_some, ne_eq, not_false_eq_true, and_self, and_true, true_and, Nat.succ_ne_self, List.contains_cons, List.contains_nil, String.reduceBEq, Bool.or_true, Bool.true_or, Bool.or_false, Bool.false_or, Bool.and_true, Bool.and_false, Bool.false_and, Bool.true_and, beq_self_eq_true, subN, tyN, PV.imm, Nat.reduceEqDiff, startE, ho_wrong, k__law_right_3, k__law_right_4]; rfl)) ?_
  refine re_step (by (simp only [runD, runF, runR, runRF, startE, rf0, sSeq, sNil, sPass, sEx, sRt, sRtN, sIf, sSet, sSetO, sPar, sAug, sSub, sAsg, sFz, sFor, mOp, evA, evP, fill, evS, mTup, mLst, mV, mK, mT, mNot, mAnd, mOr, mAndV, mOrV, mNotV, mIf, mChain, mCall, mCallL, mCallR, mIsi, mIt, iAny, mSl, evO, mGet, mOwn, PV.val, ownV, setV, free, bindT, bindTs, wipeE, backE, R.bind, R.bs, Rs.bind, Oe.ev, Oe.sl, tYs, isLst, List.map_cons, List.map_nil, List.length_cons, List.length_nil, List.replicate, List.cons_append, List.nil_append, List.append_nil, List.getElem?_cons_zero, List.getElem?_cons_succ, List.getElem?_nil, List.set_cons_zero, List.set_cons_succ, Option.some.injEq, if_true, if_false, Bool.false_eq_true, Nat.sub_self, Nat.reduceSub, Nat.reduceAdd, Nat.reduceLT, reduceCtorEq, ite_true, ite_false, Bool.not_true, Bool.not_false, Option.bind_some, Option.map_some, ne_eq, not_false_eq_true, and_self, and_true, true_and, Nat.succ_ne_self, List.contains_cons, List.contains_nil, String.reduceBEq, Bool.or_true, Bool.true_or, Bool.or_false, Bool.false_or, Bool.and_true, Bool.and_false, Bool.false_and, Bool.true_and, beq_self_eq_true, subN, tyN, PV.imm, Nat.reduceEqDiff, startE, hk3, e3, k__law_right_3, k__law_right_4]; rfl)) ?_
  refine re_step (by (simp only [runD, runF, runR, runRF, startE, rf0, sSeq, sNil, sPass, sEx, sRt, sRtN, sIf, sSet, sSetO, sPar, sAug, sSub, sAsg, sFz, sFor, mOp, evA, evP, fill, evS, mTup, mLst, mV, mK, mT, mNot, mAnd, mOr, mAndV, mOrV, mNotV, mIf, mChain, mCall, mCallL, mCallR, mIsi, mIt, iAny, mSl, evO, mGet, mOwn, PV.val, ownV, setV, free, bindT, bindTs, wipeE, backE, R.bind, R.bs, Rs.bind, Oe.ev, Oe.sl, tYs, isLst, List.map_cons, List.map_nil, List.length_cons, List.length_nil, List.replicate, List.cons_append, List.nil_append, List.append_nil, List.getElem?_cons_zero, List.getElem?_cons_succ, List.getElem?_nil, List.set_cons_zero, List.set_cons_succ, Option.some.injEq, if_true, if_false, Bool.false_eq_true, Nat.sub_self, Nat.reduceSub, Nat.reduceAdd, Nat.reduceLT, reduceCtorEq, ite_true, ite_false, Bool.not_true, Bool.not_false, Option.bind_some, Option.map_some, ne_eq, not_false_eq_true, and_self, and_true, true_and, Nat.succ_ne_self, List.contains_cons, List.contains_nil, String.reduceBEq, Bool.or_true, Bool.true_or, Bool.or_false, Bool.false_or, Bool.and_true, Bool.and_false, Bool.false_and, Bool.true_and, beq_self_eq_true, subN, tyN, PV.imm, Nat.reduceEqDiff, startE, oAdd_ll, oCat_ll, oMul, Nat.reduceLeDiff, k__law_right_3, k__law_right_4]; rfl)) ?_
  refine re_step (for_start (by (simp only [runD, runF, runR, runRF, startE, rf0, sSeq, sNil, sPass, sEx, sRt, sRtN, sIf, sSet, sSetO, sPar, sAug, sSub, sAsg, sFz, sFor, mOp, evA, evP, fill, evS, mTup, mLst, mV, mK, mT, mNot, mAnd, mOr, mAndV, mOrV, mNotV, mIf, mChain, mCall, mCallL, mCallR, mIsi, mIt, iAny, mSl, evO, mGet, mOwn, PV.val, ownV, setV, free, bindT, bindTs, wipeE, backE, R.bind, R.bs, Rs.bind, Oe.ev, Oe.sl, tYs, isLst, List.map_cons, List.map_nil, List.length_cons, List.length_nil, List.replicate, List.cons_append, List.nil_append, List.append_nil, List.getElem?_cons_zero, List.getElem?_cons_succ, List.getElem?_nil, List.set_cons_zero, List.set_cons_succ, Option.some.injEq, if_true, if_false, Bool.false_eq_true, Nat.sub_self, Nat.reduceSub, Nat.reduceAdd, Nat.reduceLT, reduceCtorEq, ite_true, ite_false, Bool.not_true, Bool.not_false, Option.bind_some, Option.map_some, ne_eq, not_false_eq_true, and_self, and_true, true_and, Nat.succ_ne_self, List.contains_cons, List.contains_nil, String.reduceBEq, Bool.or_true, Bool.true_or, Bool.or_false, Bool.false_or, Bool.and_true, Bool.and_false, Bool.false_and, Bool.true_and, beq_self_eq_true, subN, tyN, PV.imm, Nat.reduceEqDiff, itD, seqD, k__law_right_3, k__law_right_4]; rfl)) (for_cons (by rfl) (nx_seq (by (simp only [runD, runF, runR, runRF, startE, rf0, sSeq, sNil, sPass, sEx, sRt, sRtN, sIf, sSet, sSetO, sPar, sAug, sSub, sAsg, sFz, sFor, mOp, evA, evP, fill, evS, mTup, mLst, mV, mK, mT, mNot, mAnd, mOr, mAndV, mOrV, mNotV, mIf, mChain, mCall, mCallL, mCallR, mIsi, mIt, iAny, mSl, evO, mGet, mOwn, PV.val, ownV, setV, free, bindT, bindTs, wipeE, backE, R.bind, R.bs, Rs.bind, Oe.ev, Oe.sl, tYs, isLst, List.map_cons, List.map_nil, List.length_cons, List.length_nil, List.replicate, List.cons_append, List.nil_append, List.append_nil, List.getElem?_cons_zero, List.getElem?_cons_succ, List.getElem?_nil, List.set_cons_zero, List.set_cons_succ, Option.some.injEq, if_true, if_false, Bool.false_eq_true, Nat.sub_self, Nat.reduceSub, Nat.reduceAdd, Nat.reduceLT, reduceCtorEq, ite_true, ite_false, Bool.not_true, Bool.not_false, Option.bind_some, Option.map_some, ne_eq, not_false_eq_true, and_self, and_true, true_and, Nat.succ_ne_self, List.contains_cons, List.contains_nil, String.reduceBEq, Bool.or_true, Bool.true_or, Bool.or_false, Bool.false_or, Bool.and_true, Bool.and_false, Bool.false_and, Bool.true_and, beq_self_eq_true, subN, tyN, PV.imm, Nat.reduceEqDiff, mMet_call, mMet_callV, fnD, metE_eq, kAppend, lim, look_parts, H0 x0 h0, k__law_right_3, k__law_right_4]; rfl)) (by (simp only [runD, runF, runR, runRF, startE, rf0, sSeq, sNil, sPass, sEx, sRt, sRtN, sIf, sSet, sSetO, sPar, sAug, sSub, sAsg, sFz, sFor, mOp, evA, evP, fill, evS, mTup, mLst, mV, mK, mT, mNot, mAnd, mOr, mAndV, mOrV, mNotV, mIf, mChain, mCall, mCallL, mCallR, mIsi, mIt, iAny, mSl, evO, mGet, mOwn, PV.val, ownV, setV, free, bindT, bindTs, wipeE, backE, R.bind, R.bs, Rs.bind, Oe.ev, Oe.sl, tYs, isLst, List.map_cons, List.map_nil, List.length_cons, List.length_nil, List.replicate, List.cons_append, List.nil_append, List.append_nil, List.getElem?_cons_zero, List.getElem?_cons_succ, List.getElem?_nil, List.set_cons_zero, List.set_cons_succ, Option.some.injEq, if_true, if_false, Bool.false_eq_true, Nat.sub_self, Nat.reduceSub, Nat.reduceAdd, Nat.reduceLT, reduceCtorEq, ite_true, ite_false, Bool.not_true, Bool.not_false, Option.bind_some, Option.map_some, ne_eq, not_false_eq_true, and_self, and_true, true_and, Nat.succ_ne_self, List.contains_cons, List.contains_nil, String.reduceBEq, Bool.or_true, Bool.true_or, Bool.or_false, Bool.false_or, Bool.and_true, Bool.and_false, Bool.false_and, Bool.true_and, beq_self_eq_true, subN, tyN, PV.imm, Nat.reduceEqDiff, kAppend, lim, Nat.reduceLeDiff, k__law_right_3, k__law_right_4]; rfl))) (for_cons (by rfl) (nx_seq (by (simp only [runD, runF, runR, runRF, startE, rf0, sSeq, sNil, sPass, sEx, sRt, sRtN, sIf, sSet, sSetO, sPar, sAug, sSub, sAsg, sFz, sFor, mOp, evA, evP, fill, evS, mTup, mLst, mV, mK, mT, mNot, mAnd, mOr, mAndV, mOrV, mNotV, mIf, mChain, mCall, mCallL, mCallR, mIsi, mIt, iAny, mSl, evO, mGet, mOwn, PV.val, ownV, setV, free, bindT, bindTs, wipeE, backE, R.bind, R.bs, Rs.bind, Oe.ev, Oe.sl, tYs, isLst, List.map_cons, List.map_nil, List.length_cons, List.length_nil, List.replicate, List.cons_append, List.nil_append, List.append_nil, List.getElem?_cons_zero, List.getElem?_cons_succ, List.getElem?_nil, List.set_cons_zero, List.set_cons_succ, Option.some.injEq, if_true, if_false, Bool.false_eq_true, Nat.sub_self, Nat.reduceSub, Nat.reduceAdd, Nat.reduceLT, reduceCtorEq, ite_true, ite_false, Bool.not_true, Bool.not_false, Option.bind_some, Option.map_some, ne_eq, not_false_eq_true, and_self, and_true, true_and, Nat.succ_ne_self, List.contains_cons, List.contains_nil, String.reduceBEq, Bool.or_true, Bool.true_or, Bool.or_false, Bool.false_or, Bool.and_true, Bool.and_false, Bool.false_and, Bool.true_and, beq_self_eq_true, subN, tyN, PV.imm, Nat.reduceEqDiff, mMet_call, mMet_callV, fnD, metE_eq, kAppend, lim, look_does_hang, H1 x0 h0, k__law_right_3, k__law_right_4]; rfl)) (by (simp only [runD, runF, runR, runRF, startE, rf0, sSeq, sNil, sPass, sEx, sRt, sRtN, sIf, sSet, sSetO, sPar, sAug, sSub, sAsg, sFz, sFor, mOp, evA, evP, fill, evS, mTup, mLst, mV, mK, mT, mNot, mAnd, mOr, mAndV, mOrV, mNotV, mIf, mChain, mCall, mCallL, mCallR, mIsi, mIt, iAny, mSl, evO, mGet, mOwn, PV.val, ownV, setV, free, bindT, bindTs, wipeE, backE, R.bind, R.bs, Rs.bind, Oe.ev, Oe.sl, tYs, isLst, List.map_cons, List.map_nil, List.length_cons, List.length_nil, List.replicate, List.cons_append, List.nil_append, List.append_nil, List.getElem?_cons_zero, List.getElem?_cons_succ, List.getElem?_nil, List.set_cons_zero, List.set_cons_succ, Option.some.injEq, if_true, if_false, Bool.false_eq_true, Nat.sub_self, Nat.reduceSub, Nat.reduceAdd, Nat.reduceLT, reduceCtorEq, ite_true, ite_false, Bool.not_true, Bool.not_false, Option.bind_some, Option.map_some, ne_eq, not_false_eq_true, and_self, and_true, true_and, Nat.succ_ne_self, List.contains_cons, List.contains_nil, String.reduceBEq, Bool.or_true, Bool.true_or, Bool.or_false, Bool.false_or, Bool.and_true, Bool.and_false, Bool.false_and, Bool.true_and, beq_self_eq_true, subN, tyN, PV.imm, Nat.reduceEqDiff, kAppend, lim, Nat.reduceLeDiff, k__law_right_3, k__law_right_4]; rfl))) (for_cons (by rfl) (nx_seq (by (simp only [runD, runF, runR, runRF, startE, rf0, sSeq, sNil, sPass, sEx, sRt, sRtN, sIf, sSet, sSetO, sPar, sAug, sSub, sAsg, sFz, sFor, mOp, evA, evP, fill, evS, mTup, mLst, mV, mK, mT, mNot, mAnd, mOr, mAndV, mOrV, mNotV, mIf, mChain, mCall, mCallL, mCallR, mIsi, mIt, iAny, mSl, evO, mGet, mOwn, PV.val, ownV, setV, free, bindT, bindTs, wipeE, backE, R.bind, R.bs, Rs.bind, Oe.ev, Oe.sl, tYs, isLst, List.map_cons, List.map_nil, List.length_cons, List.length_nil, List.replicate, List.cons_append, List.nil_append, List.append_nil, List.getElem?_cons_zero, List.getElem?_cons_succ, List.getElem?_nil, List.set_cons_zero, List.set_cons_succ, Option.some.injEq, if_true, if_false, Bool.false_eq_true, Nat.sub_self, Nat.reduceSub, Nat.reduceAdd, Nat.reduceLT, reduceCtorEq, ite_true, ite_false, Bool.not_true, Bool.not_false, Option.bind_some, Option.map_some, ne_eq, not_false_eq_true, and_self, and_true, true_and, Nat.succ_ne_self, List.contains_cons, List.contains_nil, String.reduceBEq, Bool.or_true, Bool.true_or, Bool.or_false, Bool.false_or, Bool.and_true, Bool.and_false, Bool.false_and, Bool.true_and, beq_self_eq_true, subN, tyN, PV.imm, Nat.reduceEqDiff, mMet_call, mMet_callV, fnD, metE_eq, kAppend, lim, look_lam_law_right_0, H2 x0 h0, k__law_right_3, k__law_right_4]; rfl)) (by (simp only [runD, runF, runR, runRF, startE, rf0, sSeq, sNil, sPass, sEx, sRt, sRtN, sIf, sSet, sSetO, sPar, sAug, sSub, sAsg, sFz, sFor, mOp, evA, evP, fill, evS, mTup, mLst, mV, mK, mT, mNot, mAnd, mOr, mAndV, mOrV, mNotV, mIf, mChain, mCall, mCallL, mCallR, mIsi, mIt, iAny, mSl, evO, mGet, mOwn, PV.val, ownV, setV, free, bindT, bindTs, wipeE, backE, R.bind, R.bs, Rs.bind, Oe.ev, Oe.sl, tYs, isLst, List.map_cons, List.map_nil, List.length_cons, List.length_nil, List.replicate, List.cons_append, List.nil_append, List.append_nil, List.getElem?_cons_zero, List.getElem?_cons_succ, List.getElem?_nil, List.set_cons_zero, List.set_cons_succ, Option.some.injEq, if_true, if_false, Bool.false_eq_true, Nat.sub_self, Nat.reduceSub, Nat.reduceAdd, Nat.reduceLT, reduceCtorEq, ite_true, ite_false, Bool.not_true, Bool.not_false, Option.bind_some, Option.map_some, ne_eq, not_false_eq_true, and_self, and_true, true_and, Nat.succ_ne_self, List.contains_cons, List.contains_nil, String.reduceBEq, Bool.or_true, Bool.true_or, Bool.or_false, Bool.false_or, Bool.and_true, Bool.and_false, Bool.false_and, Bool.true_and, beq_self_eq_true, subN, tyN, PV.imm, Nat.reduceEqDiff, kAppend, lim, Nat.reduceLeDiff, k__law_right_3, k__law_right_4]; rfl))) for_nil)))) ?_
  refine re_step (by (simp only [runD, runF, runR, runRF, startE, rf0, sSeq, sNil, sPass, sEx, sRt, sRtN, sIf, sSet, sSetO, sPar, sAug, sSub, sAsg, sFz, sFor, mOp, evA, evP, fill, evS, mTup, mLst, mV, mK, mT, mNot, mAnd, mOr, mAndV, mOrV, mNotV, mIf, mChain, mCall, mCallL, mCallR, mIsi, mIt, iAny, mSl, evO, mGet, mOwn, PV.val, ownV, setV, free, bindT, bindTs, wipeE, backE, R.bind, R.bs, Rs.bind, Oe.ev, Oe.sl, tYs, isLst, List.map_cons, List.map_nil, List.length_cons, List.length_nil, List.replicate, List.cons_append, List.nil_append, List.append_nil, List.getElem?_cons_zero, List.getElem?_cons_succ, List.getElem?_nil, List.set_cons_zero, List.set_cons_succ, Option.some.injEq, if_true, if_false, Bool.false_eq_true, Nat.sub_self, Nat.reduceSub, Nat.reduceAdd, Nat.reduceLT, reduceCtorEq, ite_true, ite_false, Bool.not_true, Bool.not_false, Option.bind_some, Option.map_some, ne_eq, not_false_eq_true, and_self, and_true, true_and, Nat.succ_ne_self, List.contains_cons, List.contains_nil, String.reduceBEq, Bool.or_true, Bool.true_or, Bool.or_false, Bool.false_or, Bool.and_true, Bool.and_false, Bool.false_and, Bool.true_and, beq_self_eq_true, subN, tyN, PV.imm, Nat.reduceEqDiff, mMet_call, mMet_callV, fnD, metE_eq, kAppend, lim, H3 x0 h0 x2 h2, k__law_right_3, k__law_right_4]; rfl)) ?_
  refine re_step (by (simp only [runD, runF, runR, runRF, startE, rf0, sSeq, sNil, sPass, sEx, sRt, sRtN, sIf, sSet, sSetO, sPar, sAug, sSub, sAsg, sFz, sFor, mOp, evA, evP, fill, evS, mTup, mLst, mV, mK, mT, mNot, mAnd, mOr, mAndV, mOrV, mNotV, mIf, mChain, mCall, mCallL, mCallR, mIsi, mIt, iAny, mSl, evO, mGet, mOwn, PV.val, ownV, setV, free, bindT, bindTs, wipeE, backE, R.bind, R.bs, Rs.bind, Oe.ev, Oe.sl, tYs, isLst, List.map_cons, List.map_nil, List.length_cons, List.length_nil, List.replicate, List.cons_append, List.nil_append, List.append_nil, List.getElem?_cons_zero, List.getElem?_cons_succ, List.getElem?_nil, List.set_cons_zero, List.set_cons_succ, Option.some.injEq, if_true, if_false, Bool.false_eq_true, Nat.sub_self, Nat.reduceSub, Nat.reduceAdd, Nat.reduceLT, reduceCtorEq, ite_true, ite_false, Bool.not_true, Bool.not_false, Option.bind_some, Option.map_some, ne_eq, not_false_eq_true, and_self, and_true, true_and, Nat.succ_ne_self, List.contains_cons, List.contains_nil, String.reduceBEq, Bool.or_true, Bool.true_or, Bool.or_false, Bool.false_or, Bool.and_true, Bool.and_false, Bool.false_and, Bool.true_and, beq_self_eq_true, subN, tyN, PV.imm, Nat.reduceEqDiff, mMet_call, mMet_callV, fnD, metE_eq, kAppend, lim, H4 x2 h2, k__law_right_3, k__law_right_4]; rfl)) ?_
  refine re_step (by (simp only [runD, runF, runR, runRF, startE, rf0, sSeq, sNil, sPass, sEx, sRt, sRtN, sIf, sSet, sSetO, sPar, sAug, sSub, sAsg, sFz, sFor, mOp, evA, evP, fill, evS, mTup, mLst, mV, mK, mT, mNot, mAnd, mOr, mAndV, mOrV, mNotV, mIf, mChain, mCall, mCallL, mCallR, mIsi, mIt, iAny, mSl, evO, mGet, mOwn, PV.val, ownV, setV, free, bindT, bindTs, wipeE, backE, R.bind, R.bs, Rs.bind, Oe.ev, Oe.sl, tYs, isLst, List.map_cons, List.map_nil, List.length_cons, List.length_nil, List.replicate, List.cons_append, List.nil_append, List.append_nil, List.getElem?_cons_zero, List.getElem?_cons_succ, List.getElem?_nil, List.set_cons_zero, List.set_cons_succ, Option.some.injEq, if_true, if_false, Bool.false_eq_true, Nat.sub_self, Nat.reduceSub, Nat.reduceAdd, Nat.reduceLT, reduceCtorEq, ite_true, ite_false, Bool.not_true, Bool.not_false, Option.bind_some, Option.map_some, ne_eq, not_false_eq_true, and_self, and_true, true_and, Nat.succ_ne_self, List.contains_cons, List.contains_nil, String.reduceBEq, Bool.or_true, Bool.true_or, Bool.or_false, Bool.false_or, Bool.and_true, Bool.and_false, Bool.false_and, Bool.true_and, beq_self_eq_true, subN, tyN, PV.imm, Nat.reduceEqDiff, mMet_call, mMet_callV, fnD, metE_eq, kAppend, lim, H5 x0 h0, k__law_right_3, k__law_right_4]; rfl)) ?_
  refine re_step (by (simp only [runD, runF, runR, runRF, startE, rf0, sSeq, sNil, sPass, sEx, sRt, sRtN, sIf, sSet, sSetO, sPar, sAug, sSub, sAsg, sFz, sFor, mOp, evA, evP, fill, evS, mTup, mLst, mV, mK, mT, mNot, mAnd, mOr, mAndV, mOrV, mNotV, mIf, mChain, mCall, mCallL, mCallR, mIsi, mIt, iAny, mSl, evO, mGet, mOwn, PV.val, ownV, setV, free, bindT, bindTs, wipeE, backE, R.bind, R.bs, Rs.bind, Oe.ev, Oe.sl, tYs, isLst, List.map_cons, List.map_nil, List.length_cons, List.length_nil, List.replicate, List.cons_append, List.nil_append, List.append_nil, List.getElem?_cons_zero, List.getElem?_cons_succ, List.getElem?_nil, List.set_cons_zero, List.set_cons_succ, Option.some.injEq, if_true, if_false, Bool.false_eq_true, Nat.sub_self, Nat.reduceSub, Nat.reduceAdd, Nat.reduceLT, reduceCtorEq, ite_true, ite_false, Bool.not_true, Bool.not_false, Option.bind_some, Option.map_some, ne_eq, not_false_eq_true, and_self, and_true, true_and, Nat.succ_ne_self, List.contains_cons, List.contains_nil, String.reduceBEq, Bool.or_true, Bool.true_or, Bool.or_false, Bool.false_or, Bool.and_true, Bool.and_false, Bool.false_and, Bool.true_and, beq_self_eq_true, subN, tyN, PV.imm, Nat.reduceEqDiff, mMet_call, mMet_callV, fnD, metE_eq, kAppend, lim, H6 x0 h0, k__law_right_3, k__law_right_4]; rfl)) ?_
  refine re_step (by (simp only [runD, runF, runR, runRF, startE, rf0, sSeq, sNil, sPass, sEx, sRt, sRtN, sIf, sSet, sSetO, sPar, sAug, sSub, sAsg, sFz, sFor, mOp, evA, evP, fill, evS, mTup, mLst, mV, mK, mT, mNot, mAnd, mOr, mAndV, mOrV, mNotV, mIf, mChain, mCall, mCallL, mCallR, mIsi, mIt, iAny, mSl, evO, mGet, mOwn, PV.val, ownV, setV, free, bindT, bindTs, wipeE, backE, R.bind, R.bs, Rs.bind, Oe.ev, Oe.sl, tYs, isLst, List.map_cons, List.map_nil, List.length_cons, List.length_nil, List.replicate, List.cons_append, List.nil_append, List.append_nil, List.getElem?_cons_zero, List.getElem?_cons_succ, List.getElem?_nil, List.set_cons_zero, List.set_cons_succ, Option.some.injEq, if_true, if_false, Bool.false_eq_true, Nat.sub_self, Nat.reduceSub, Nat.reduceAdd, Nat.reduceLT, reduceCtorEq, ite_true, ite_false, Bool.not_true, Bool.not_false, Option.bind_some, Option.map_some, ne_eq, not_false_eq_true, and_self, and_true, true_and, Nat.succ_ne_self, List.contains_cons, List.contains_nil, String.reduceBEq, Bool.or_true, Bool.true_or, Bool.or_false, Bool.false_or, Bool.and_true, Bool.and_false, Bool.false_and, Bool.true_and, beq_self_eq_true, subN, tyN, PV.imm, Nat.reduceEqDiff, mMet_call, mMet_callV, fnD, metE_eq, kAppend, lim, H7, k__law_right_3, k__law_right_4]; rfl)) ?_
  refine re_step (by (simp only [runD, runF, runR, runRF, startE, rf0, sSeq, sNil, sPass, sEx, sRt, sRtN, sIf, sSet, sSetO, sPar, sAug, sSub, sAsg, sFz, sFor, mOp, evA, evP, fill, evS, mTup, mLst, mV, mK, mT, mNot, mAnd, mOr, mAndV, mOrV, mNotV, mIf, mChain, mCall, mCallL, mCallR, mIsi, mIt, iAny, mSl, evO, mGet, mOwn, PV.val, ownV, setV, free, bindT, bindTs, wipeE, backE, R.bind, R.bs, Rs.bind, Oe.ev, Oe.sl, tYs, isLst, List.map_cons, List.map_nil, List.length_cons, List.length_nil, List.replicate, List.cons_append, List.nil_append, List.append_nil, List.getElem?_cons_zero, List.getElem?_cons_succ, List.getElem?_nil, List.set_cons_zero, List.set_cons_succ, Option.some.injEq, if_true, if_false, Bool.false_eq_true, Nat.sub_self, Nat.reduceSub, Nat.reduceAdd, Nat.reduceLT, reduceCtorEq, ite_true, ite_false, Bool.not_true, Bool.not_false, Option.bind_some, Option.map_some, ne_eq, not_false_eq_true, and_self, and_true, true_and, Nat.succ_ne_self, List.contains_cons, List.contains_nil, String.reduceBEq, Bool.or_true, Bool.true_or, Bool.or_false, Bool.false_or, Bool.and_true, Bool.and_false, Bool.false_and, Bool.true_and, beq_self_eq_true, subN, tyN, PV.imm, Nat.reduceEqDiff, startE, oAdd_ll, oCat_ll, oMul, Nat.reduceLeDiff, rp0 x2 h2, wd0 x2 h2, k__law_right_3, k__law_right_4]; rfl)) ?_
  refine re_step (by (simp only [runD, runF, runR, runRF, startE, rf0, sSeq, sNil, sPass, sEx, sRt, sRtN, sIf, sSet, sSetO, sPar, sAug, sSub, sAsg, sFz, sFor, mOp, evA, evP, fill, evS, mTup, mLst, mV, mK, mT, mNot, mAnd, mOr, mAndV, mOrV, mNotV, mIf, mChain, mCall, mCallL, mCallR, mIsi, mIt, iAny, mSl, evO, mGet, mOwn, PV.val, ownV, setV, free, bindT, bindTs, wipeE, backE, R.bind, R.bs, Rs.bind, Oe.ev, Oe.sl, tYs, isLst, List.map_cons, List.map_nil, List.length_cons, List.length_nil, List.replicate, List.cons_append, List.nil_append, List.append_nil, List.getElem?_cons_zero, List.getElem?_cons_succ, List.getElem?_nil, List.set_cons_zero, List.set_cons_succ, Option.some.injEq, if_true, if_false, Bool.false_eq_true, Nat.sub_self, Nat.reduceSub, Nat.reduceAdd, Nat.reduceLT, reduceCtorEq, ite_true, ite_false, Bool.not_true, Bool.not_false, Option.bind_some, Option.map_some, ne_eq, not_false_eq_true, and_self, and_true, true_and, Nat.succ_ne_self, List.contains_cons, List.contains_nil, String.reduceBEq, Bool.or_true, Bool.true_or, Bool.or_false, Bool.false_or, Bool.and_true, Bool.and_false, Bool.false_and, Bool.true_and, beq_self_eq_true, subN, tyN, PV.imm, Nat.reduceEqDiff, mMet_call, mMet_callV, fnD, metE_eq, kAppend, lim, H8 x0 h0 x1 h1, k__law_right_3, k__law_right_4]; rfl)) ?_
  refine re_step (by (simp only [runD, runF, runR, runRF, startE, rf0, sSeq, sNil, sPass, sEx, sRt, sRtN, sIf, sSet, sSetO, sPar, sAug, sSub, sAsg, sFz, sFor, mOp, evA, evP, fill, evS, mTup, mLst, mV, mK, mT, mNot, mAnd, mOr, mAndV, mOrV, mNotV, mIf, mChain, mCall, mCallL, mCallR, mIsi, mIt, iAny, mSl, evO, mGet, mOwn, PV.val, ownV, setV, free, bindT, bindTs, wipeE, backE, R.bind, R.bs, Rs.bind, Oe.ev, Oe.sl, tYs, isLst, List.map_cons, List.map_nil, List.length_cons, List.length_nil, List.replicate, List.cons_append, List.nil_append, List.append_nil, List.getElem?_cons_zero, List.getElem?_cons_succ, List.getElem?_nil, List.set_cons_zero, List.set_cons_succ, Option.some.injEq, if_true, if_false, Bool.false_eq_true, Nat.sub_self, Nat.reduceSub, Nat.reduceAdd, Nat.reduceLT, reduceCtorEq, ite_true, ite_false, Bool.not_true, Bool.not_false, Option.bind_some, Option.map_some, ne_eq, not_false_eq_true, and_self, and_true, true_and, Nat.succ_ne_self, List.contains_cons, List.contains_nil, String.reduceBEq, Bool.or_true, Bool.true_or, Bool.or_false, Bool.false_or, Bool.and_true, Bool.and_false, Bool.false_and, Bool.true_and, beq_self_eq_true, subN, tyN, PV.imm, Nat.reduceEqDiff, mMet_call, mMet_callV, fnD, metE_eq, kAppend, lim, H9 x0 h0 x1 h1, k__law_right_3, k__law_right_4]; rfl)) ?_
  refine re_step (by (simp only [runD, runF, runR, runRF, startE, rf0, sSeq, sNil, sPass, sEx, sRt, sRtN, sIf, sSet, sSetO, sPar, sAug, sSub, sAsg, sFz, sFor, mOp, evA, evP, fill, evS, mTup, mLst, mV, mK, mT, mNot, mAnd, mOr, mAndV, mOrV, mNotV, mIf, mChain, mCall, mCallL, mCallR, mIsi, mIt, iAny, mSl, evO, mGet, mOwn, PV.val, ownV, setV, free, bindT, bindTs, wipeE, backE, R.bind, R.bs, Rs.bind, Oe.ev, Oe.sl, tYs, isLst, List.map_cons, List.map_nil, List.length_cons, List.length_nil, List.replicate, List.cons_append, List.nil_append, List.append_nil, List.getElem?_cons_zero, List.getElem?_cons_succ, List.getElem?_nil, List.set_cons_zero, List.set_cons_succ, Option.some.injEq, if_true, if_false, Bool.false_eq_true, Nat.sub_self, Nat.reduceSub, Nat.reduceAdd, Nat.reduceLT, reduceCtorEq, ite_true, ite_false, Bool.not_true, Bool.not_false, Option.bind_some, Option.map_some, ne_eq, not_false_eq_true, and_self, and_true, true_and, Nat.succ_ne_self, List.contains_cons, List.contains_nil, String.reduceBEq, Bool.or_true, Bool.true_or, Bool.or_false, Bool.false_or, Bool.and_true, Bool.and_false, Bool.false_and, Bool.true_and, beq_self_eq_true, subN, tyN, PV.imm, Nat.reduceEqDiff, mMet_call, mMet_callV, fnD, metE_eq, kAppend, lim, H10 x0 h0 x1 h1, k__law_right_3, k__law_right_4]; rfl)) ?_
  refine re_step (by (simp only [runD, runF, runR, runRF, startE, rf0, sSeq, sNil, sPass, sEx, sRt, sRtN, sIf, sSet, sSetO, sPar, sAug, sSub, sAsg, sFz, sFor, mOp, evA, evP, fill, evS, mTup, mLst, mV, mK, mT, mNot, mAnd, mOr, mAndV, mOrV, mNotV, mIf, mChain, mCall, mCallL, mCallR, mIsi, mIt, iAny, mSl, evO, mGet, mOwn, PV.val, ownV, setV, free, bindT, bindTs, wipeE, backE, R.bind, R.bs, Rs.bind, Oe.ev, Oe.sl, tYs, isLst, List.map_cons, List.map_nil, List.length_cons, List.length_nil, List.replicate, List.cons_append, List.nil_append, List.append_nil, List.getElem?_cons_zero, List.getElem?_cons_succ, List.getElem?_nil, List.set_cons_zero, List.set_cons_succ, Option.some.injEq, if_true, if_false, Bool.false_eq_true, Nat.sub_self, Nat.reduceSub, Nat.reduceAdd, Nat.reduceLT, reduceCtorEq, ite_true, ite_false, Bool.not_true, Bool.not_false, Option.bind_some, Option.map_some, ne_eq, not_false_eq_true, and_self, and_true, true_and, Nat.succ_ne_self, List.contains_cons, List.contains_nil, String.reduceBEq, Bool.or_true, Bool.true_or, Bool.or_false, Bool.false_or, Bool.and_true, Bool.and_false, Bool.false_and, Bool.true_and, beq_self_eq_true, subN, tyN, PV.imm, Nat.reduceEqDiff, mMet_call, mMet_callV, fnD, metE_eq, kAppend, lim, H11 x1 h1, k__law_right_3, k__law_right_4]; rfl)) ?_
  refine re_step (by (simp only [runD, runF, runR, runRF, startE, rf0, sSeq, sNil, sPass, sEx, sRt, sRtN, sIf, sSet, sSetO, sPar, sAug, sSub, sAsg, sFz, sFor, mOp, evA, evP, fill, evS, mTup, mLst, mV, mK, mT, mNot, mAnd, mOr, mAndV, mOrV, mNotV, mIf, mChain, mCall, mCallL, mCallR, mIsi, mIt, iAny, mSl, evO, mGet, mOwn, PV.val, ownV, setV, free, bindT, bindTs, wipeE, backE, R.bind, R.bs, Rs.bind, Oe.ev, Oe.sl, tYs, isLst, List.map_cons, List.map_nil, List.length_cons, List.length_nil, List.replicate, List.cons_append, List.nil_append, List.append_nil, List.getElem?_cons_zero, List.getElem?_cons_succ, List.getElem?_nil, List.set_cons_zero, List.set_cons_succ, Option.some.injEq, if_true, if_false, Bool.false_eq_true, Nat.sub_self, Nat.reduceSub, Nat.reduceAdd, Nat.reduceLT, reduceCtorEq, ite_true, ite_false, Bool.not_true, Bool.not_false, Option.bind_some, Option.map_some, ne_eq, not_false_eq_true, and_self, and_true, true_and, Nat.succ_ne_self, List.contains_cons, List.contains_nil, String.reduceBEq, Bool.or_true, Bool.true_or, Bool.or_false, Bool.false_or, Bool.and_true, Bool.and_false, Bool.false_and, Bool.true_and, beq_self_eq_true, subN, tyN, PV.imm, Nat.reduceEqDiff, mMet_call, mMet_callV, fnD, metE_eq, kAppend, lim, H12, k__law_right_3, k__law_right_4]; rfl)) ?_
  refine re_step (by (simp only [runD, runF, runR, runRF, startE, rf0, sSeq, sNil, sPass, sEx, sRt, sRtN, sIf, sSet, sSetO, sPar, sAug, sSub, sAsg, sFz, sFor, mOp, evA, evP, fill, evS, mTup, mLst, mV, mK, mT, mNot, mAnd, mOr, mAndV, mOrV, mNotV, mIf, mChain, mCall, mCallL, mCallR, mIsi, mIt, iAny, mSl, evO, mGet, mOwn, PV.val, ownV, setV, free, bindT, bindTs, wipeE, backE, R.bind, R.bs, Rs.bind, Oe.ev, Oe.sl, tYs, isLst, List.map_cons, List.map_nil, List.length_cons, List.length_nil, List.replicate, List.cons_append, List.nil_append, List.append_nil, List.getElem?_cons_zero, List.getElem?_cons_succ, List.getElem?_nil, List.set_cons_zero, List.set_cons_succ, Option.some.injEq, if_true, if_false, Bool.false_eq_true, Nat.sub_self, Nat.reduceSub, Nat.reduceAdd, Nat.reduceLT, reduceCtorEq, ite_true, ite_false, Bool.not_true, Bool.not_false, Option.bind_some, Option.map_some, ne_eq, not_false_eq_true, and_self, and_true, true_and, Nat.succ_ne_self, List.contains_cons, List.contains_nil, String.reduceBEq, Bool.or_true, Bool.true_or, Bool.or_false, Bool.false_or, Bool.and_true, Bool.and_false, Bool.false_and, Bool.true_and, beq_self_eq_true, subN, tyN, PV.imm, Nat.reduceEqDiff, startE, oAdd_ll, oCat_ll, oMul, Nat.reduceLeDiff, rp1 x1 h1, wd1 x1 h1, rp1 x1 h1, wd1 x1 h1, k__law_right_3, k__law_right_4]; rfl)) ?_
  refine re_step (by (simp only [runD, runF, runR, runRF, startE, rf0, sSeq, sNil, sPass, sEx, sRt, sRtN, sIf, sSet, sSetO, sPar, sAug, sSub, sAsg, sFz, sFor, mOp, evA, evP, fill, evS, mTup, mLst, mV, mK, mT, mNot, mAnd, mOr, mAndV, mOrV, mNotV, mIf, mChain, mCall, mCallL, mCallR, mIsi, mIt, iAny, mSl, evO, mGet, mOwn, PV.val, ownV, setV, free, bindT, bindTs, wipeE, backE, R.bind, R.bs, Rs.bind, Oe.ev, Oe.sl, tYs, isLst, List.map_cons, List.map_nil, List.length_cons, List.length_nil, List.replicate, List.cons_append, List.nil_append, List.append_nil, List.getElem?_cons_zero, List.getElem?_cons_succ, List.getElem?_nil, List.set_cons_zero, List.set_cons_succ, Option.some.injEq, if_true, if_false, Bool.false_eq_true, Nat.sub_self, Nat.reduceSub, Nat.reduceAdd, Nat.reduceLT, reduceCtorEq, ite_true, ite_false, Bool.not_true, Bool.not_false, Option.bind_some, Option.map_some, ne_eq, not_false_eq_true, and_self, and_true, true_and, Nat.succ_ne_self, List.contains_cons, List.contains_nil, String.reduceBEq, Bool.or_true, Bool.true_or, Bool.or_false, Bool.false_or, Bool.and_true, Bool.and_false, Bool.false_and, Bool.true_and, beq_self_eq_true, subN, tyN, PV.imm, Nat.reduceEqDiff, mMet_call, mMet_callV, fnD, metE_eq, kAppend, lim, H13 x0 h0 x3 h3, k__law_right_3, k__law_right_4]; rfl)) ?_
  refine re_step (by (simp only [runD, runF, runR, runRF, startE, rf0, sSeq, sNil, sPass, sEx, sRt, sRtN, sIf, sSet, sSetO, sPar, sAug, sSub, sAsg, sFz, sFor, mOp, evA, evP, fill, evS, mTup, mLst, mV, mK, mT, mNot, mAnd, mOr, mAndV, mOrV, mNotV, mIf, mChain, mCall, mCallL, mCallR, mIsi, mIt, iAny, mSl, evO, mGet, mOwn, PV.val, ownV, setV, free, bindT, bindTs, wipeE, backE, R.bind, R.bs, Rs.bind, Oe.ev, Oe.sl, tYs, isLst, List.map_cons, List.map_nil, List.length_cons, List.length_nil, List.replicate, List.cons_append, List.nil_append, List.append_nil, List.getElem?_cons_zero, List.getElem?_cons_succ, List.getElem?_nil, List.set_cons_zero, List.set_cons_succ, Option.some.injEq, if_true, if_false, Bool.false_eq_true, Nat.sub_self, Nat.reduceSub, Nat.reduceAdd, Nat.reduceLT, reduceCtorEq, ite_true, ite_false, Bool.not_true, Bool.not_false, Option.bind_some, Option.map_some, ne_eq, not_false_eq_true, and_self, and_true, true_and, Nat.succ_ne_self, List.contains_cons, List.contains_nil, String.reduceBEq, Bool.or_true, Bool.true_or, Bool.or_false, Bool.false_or, Bool.and_true, Bool.and_false, Bool.false_and, Bool.true_and, beq_self_eq_true, subN, tyN, PV.imm, Nat.reduceEqDiff, mMet_call, mMet_callV, fnD, metE_eq, kAppend, lim, H14 x3 h3, k__law_right_3, k__law_right_4]; rfl)) ?_
  refine re_step (by (simp only [runD, runF, runR, runRF, startE, rf0, sSeq, sNil, sPass, sEx, sRt, sRtN, sIf, sSet, sSetO, sPar, sAug, sSub, sAsg, sFz, sFor, mOp, evA, evP, fill, evS, mTup, mLst, mV, mK, mT, mNot, mAnd, mOr, mAndV, mOrV, mNotV, mIf, mChain, mCall, mCallL, mCallR, mIsi, mIt, iAny, mSl, evO, mGet, mOwn, PV.val, ownV, setV, free, bindT, bindTs, wipeE, backE, R.bind, R.bs, Rs.bind, Oe.ev, Oe.sl, tYs, isLst, List.map_cons, List.map_nil, List.length_cons, List.length_nil, List.replicate, List.cons_append, List.nil_append, List.append_nil, List.getElem?_cons_zero, List.getElem?_cons_succ, List.getElem?_nil, List.set_cons_zero, List.set_cons_succ, Option.some.injEq, if_true, if_false, Bool.false_eq_true, Nat.sub_self, Nat.reduceSub, Nat.reduceAdd, Nat.reduceLT, reduceCtorEq, ite_true, ite_false, Bool.not_true, Bool.not_false, Option.bind_some, Option.map_some, ne_eq, not_false_eq_true, and_self, and_true, true_and, Nat.succ_ne_self, List.contains_cons, List.contains_nil, String.reduceBEq, Bool.or_true, Bool.true_or, Bool.or_false, Bool.false_or, Bool.and_true, Bool.and_false, Bool.false_and, Bool.true_and, beq_self_eq_true, subN, tyN, PV.imm, Nat.reduceEqDiff, mMet_call, mMet_callV, fnD, metE_eq, kAppend, lim, H15, k__law_right_3, k__law_right_4]; rfl)) ?_
  refine re_step (by (simp only [runD, runF, runR, runRF, startE, rf0, sSeq, sNil, sPass, sEx, sRt, sRtN, sIf, sSet, sSetO, sPar, sAug, sSub, sAsg, sFz, sFor, mOp, evA, evP, fill, evS, mTup, mLst, mV, mK, mT, mNot, mAnd, mOr, mAndV, mOrV, mNotV, mIf, mChain, mCall, mCallL, mCallR, mIsi, mIt, iAny, mSl, evO, mGet, mOwn, PV.val, ownV, setV, free, bindT, bindTs, wipeE, backE, R.bind, R.bs, Rs.bind, Oe.ev, Oe.sl, tYs, isLst, List.map_cons, List.map_nil, List.length_cons, List.length_nil, List.replicate, List.cons_append, List.nil_append, List.append_nil, List.getElem?_cons_zero, List.getElem?_cons_succ, List.getElem?_nil, List.set_cons_zero, List.set_cons_succ, Option.some.injEq, if_true, if_false, Bool.false_eq_true, Nat.sub_self, Nat.reduceSub, Nat.reduceAdd, Nat.reduceLT, reduceCtorEq, ite_true, ite_false, Bool.not_true, Bool.not_false, Option.bind_some, Option.map_some, ne_eq, not_false_eq_true, and_self, and_true, true_and, Nat.succ_ne_self, List.contains_cons, List.contains_nil, String.reduceBEq, Bool.or_true, Bool.true_or, Bool.or_false, Bool.false_or, Bool.and_true, Bool.and_false, Bool.false_and, Bool.true_and, beq_self_eq_true, subN, tyN, PV.imm, Nat.reduceEqDiff, startE, oAdd_ll, oCat_ll, oMul, Nat.reduceLeDiff, k__law_right_3, k__law_right_4]; rfl)) ?_
  unfold Re
  simp only [runD, runF, runR, runRF, startE, rf0, sSeq, sNil, sPass, sEx, sRt, sRtN, sIf, sSet, sSetO, sPar, sAug, sSub, sAsg, sFz, sFor, mOp, evA, evP, fill, evS, mTup, mLst, mV, mK, mT, mNot, mAnd, mOr, mAndV, mOrV, mNotV, mIf, mChain, mCall, mCallL, mCallR, mIsi, mIt, iAny, mSl, evO, mGet, mOwn, PV.val, ownV, setV, free, bindT, bindTs, wipeE, backE, R.bind, R.bs, Rs.bind, Oe.ev, Oe.sl, tYs, isLst, List.map_cons, List.map_nil, List.length_cons, List.length_nil, List.replicate, List.cons_append, List.nil_append, List.append_nil, List.getElem?_cons_zero, List.getElem?_cons_succ, List.getElem?_nil, List.set_cons_zero, List.set_cons_succ, Option.some.injEq, if_true, if_false, Bool.false_eq_true, Nat.sub_self, Nat.reduceSub, Nat.reduceAdd, Nat.reduceLT, reduceCtorEq, ite_true, ite_false, Bool.not_true, Bool.not_false, Option.bind_some, Option.map_some, ne_eq, not_false_eq_true, and_self, and_true, true_and, Nat.succ_ne_self, List.contains_cons, List.contains_nil, String.reduceBEq, Bool.or_true, Bool.true_or, Bool.or_false, Bool.false_or, Bool.and_true, Bool.and_false, Bool.false_and, Bool.true_and, beq_self_eq_true, subN, tyN, PV.imm, Nat.reduceEqDiff, mLc, lcL, lim, itD, seqD, Nat.reduceLeDiff, oEq_self (HF x1 h1 x2 h2), okV_eq (H16 x3 h3), okV_eq (H17), c2_ok]
  exact ⟨_, rfl, rfl⟩
end R

namespace R
open PySem L2 PV ERB
def law_tail : En → Rs :=
  sSeq (sSet 3 (mLc (iAny (k_law_0)) (.n 5) (tYs) (mCall f_Table_init [mV 5, mTup [mTup [mK (.int 0), mOp oSub [.s 5, .m (mK (.int 1))]]]]) [5])) <|
  sSeq (sSetO 4 (mLst [mMet hs__law_met dd__law_met (mCall f_beside [mOp oIxx [.s 3, .m (mK (.int 0))], mOp oIxx [.s 3, .m (mK (.int 0))]])])) <|
  sSeq (sEx (mOwn 4 (mMet hs__law_met dd__law_met (mCall f_beside [mOp oIxx [.s 3, .m (mK (.int 0))], mOp oIxx [.s 3, .m (mK (.int 1))]])) kAppend)) <|
  sSeq (sEx (mOwn 4 (mMet hs__law_met dd__law_met (mCall f_tied [mOp oIxx [.s 3, .m (mK (.int 1))], mK (.int 0), mOp oIxx [.s 3, .m (mK (.int 1))], mK (.int 12)])) kAppend)) <|
  sSeq (sEx (mOwn 4 (mMet hs__law_met dd__law_met (mCall f_tied [mOp oIxx [.s 3, .m (mK (.int 1))], mK (.int 0), mOp oIxx [.s 3, .m (mK (.int 2))], mK (.int 13)])) kAppend)) <|
  sSeq (sEx (mOwn 4 (mMet hs__law_met dd__law_met (mCall f_tied [mOp oIxx [.s 3, .m (mK (.int 4))], mK (.int 23), mOp oIxx [.s 3, .m (mK (.int 3))], mK (.int 1)])) kAppend)) <|
  sSeq (sEx (mOwn 4 (mMet hs__law_met dd__law_met (mCall f_tied [mCall f_Table_init [mK (.int 1), mTup []], mK (.int 0), mCall f_Table_init [mK (.int 1), mTup [mTup [mK (.int 0)]]], mK (.int 0)])) kAppend)) <|
  sSeq (sIf (mT (mOp oNe [.s 4, .m (k_law_1)])) (sRt (mK (.bl false))) (sNil)) <|
  sRt (mAndV (mOp oEq [.m (mCall f_parts [mOp oIxx [.s 3, .m (mK (.int 3))]]), .m (mTup [mTup [mK (.int 0), mK (.int 1)]])]) (mOp oEq [.m (mOp oLen [.m (mCall f_parts [mOp oIxx [.s 3, .m (mK (.int 4))]])]), .m (mK (.int 23))]))
theorem tail_ok (S : D) (x y : Sl) : isT (law_tail [.fz S, x, y, .no, .no, .no]) = true := by kernel_rfl
theorem law_true (ns : List Int) (hn : ns.length ≤ 63) : f_law [.ro (ns.map D.int)] = .ok (.bl true) := by
  have h0 : (startE 6 [.ro (ns.map D.int)])[0]? = some (.fz (.ro (ns.map D.int))) := rfl
  unfold f_law m_law
  obtain ⟨e', h1, x, y, rfl, h⟩ := spots_ok (s := 1) (body := sSeq (sSetO 2 (mCall f__law_dice [mV 0, mV 1])) <| sIf (mOr (mNot (mT (mCallR f__law_right 2 []))) (mNot (mT (mCallR f__law_right 2 [])))) (sRt (mK (.bl false))) (sNil))
    (P := fun e => ∃ x y : Sl, e = [.fz (.ro (ns.map D.int)), x, y, .no, .no, .no] ∧ ((x = .no ∧ y = .no) ∨ ∃ a b, x = .fz a ∧ y = .ow b)) (ns := ns) (e := startE 6 [.ro (ns.map D.int)]) (fun i hi e p => by
      obtain ⟨x, y, rfl, hx⟩ := p
      obtain ⟨d, e1, g⟩ := dice_ok (ns := ns) (spot := i) hi
      rw [← dice_eq] at e1
      obtain ⟨d1, e2, g1⟩ := right_ok g (by decide)
      obtain ⟨d2, e3, g2⟩ := right_ok g1 (by decide)
      refine ⟨[.fz (.ro (ns.map D.int)), .fz (.int i), y, .no, .no, .no], [.fz (.ro (ns.map D.int)), .fz (.int i), .ow d2, .no, .no, .no], ?_, ?_, _, _, rfl, .inr ⟨_, _, rfl, rfl⟩⟩
      · rcases hx with ⟨rfl, rfl⟩ | ⟨a, b, rfl, rfl⟩ <;> rfl
      · rcases hx with ⟨rfl, rfl⟩ | ⟨a, b, rfl, rfl⟩ <;> simp only [runD, runF, runR, runRF, startE, rf0, sSeq, sNil, sPass, sEx, sRt, sRtN, sIf, sSet, sSetO, sPar, sAug, sSub, sAsg, sFz, sFor, mOp, evA, evP, fill, evS, mTup, mLst, mV, mK, mT, mNot, mAnd, mOr, mAndV, mOrV, mNotV, mIf, mChain, mCall, mCallL, mCallR, mIsi, mIt, iAny, mSl, evO, mGet, mOwn, PV.val, ownV, setV, free, bindT, bindTs, wipeE, backE, R.bind, R.bs, Rs.bind, Oe.ev, Oe.sl, tYs, isLst, List.map_cons, List.map_nil, List.length_cons, List.length_nil, List.replicate, List.cons_append, List.nil_append, List.append_nil, List.getElem?_cons_zero, List.getElem?_cons_succ, List.getElem?_nil, List.set_cons_zero, List.set_cons_succ, Option.some.injEq, if_true, if_false, Bool.false_eq_true, Nat.sub_self, Nat.reduceSub, Nat.reduceAdd, Nat.reduceLT, reduceCtorEq, ite_true, ite_false, Bool.not_true, Bool.not_false, Option.bind_some, Option.map_some, ne_eq, not_false_eq_true, and_self, and_true, true_and, Nat.succ_ne_self, List.contains_cons, List.contains_nil, String.reduceBEq, Bool.or_true, Bool.true_or, Bool.or_false, Bool.false_or, Bool.and_true, Bool.and_false, Bool.false_and, Bool.true_and, beq_self_eq_true, subN, tyN, PV.imm, Nat.reduceEqDiff, e1, e2, e3]) h0 ⟨.no, .no, rfl, .inl ⟨rfl, rfl⟩⟩
  refine law_end h1 ?_
  exact tail_ok _ _ _
end R

open PySem PySem.W PyProof.Rows
set_option maxHeartbeats 0 in
theorem PySem.Challenge.cw_ringtables_k19_errors_of_parts_holds : PySem.Challenge.rw_ringtables_k19_errors_of_parts.Holds := by
  w_on; o_law; k_head; (case hw => w_witness2)
  k_fill
  refine PV.walk_ofG (l := PySem.Challenge.rw_ringtables_k19_errors_of_parts) (n := 63) (k := 14) (x := "script") (CX := fun w => L2.CX (PySem.Challenge.rw_ringtables_k19_errors_of_parts).prog w) rfl (by decide) rfl ⟨rfl, by decide, by decide⟩ (fun w h Y => by first | exact PySem.W.km_in_of Y | exact PySem.W.kIn_of Y) ?F (fun _ _ _ _ _ h => PV.cx_no h)
  case F =>
    intro w mg fa h Y KX G hmg TT
    refine' R.all_mk hmg (R.md_of KX G ?y0a ?y0pg ?y0ic ?y0po ?y0sa ?y0ca ?y0cn ?y0ct ?y0cm ?y0ty ?y0b0 ?y0b1 ?y0b2 ?y0b3 ?y0b4 ?y0b5 ?y0d0 ?y0d1 ?y0d2 ?y0d3 ?y0d4 ?y0d5 ?y0d6 ?y0mk ?y0in ?y0fn ?y0kp ?y0s0a ?y0s0g ?y0s0t ?y0s0i ?y0s0y ?y0s1a ?y0s1g ?y0s1t ?y0s1i ?y0s1y ?y0s2a ?y0s2g ?y0s2t ?y0s2i ?y0s2y ?y0s3a ?y0s3g ?y0s3t ?y0s3i ?y0s3y ?y0s4a ?y0s4g ?y0s4t ?y0s4i ?y0s4y ?y0r3a ?y0r3g ?y0r3t ?y0r3r ?a0 ?l0 ?c0 ?k0 ?a1 ?l1 ?c1 ?k1 ?a2 ?l2 ?c2 ?k2 ?a3 ?l3 ?c3 ?k3 ?a4 ?l4 ?c4 ?k4 ?a5 ?l5 ?c5 ?k5 ?a6 ?l6 ?c6 ?k6 ?a7 ?l7 ?c7 ?k7 ?a8 ?l8 ?c8 ?k8 ?a9 ?l9 ?c9 ?k9 ?a10 ?l10 ?c10 ?k10 ?a11 ?l11 ?c11 ?k11 ?l12 ?c12 ?k12 ?a13 ?l13 ?c13 ?k13 ?a14 ?l14 ?c14 ?k14 ?a15 ?l15 ?c15 ?k15 ?a16 ?l16 ?c16 ?k16 ?a17 ?l17 ?c17 ?k17 ?a18 ?l18 ?c18 ?k18 ?a19 ?l19 ?c19 ?k19 ?a20 ?l20 ?c20 ?k20 ?a21 ?l21 ?c21 ?k21 ?l22 ?c22 ?k22 ?a23 ?l23 ?c23 ?k23 ?a24 ?l24 ?c24 ?k24 ?a25 ?l25 ?c25 ?k25 ?a26 ?l26 ?c26 ?k26 ?a27 ?l27 ?c27 ?k27 ?a28 ?l28 ?c28 ?k28 ?a29 ?l29 ?c29 ?k29 ?a30 ?l30 ?c30 ?k30 ?a31 ?l31 ?c31 ?k31 ?a32 ?l32 ?c32 ?k32 ?a33 ?l33 ?c33 ?k33 ?a34 ?l34 ?c34 ?k34 ?a35 ?l35 ?c35 ?k35 ?a36 ?l36 ?c36 ?k36 ?a37 ?l37 ?c37 ?k37 ?a38 ?l38 ?c38 ?k38 ?a39 ?l39 ?c39 ?k39 ?a40 ?l40 ?c40 ?k40 ?a41 ?l41 ?c41 ?k41 ?a42 ?l42 ?c42 ?k42 ?a43 ?l43 ?c43 ?k43 ?a44 ?l44 ?c44 ?k44 ?a45 ?l45 ?c45 ?k45 ?z0 ?z1 ?z2 ?z3 ?z4 ?z5 ?z6 ?z7 ?z8 ?z9 ?z10 ?z11 ?z12 ?z13 ?z14 ?z15 ?z16 ?zl0 ?v0 ?v1 ?v2 ?v3 ?tc4a ?tc4l ?tc4z ?tc4v ?e0a ?e0k ?e0b ?e0t ?e0i ?e0x ?e1a ?e1k ?e1b ?e1t ?e1i ?e1ok ?e1ov ?e1sa ?e1ga ?e1gg ?e1no ?e1ic ?e1ti ?e1hd ?e1sb ?e1su ?e1op ?e1mr ?e1ns ?e1top ?e1l ?e1cd ?e1ce ?e1co ?e1fi ?e1mf ?e2a ?e2k ?e2b ?e2t ?e2i ?e2ok ?e2ov ?e2sa ?e2ga ?e2gg ?e2no ?e2ic ?e2ti ?e2hd ?e2sb ?e2su ?e2op ?e2mr ?e2ns ?e2top ?e2l ?e2cd ?e2ce ?e2co ?e2fi ?e2mf ?e3a ?e3k ?e3b ?e3t ?e3i ?e3ok ?e3ov ?e3sa ?e3ga ?e3gg ?e3no ?e3ic ?e3ti ?e3hd ?e3sb ?e3su ?e3op ?e3mr ?e3ns ?e3top ?e3l ?e3cd ?e3ce ?e3co ?e3fi ?e3mf ?e4a ?e4k ?e4b ?e4t ?e4i ?e4x ?se1e1 ?se1e4 ?se1e0 ?se1e3 ?se1e2 ?se4e1 ?se4e4 ?se4e0 ?se4e3 ?se4e2 ?se0e1 ?se0e4 ?se0e0 ?se0e3 ?se0e2 ?se3e1 ?se3e4 ?se3e0 ?se3e3 ?se3e2 ?se2e1 ?se2e4 ?se2e0 ?se2e3 ?se2e2 ?hnd) (.cons (PV.tabL_of (x := "_law_right") TT ?rd44 (PV.tabIn_of ?a44 ?l44 rfl ?cr44 ?ci44) ?nl44) (.cons (PV.tabL_of (x := "law") TT ?rd45 (PV.tabIn_of ?a45 ?l45 rfl ?cr45 ?ci45) ?nl45) .nil)) rfl rfl rfl rfl R.law_true
    (case y0a => k_is); (case y0pg => k_is); (case y0ic => k_is); (case y0po => k_is); (case y0sa => k_is); (case y0ca => k_is); (case y0cn => k_is); (case y0ct => k_is); (case y0cm => k_is); (case y0ty => k_is); (case y0b0 => k_is); (case y0b1 => k_is); (case y0b2 => k_is); (case y0b3 => k_is); (case y0b4 => k_is); (case y0b5 => k_is); (case y0d0 => k_is); (case y0d1 => k_is); (case y0d2 => k_is); (case y0d3 => k_is); (case y0d4 => k_is); (case y0d5 => k_is); (case y0d6 => k_is); (case y0mk => k_is); (case y0in => k_is); (case y0fn => k_is); (case y0kp => k_is); (case y0s0a => k_is); (case y0s0g => k_is); (case y0s0t => k_is); (case y0s0i => k_is); (case y0s0y => k_is); (case y0s1a => k_is); (case y0s1g => k_is); (case y0s1t => k_is); (case y0s1i => k_is); (case y0s1y => k_is); (case y0s2a => k_is); (case y0s2g => k_is); (case y0s2t => k_is); (case y0s2i => k_is); (case y0s2y => k_is); (case y0s3a => k_is); (case y0s3g => k_is); (case y0s3t => k_is); (case y0s3i => k_is); (case y0s3y => k_is); (case y0s4a => k_is); (case y0s4g => k_is); (case y0s4t => k_is); (case y0s4i => k_is); (case y0s4y => k_is); (case y0r3a => k_is); (case y0r3g => k_is); (case y0r3t => k_is); (case y0r3r => k_is); (case a0 => k_is); (case l0 => k_is); (case c0 => k_is); (case k0 => k_is); (case a1 => k_is); (case l1 => k_is); (case c1 => k_is); (case k1 => k_is); (case a2 => k_is); (case l2 => k_is); (case c2 => k_is); (case k2 => k_is); (case a3 => k_is); (case l3 => k_is); (case c3 => k_is); (case k3 => k_is); (case a4 => k_is); (case l4 => k_is); (case c4 => k_is); (case k4 => k_is); (case a5 => k_is); (case l5 => k_is); (case c5 => k_is); (case k5 => k_is); (case a6 => k_is); (case l6 => k_is); (case c6 => k_is); (case k6 => k_is); (case a7 => k_is); (case l7 => k_is); (case c7 => k_is); (case k7 => k_is); (case a8 => k_is); (case l8 => k_is); (case c8 => k_is); (case k8 => k_is); (case a9 => k_is); (case l9 => k_is); (case c9 => k_is); (case k9 => k_is); (case a10 => k_is); (case l10 => k_is); (case c10 => k_is); (case k10 => k_is); (case a11 => k_is); (case l11 => k_is); (case c11 => k_is); (case k11 => k_is); (case l12 => k_is); (case c12 => k_is); (case k12 => k_is); (case a13 => k_is); (case l13 => k_is); (case c13 => k_is); (case k13 => k_is); (case a14 => k_is); (case l14 => k_is); (case c14 => k_is); (case k14 => k_is); (case a15 => k_is); (case l15 => k_is); (case c15 => k_is); (case k15 => k_is); (case a16 => k_is); (case l16 => k_is); (case c16 => k_is); (case k16 => k_is); (case a17 => k_is); (case l17 => k_is); (case c17 => k_is); (case k17 => k_is); (case a18 => k_is); (case l18 => k_is); (case c18 => k_is); (case k18 => k_is); (case a19 => k_is); (case l19 => k_is); (case c19 => k_is); (case k19 => k_is); (case a20 => k_is); (case l20 => k_is); (case c20 => k_is); (case k20 => k_is); (case a21 => k_is); (case l21 => k_is); (case c21 => k_is); (case k21 => k_is); (case l22 => k_is); (case c22 => k_is); (case k22 => k_is); (case a23 => k_is); (case l23 => k_is); (case c23 => k_is); (case k23 => k_is); (case a24 => k_is); (case l24 => k_is); (case c24 => k_is); (case k24 => k_is); (case a25 => k_is); (case l25 => k_is); (case c25 => k_is); (case k25 => k_is); (case a26 => k_is); (case l26 => k_is); (case c26 => k_is); (case k26 => k_is); (case a27 => k_is); (case l27 => k_is); (case c27 => k_is); (case k27 => k_is); (case a28 => k_is); (case l28 => k_is); (case c28 => k_is); (case k28 => k_is); (case a29 => k_is); (case l29 => k_is); (case c29 => k_is); (case k29 => k_is); (case a30 => k_is); (case l30 => k_is); (case c30 => k_is); (case k30 => k_is); (case a31 => k_is); (case l31 => k_is); (case c31 => k_is); (case k31 => k_is); (case a32 => k_is); (case l32 => k_is); (case c32 => k_is); (case k32 => k_is); (case a33 => k_is); (case l33 => k_is); (case c33 => k_is); (case k33 => k_is); (case a34 => k_is); (case l34 => k_is); (case c34 => k_is); (case k34 => k_is); (case a35 => k_is); (case l35 => k_is); (case c35 => k_is); (case k35 => k_is); (case a36 => k_is); (case l36 => k_is); (case c36 => k_is); (case k36 => k_is); (case a37 => k_is); (case l37 => k_is); (case c37 => k_is); (case k37 => k_is); (case a38 => k_is); (case l38 => k_is); (case c38 => k_is); (case k38 => k_is); (case a39 => k_is); (case l39 => k_is); (case c39 => k_is); (case k39 => k_is); (case a40 => k_is); (case l40 => k_is); (case c40 => k_is); (case k40 => k_is); (case a41 => k_is); (case l41 => k_is); (case c41 => k_is); (case k41 => k_is); (case a42 => k_is); (case l42 => k_is); (case c42 => k_is); (case k42 => k_is); (case a43 => k_is); (case l43 => k_is); (case c43 => k_is); (case k43 => k_is); (case a44 => k_is); (case l44 => k_is); (case c44 => k_is); (case k44 => k_is); (case a45 => k_is); (case l45 => k_is); (case c45 => k_is); (case k45 => k_is); (case z0 => k_is); (case z1 => k_is); (case z2 => k_is); (case z3 => k_is); (case z4 => k_is); (case z5 => k_is); (case z6 => k_is); (case z7 => k_is); (case z8 => k_is); (case z9 => k_is); (case z10 => k_is); (case z11 => k_is); (case z12 => k_is); (case z13 => k_is); (case z14 => k_is); (case z15 => k_is); (case z16 => k_is); (case zl0 => k_is); (case v0 => k_is); (case v1 => k_is); (case v2 => k_is); (case v3 => k_is); (case tc4a => k_is); (case tc4l => k_is); (case tc4z => (first | decide +kernel | decide)); (case tc4v => exact (.cons ⟨_, rfl⟩ .nil)); (case e0a => k_is); (case e0k => k_is); (case e0b => k_is); (case e0t => k_is); (case e0i => k_is); (case e0x => k_exc); (case e1a => k_is); (case e1k => k_is); (case e1b => k_is); (case e1t => k_is); (case e1i => k_is); (case e1ok => kx_is); (case e1ov => kx_is); (case e1sa => k_is); (case e1ga => k_is); (case e1gg => k_is); (case e1no => k_is); (case e1ic => k_is); (case e1ti => k_is); (case e1hd => k_is); (case e1sb => k_is); (case e1su => ks_is); (case e1op => k_is); (case e1mr => k_is); (case e1ns => k_is); (case e1top => rfl); (case e1l => k_is); (case e1cd => k_is); (case e1ce => k_is); (case e1co => k_is); (case e1fi => rfl); (case e1mf => (first | rfl | kernel_rfl | decide +kernel)); (case e2a => k_is); (case e2k => k_is); (case e2b => k_is); (case e2t => k_is); (case e2i => k_is); (case e2ok => kx_is); (case e2ov => kx_is); (case e2sa => k_is); (case e2ga => k_is); (case e2gg => k_is); (case e2no => k_is); (case e2ic => k_is); (case e2ti => k_is); (case e2hd => k_is); (case e2sb => k_is); (case e2su => ks_is); (case e2op => k_is); (case e2mr => k_is); (case e2ns => k_is); (case e2top => rfl); (case e2l => k_is); (case e2cd => k_is); (case e2ce => k_is); (case e2co => k_is); (case e2fi => rfl); (case e2mf => (first | rfl | kernel_rfl | decide +kernel)); (case e3a => k_is); (case e3k => k_is); (case e3b => k_is); (case e3t => k_is); (case e3i => k_is); (case e3ok => kx_is); (case e3ov => kx_is); (case e3sa => k_is); (case e3ga => k_is); (case e3gg => k_is); (case e3no => k_is); (case e3ic => k_is); (case e3ti => k_is); (case e3hd => k_is); (case e3sb => k_is); (case e3su => ks_is); (case e3op => k_is); (case e3mr => k_is); (case e3ns => k_is); (case e3top => rfl); (case e3l => k_is); (case e3cd => k_is); (case e3ce => k_is); (case e3co => k_is); (case e3fi => rfl); (case e3mf => (first | rfl | kernel_rfl | decide +kernel)); (case e4a => k_is); (case e4k => k_is); (case e4b => k_is); (case e4t => k_is); (case e4i => k_is); (case e4x => k_exc); (case se1e1 => k_is); (case se1e4 => k_is); (case se1e0 => k_is); (case se1e3 => k_is); (case se1e2 => k_is); (case se4e1 => k_is); (case se4e4 => k_is); (case se4e0 => k_is); (case se4e3 => k_is); (case se4e2 => k_is); (case se0e1 => k_is); (case se0e4 => k_is); (case se0e0 => k_is); (case se0e3 => k_is); (case se0e2 => k_is); (case se3e1 => k_is); (case se3e4 => k_is); (case se3e0 => k_is); (case se3e3 => k_is); (case se3e2 => k_is); (case se2e1 => k_is); (case se2e4 => k_is); (case se2e0 => k_is); (case se2e3 => k_is); (case se2e2 => k_is); (case cr44 => k_is); (case ci44 => rfl); (case rd44 => (first | rfl | kernel_rfl)); (case nl44 => (first | k_is | kernel_rfl | decide +kernel)); (case cr45 => k_is); (case ci45 => rfl); (case rd45 => (first | rfl | kernel_rfl)); (case nl45 => (first | k_is | kernel_rfl | decide +kernel)); (case hnd => decide)
