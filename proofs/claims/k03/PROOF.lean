import PyProof.Rows.All
import Wide.All
import OpenK.AllK
import Wide.FinOn
import HandS.ForMost
import HandS.ForExc
import HandS.Lambda
import HandS.TupAny
import HandS.Wide
import HandS.WideBits
import HandS.TupMul
import HandS.SortInts
import HandS.EndTab
import KE.KNest
import HandS.Conv
import HandS.IsInst
import HandS.Zip
import KE.KRevSl
import HandS.Style
import HandS.SetFor
import HandS.Strs
import HandS.SetKeys
import HandS.Iter
import HandS.Ends
import HandS.WideMore
import KE.GoesEnum
import HandS.More
import HandS.Star
import HandS.SortRule
import HandS.NamedTupSort
import PyProof.P3In
import KE.KExcLine
import KE.KExcInit
import HandS.TryMany
import HandS.ExcField
import PySem.Challenge.RW_ringtables_k03_errors_of_lots
set_option Elab.async false
set_option linter.all false
set_option maxRecDepth 100000
set_option maxHeartbeats 4000000
namespace PV
open PySem PySem.Spec PyProof.Rows L2
/-! ### data -/
inductive D where
  | non | bl (b : Bool) | int (i : Int) | str (s : Str)
  | tup (xs : List D) | lst (xs : List D)
  | dik (kvs : List (Key × D)) | dit (kvs : List (List Key × D))
  | ins (c : Str) (fs : List (Str × D))
  | fn (x : Str)
  | ro (xs : List D)
/-- an exception: its class by name, its fields -/
structure Xn where
  cls : Str
  fs : Option (List (Str × D))
inductive Sl where
  | no | fz (d : D) | ow (d : D) | rf (d : D)
abbrev En := List Sl
inductive R (α : Type) where
  | ok (a : α) (e : En) | er (x : Xn) (e : En) | no
def R.bind {α β : Type} (r : R α) (f : α → En → R β) : R β := match r with
  | .ok a e => f a e
  | .er x e => .er x e
  | .no => .no
/-! ### what stands for data -/
/-- the fixed things: the written part, the module's names, the tables -/
structure Gc where
  K : PySem.W.Frag
  mg : Str → Option Value
  T : List (Addr × Str)
mutual
inductive Rep (g : Gc) (H : Hp) : D → V → Prop
  | non : Rep g H .non .non
  | bl {b} : Rep g H (.bl b) (.bl b)
  | int {i} : Rep g H (.int i) (.int i)
  | str {s} : Rep g H (.str s) (.str s)
  | tup {a xs vs} : SqT g.K H a vs → Reps g H xs vs → Rep g H (.tup xs) (.ref a)
  | lst {a xs vs} : H a = some (.lst vs) → Reps g H xs vs → Rep g H (.lst xs) (.ref a)
  | ro {a xs vs} : SqL g.K H a vs → Reps g H xs vs → Rep g H (.ro xs) (.ref a)
  | dik {a o xs vs} : H a = some (.frz o (.dK vs)) → RepK g H xs vs → Rep g H (.dik xs) (.ref a)
  | dit {a o xs vs} : H a = some (.frz o (.dT vs)) → RepT g H xs vs → Rep g H (.dit xs) (.ref a)
  | ins {a c C dx xs vs} : g.mg c = some (.ref C) → H a = some (.ins C dx vs) → RepF g H xs vs → Rep g H (.ins c xs) (.ref a)
  | fn {x a} : g.mg x = some (.ref a) → Rep g H (.fn x) (.ref a)
inductive Reps (g : Gc) (H : Hp) : List D → List V → Prop
  | nil : Reps g H [] []
  | cons {x xs v vs} : Rep g H x v → Reps g H xs vs → Reps g H (x :: xs) (v :: vs)
inductive RepK (g : Gc) (H : Hp) : List (Key × D) → List (Key × V) → Prop
  | nil : RepK g H [] []
  | cons {k x xs v vs} : Rep g H x v → RepK g H xs vs → RepK g H ((k, x) :: xs) ((k, v) :: vs)
inductive RepT (g : Gc) (H : Hp) : List (List Key × D) → List (List Key × V) → Prop
  | nil : RepT g H [] []
  | cons {k x xs v vs} : Rep g H x v → RepT g H xs vs → RepT g H ((k, x) :: xs) ((k, v) :: vs)
inductive RepF (g : Gc) (H : Hp) : List (Str × D) → List (Str × V) → Prop
  | nil : RepF g H [] []
  | cons {k x xs v vs} : Rep g H x v → RepF g H xs vs → RepF g H ((k, x) :: xs) ((k, v) :: vs)
end
section
variable {g : Gc} {H H' : Hp}
theorem sqT_mono {K : PySem.W.Frag} {a : Addr} {xs : List V} (e : Same H H') (h : SqT K H a xs) : SqT K H' a xs := by
  rcases h with (h | ⟨o, h⟩) | h
  · exact .inl (.inl (e _ _ h))
  · exact .inl (.inr ⟨o, e _ _ h⟩)
  · exact .inr h
mutual
theorem Rep.mono (e : Same H H') {d : D} {v : V} : Rep g H d v → Rep g H' d v
  | .non => .non
  | .bl => .bl
  | .int => .int
  | .str => .str
  | .tup h r => .tup (sqT_mono e h) (Reps.mono e r)
  | .lst h r => .lst (e _ _ h) (Reps.mono e r)
  | .ro h r => .ro (e.seq h) (Reps.mono e r)
  | .dik h r => .dik (e _ _ h) (RepK.mono e r)
  | .dit h r => .dit (e _ _ h) (RepT.mono e r)
  | .ins m h r => .ins m (e _ _ h) (RepF.mono e r)
  | .fn m => .fn m
theorem Reps.mono (e : Same H H') {ds : List D} {vs : List V} : Reps g H ds vs → Reps g H' ds vs
  | .nil => .nil
  | .cons r t => .cons (Rep.mono e r) (Reps.mono e t)
theorem RepK.mono (e : Same H H') {ds : List (Key × D)} {vs : List (Key × V)} : RepK g H ds vs → RepK g H' ds vs
  | .nil => .nil
  | .cons r t => .cons (Rep.mono e r) (RepK.mono e t)
theorem RepT.mono (e : Same H H') {ds : List (List Key × D)} {vs : List (List Key × V)} : RepT g H ds vs → RepT g H' ds vs
  | .nil => .nil
  | .cons r t => .cons (Rep.mono e r) (RepT.mono e t)
theorem RepF.mono (e : Same H H') {ds : List (Str × D)} {vs : List (Str × V)} : RepF g H ds vs → RepF g H' ds vs
  | .nil => .nil
  | .cons r t => .cons (Rep.mono e r) (RepF.mono e t)
end
theorem Reps.length {ds : List D} {vs : List V} (r : Reps g H ds vs) : ds.length = vs.length := by
  match r with
  | .nil => rfl
  | .cons _ t => simp [Reps.length t]
theorem Reps.get {ds : List D} {vs : List V} (r : Reps g H ds vs) : ∀ {i : Nat} {d : D}, ds[i]? = some d → ∃ v, vs[i]? = some v ∧ Rep g H d v := by
  match r with
  | .nil => intro i d e; simp at e
  | .cons h t =>
    intro i d e
    match i with
    | 0 =>
      have e' := Option.some.inj e
      subst e'
      exact ⟨_, rfl, h⟩
    | i + 1 => exact Reps.get t (i := i) e
theorem Reps.append {ds es : List D} {vs ws : List V} (r : Reps g H ds vs) (q : Reps g H es ws) : Reps g H (ds ++ es) (vs ++ ws) := by
  match r with
  | .nil => exact q
  | .cons h t => exact .cons h (Reps.append t q)
end
/-- what never changes -/
def tupy : HO → Bool
  | .tup _ => true
  | .frz _ _ => true
  | _ => false
/-- what stands at an own container's address -/
inductive RepO (g : Gc) (H : Hp) : D → HO → Prop
  | lst {xs vs} : Reps g H xs vs → RepO g H (.lst xs) (.lst vs)
  | dik {xs vs} : RepK g H xs vs → RepO g H (.dik xs) (.dK vs)
  | dit {xs vs} : RepT g H xs vs → RepO g H (.dit xs) (.dT vs)
  | ins {c C dx xs vs} : g.mg c = some (.ref C) → RepF g H xs vs → RepO g H (.ins c xs) (.ins C dx vs)
section
variable {g : Gc} {H H' : Hp}
theorem RepO.mono (e : Same H H') {d : D} {o : HO} (r : RepO g H d o) : RepO g H' d o := by
  cases r with
  | lst r => exact .lst (r.mono e)
  | dik r => exact .dik (r.mono e)
  | dit r => exact .dit (r.mono e)
  | ins m r => exact .ins m (r.mono e)
theorem RepO.ntbl {d : D} {o : HO} (r : RepO g H d o) : ∀ ps, o ≠ .tbl ps := by
  intro ps z
  subst z
  cases r
theorem RepO.ntup {d : D} {o : HO} (r : RepO g H d o) : tupy o = false := by
  cases r <;> rfl
def lockO : D → Bool
  | .dik _ => true
  | .dit _ => true
  | _ => false
theorem RepO.rep {d : D} {o : HO} {a : Addr} (r : RepO g H d o) (hl : lockO d = false) (h : H a = some o) : Rep g H d (.ref a) := by
  cases r with
  | lst r => exact .lst h r
  | dik r => cases hl
  | dit r => cases hl
  | ins m r => exact .ins m h r
theorem RepO.repL {d : D} {o : HO} {a : Addr} {od : Obj} (r : RepO g H d o) (hl : lockO d = true) (h : H a = some (.frz od o)) : Rep g H d (.ref a) := by
  cases r with
  | lst r => cases hl
  | dik r => exact .dik h r
  | dit r => exact .dit h r
  | ins m r => cases hl
theorem RepO.next {d : D} {o : HO} (r : RepO g H d o) : ∀ φ, o ≠ .ext φ := by
  intro φ z
  subst z
  cases r
theorem RepO.mut {d : D} {o : HO} (r : RepO g H d o) : Mut (some o) := by
  cases r <;> trivial
end
/-! ### heaps -/
/-- the frozen part F of the heap H -/
structure WF (g : Gc) (F H : Hp) : Prop where
  sub : Same F H
  tup : ∀ a o, H a = some o → tupy o = true → F a = some o
  nt : ∀ a ps, F a ≠ some (.tbl ps)
  tab : LamX.Tabs g.T H
/-- from (F, H) to (F', H'): all stays (but at ra), what is new and frozen stands at new places -/
structure Gr (g : Gc) (ra : Option Addr) (F H F' H' : Hp) : Prop where
  wf : WF g F' H'
  f : Same F F'
  h : ∀ b o, H b = some o → (∀ ps, o ≠ .tbl ps) → some b ≠ ra → H' b = some o
  new : ∀ b, H b ≠ none → F' b = F b
section
variable {g : Gc} {ra : Option Addr} {F H F1 H1 F2 H2 : Hp}
theorem Gr.refl (w : WF g F H) : Gr g ra F H F H := ⟨w, Same.refl _, fun _ _ h _ _ => h, fun _ _ => rfl⟩
theorem Tabs_upd {T : List (Addr × Str)} {a : Addr} {o : HO} (t : LamX.Tabs T H) (n : H a = none) : LamX.Tabs T (upd H a o) :=
  t.ext fun b u e => by rw [upd_ne (ne_of_none e n)]; exact e
theorem Same_upd {a : Addr} {o : HO} (n : H a = none) : Same H (upd H a o) := fun b u e => by
  rw [upd_ne (ne_of_none e n)]
  exact e
/-- a new object, frozen -/
theorem WF.frz {a : Addr} {o : HO} (w : WF g F H) (n : H a = none) (nt : ∀ ps, o ≠ .tbl ps) : WF g (upd F a o) (upd H a o) := by
  have nF : F a = none := w.sub.free n
  refine ⟨fun b u e => ?_, fun b u e t => ?_, fun b ps e => ?_, Tabs_upd w.tab n⟩
  · by_cases hb : b = a
    · subst hb
      rw [upd_same] at e ⊢
      exact e
    · rw [upd_ne hb] at e ⊢
      exact w.sub _ _ e
  · by_cases hb : b = a
    · subst hb
      rw [upd_same] at e ⊢
      exact e
    · rw [upd_ne hb] at e ⊢
      exact w.tup _ _ e t
  · by_cases hb : b = a
    · subst hb
      rw [upd_same] at e
      exact nt ps (Option.some.inj e)
    · rw [upd_ne hb] at e
      exact w.nt _ _ e
theorem Gr.frz {a : Addr} {o : HO} (w : WF g F H) (n : H a = none) (nt : ∀ ps, o ≠ .tbl ps) : Gr g ra F H (upd F a o) (upd H a o) := by
  refine ⟨w.frz n nt, Same_upd (w.sub.free n), fun b u e _ _ => Same_upd n b u e, fun b hb => ?_⟩
  have : b ≠ a := fun z => by subst z; exact hb n
  rw [upd_ne this]
/-- a new object, not frozen -/
theorem WF.fresh {a : Addr} {o : HO} (w : WF g F H) (n : H a = none) (nt : tupy o = false) : WF g F (upd H a o) := by
  refine ⟨fun b u e => ?_, fun b u e t => ?_, w.nt, Tabs_upd w.tab n⟩
  · exact Same_upd n b u (w.sub _ _ e)
  · by_cases hb : b = a
    · subst hb
      rw [upd_same] at e
      rw [← Option.some.inj e, nt] at t
      cases t
    · rw [upd_ne hb] at e
      exact w.tup _ _ e t
theorem Gr.fresh {a : Addr} {o : HO} (w : WF g F H) (n : H a = none) (nt : tupy o = false) : Gr g ra F H F (upd H a o) :=
  ⟨w.fresh n nt, Same.refl _, fun b u e _ _ => Same_upd n b u e, fun _ _ => rfl⟩
theorem Gr.trans (x : Gr g ra F H F1 H1) (y : Gr g ra F1 H1 F2 H2) (k : ∀ b, H b ≠ none → H1 b ≠ none) : Gr g ra F H F2 H2 :=
  ⟨y.wf, x.f.trans y.f, fun b o e n r => y.h b o (x.h b o e n r) n r, fun b hb => (y.new b (k b hb)).trans (x.new b hb)⟩
end
/-! ### the state -/
/-- a def's entry -/
structure Cn extends Gc where
  ra : Option Addr
  H0 : Hp
  F0 : Hp
  fr : Bool
/-- slot i holds what is owned, at a -/
def Own (env : En) (σ : L2.St) (i : Nat) (a : Addr) : Prop := σ[i]? = some (some (.ref a)) ∧ ∃ d, env[i]? = some (.ow d) ∨ env[i]? = some (.rf d)
structure SR (c : Cn) (env : En) (σ : L2.St) (H F : Hp) : Prop where
  gr : Gr c.toGc c.ra c.F0 c.H0 F H
  there : ∀ b, c.H0 b ≠ none → H b ≠ none
  rt : ∀ a, c.ra = some a → c.H0 a ≠ none
  len : env.length = σ.length
  fz : ∀ (i : Nat) (d : D), env[i]? = some (.fz d) → ∃ v, σ[i]? = some (some v) ∧ Rep c.toGc F d v
  ow : ∀ (i : Nat) (d : D), env[i]? = some (.ow d) → ∃ a o, σ[i]? = some (some (.ref a)) ∧ H a = some o ∧ F a = none ∧ c.H0 a = none ∧ RepO c.toGc F d o
  rf : ∀ (i : Nat) (d : D), env[i]? = some (.rf d) → ∃ a o, c.ra = some a ∧ σ[i]? = some (some (.ref a)) ∧ H a = some o ∧ F a = none ∧ RepO c.toGc F d o
  apart : ∀ (i j : Nat) (a : Addr), Own env σ i a → Own env σ j a → i = j
section
variable {c : Cn} {env : En} {σ : L2.St} {H F H' F' : Hp}
theorem SR.wf (S : SR c env σ H F) : WF c.toGc F H := S.gr.wf
theorem SR.rtH (S : SR c env σ H F) (a : Addr) (e : c.ra = some a) : H a ≠ none := S.there a (S.rt a e)
/-- all grows -/
theorem SR.grow (S : SR c env σ H F) (x : Gr c.toGc none F H F' H') (t : ∀ b, H b ≠ none → H' b ≠ none) : SR c env σ H' F' where
  gr := ⟨x.wf, S.gr.f.trans x.f, fun b o e n r => x.h b o (S.gr.h b o e n r) n (by simp), fun b hb => (x.new b (S.there b hb)).trans (S.gr.new b hb)⟩
  there := fun b hb => t b (S.there b hb)
  rt := S.rt
  len := S.len
  fz := fun i d e => let ⟨v, h1, h2⟩ := S.fz i d e; ⟨v, h1, h2.mono x.f⟩
  ow := fun i d e => by
    obtain ⟨a, o, h1, h2, h3, h4, h5⟩ := S.ow i d e
    exact ⟨a, o, h1, x.h a o h2 h5.ntbl (by simp), (x.new a (by rw [h2]; simp)).trans h3, h4, h5.mono x.f⟩
  rf := fun i d e => by
    obtain ⟨a, o, h0, h1, h2, h3, h5⟩ := S.rf i d e
    exact ⟨a, o, h0, h1, x.h a o h2 h5.ntbl (by simp), (x.new a (by rw [h2]; simp)).trans h3, h5.mono x.f⟩
  apart := S.apart
end
end PV

namespace PV
open PySem PySem.Spec PyProof.Rows L2
/-! ### readings -/
def RepX (g : Gc) (F : Hp) (x : Xn) (cls : Value) (d : Option Addr) : Prop := ∃ C, g.mg x.cls = some (.ref C) ∧ cls = .ref C ∧ (match x.fs with
  | none => d = none
  | some fs => ∃ dx vs, d = some dx ∧ F dx = some (.xd vs) ∧ RepF g F fs vs)
abbrev Rl (α β : Type) := En → L2.St → Hp → Hp → α → β → Prop
def Okp (c : Cn) (W : WX) (σ : L2.St) (F : Hp) {α β : Type} (rl : Rl α β) (Q : β → Hp → Prop) : R α → Prop
  | .ok a e => ∀ b H' F', SR c e σ H' F' → Same F F' → rl e σ F' H' a b → Q b H'
  | .er x e => ∀ cls dx H' F', SR c e σ H' F' → Same F F' → RepX c.toGc F' x cls dx → W cls dx σ H'
  | .no => False
def tM (c : Cn) (W : WX) {α β : Type} (rl : Rl α β) (m : En → R α) : L2.St → Hp → (β → Hp → Prop) → Prop := fun σ H Q => ∃ env F, SR c env σ H F ∧ Okp c W σ F rl Q (m env)
abbrev rlE (c : Cn) : Rl D V := fun _ _ F _ d v => Rep c.toGc F d v
abbrev rlT : Rl Bool Bool := fun _ _ _ _ a b => a = b
abbrev tE (c : Cn) (W : WX) (m : En → R D) : TE := tM c W (rlE c) m
abbrev tT (c : Cn) (W : WX) (m : En → R Bool) : TT := tM c W rlT m
section
variable {c : Cn} {W : WX} {σ : L2.St} {H F F' : Hp} {env : En}
theorem Okp.mono {α β : Type} {rl : Rl α β} {Q : β → Hp → Prop} {r : R α} (h : Okp c W σ F rl Q r) (s : Same F F') : Okp c W σ F' rl Q r := by
  cases r with
  | ok a e => exact fun b H1 F1 S s1 q => h b H1 F1 S (s.trans s1) q
  | er x e => exact fun a b H1 F1 S s1 q => h a b H1 F1 S (s.trans s1) q
  | no => exact h
theorem Okp.imp {α β : Type} {rl : Rl α β} {Q Q' : β → Hp → Prop} {r : R α} (h : Okp c W σ F rl Q r) (k : ∀ a b, Q a b → Q' a b) : Okp c W σ F rl Q' r := by
  cases r with
  | ok a e => exact fun b H1 F1 S s1 q => k _ _ (h b H1 F1 S s1 q)
  | er x e => exact h
  | no => exact h
/-- one part, then the rest -/
theorem tM_bind {α β γ δ : Type} {rl : Rl α β} {rl' : Rl γ δ} {Q : δ → Hp → Prop} {K : β → Hp → Prop} {m : En → R α} {f : α → En → R γ} (S : SR c env σ H F) (h : Okp c W σ F rl' Q ((m env).bind f))
    (k : ∀ a e b H1 F1, SR c e σ H1 F1 → Same F F1 → rl e σ F1 H1 a b → Okp c W σ F1 rl' Q (f a e) → K b H1) : tM c W rl m σ H K := by
  refine ⟨env, F, S, ?_⟩
  cases e : m env with
  | ok a e1 =>
    rw [e] at h
    exact fun b H1 F1 S1 s1 q => k a e1 b H1 F1 S1 s1 q (Okp.mono h s1)
  | er x e1 =>
    rw [e] at h
    exact h
  | no =>
    rw [e] at h
    exact h
end
theorem _root_.L2.PE.imp {X : Cx} {e : Expr} {t t' : TE} (h : PE X e t) (k : ∀ σ H Q, t' σ H Q → t σ H Q) : PE X e t' := ⟨fun pins s σ H Q I q => h.run pins s σ H Q I (k _ _ _ q)⟩
theorem _root_.L2.PT.imp {X : Cx} {e : Expr} {t t' : TT} (h : PT X e t) (k : ∀ σ H Q, t' σ H Q → t σ H Q) : PT X e t' := ⟨fun pins s σ H Q I q => h.run pins s σ H Q I (k _ _ _ q)⟩
theorem _root_.L2.PW.imp {X : Cx} {e : Expr} {t t' : TT} (h : PW X e t) (k : ∀ σ H Q, t' σ H Q → t σ H Q) : PW X e t' := ⟨fun wh pins s σ H Q I q => h.run wh pins s σ H Q I (k _ _ _ q)⟩
theorem _root_.L2.PS.imp {X : Cx} {e : Stmt} {t t' : TS} (h : PS X e t) (k : ∀ D σ H, t' D σ H → t D σ H) : PS X e t' := ⟨fun pins s σ H D I q => h.run pins s σ H D I (k _ _ _ q)⟩
theorem _root_.L2.PSs.imp {X : Cx} {e : List Stmt} {t t' : TS} (h : PSs X e t) (k : ∀ D σ H, t' D σ H → t D σ H) : PSs X e t' := ⟨fun pins s σ H D I q => h.run pins s σ H D I (k _ _ _ q)⟩
/-! ### operands: computed, or a slot that is read when the operation is done -/
inductive Od where
  | m (f : En → R D) | s (i : Nat)
def val (env : En) (i : Nat) : Option D := match env[i]? with
  | some (.fz d) => some d
  | some (.ow d) => some d
  | some (.rf d) => some d
  | _ => none
abbrev Pd := Sum D Nat
def evP : List Od → En → R (List Pd)
  | [], env => .ok [] env
  | .m f :: r, env => (f env).bind fun d e => (evP r e).bind fun ps e' => .ok (.inl d :: ps) e'
  | .s i :: r, env => match val env i with
    | some _ => (evP r env).bind fun ps e' => .ok (.inr i :: ps) e'
    | none => .no
def fill : List Pd → En → Option (List D)
  | [], _ => some []
  | .inl d :: r, e => (fill r e).map (d :: ·)
  | .inr i :: r, e => (val e i).bind fun d => (fill r e).map (d :: ·)
def evA (os : List Od) (env : En) : R (List D) := (evP os env).bind fun ps e => match fill ps e with
  | some ds => .ok ds e
  | none => .no
def Od.t (c : Cn) (W : WX) : Od → TE
  | .m f => tE c W f
  | .s i => tVar i
def tOds (c : Cn) (W : WX) : List Od → TA
  | [] => tNil
  | o :: r => tCons (o.t c W) (tOds c W r)
/-- read now: stable, or a container as it stands -/
inductive Rep1 (g : Gc) (F H : Hp) (d : D) (v : V) : Prop
  | st : Rep g F d v → Rep1 g F H d v
  | own {a o} : v = .ref a → H a = some o → RepO g F d o → Rep1 g F H d v
inductive Rep1s (g : Gc) (F H : Hp) : List D → List V → Prop
  | nil : Rep1s g F H [] []
  | cons {x xs v vs} : Rep1 g F H x v → Rep1s g F H xs vs → Rep1s g F H (x :: xs) (v :: vs)
def RepP (g : Gc) (F : Hp) (σ : L2.St) : Pd → V → Prop
  | .inl d, v => Rep g F d v
  | .inr i, v => σ[i]? = some (some v)
inductive RepPs (g : Gc) (F : Hp) (σ : L2.St) : List Pd → List V → Prop
  | nil : RepPs g F σ [] []
  | cons {x xs v vs} : RepP g F σ x v → RepPs g F σ xs vs → RepPs g F σ (x :: xs) (v :: vs)
section
variable {c : Cn} {W : WX} {σ : L2.St} {H F F' : Hp} {env : En}
theorem RepP.mono {g : Gc} (s : Same F F') {p : Pd} {v : V} (h : RepP g F σ p v) : RepP g F' σ p v := by
  cases p with
  | inl d => exact Rep.mono s h
  | inr i => exact h
theorem SR.val (S : SR c env σ H F) {i : Nat} {d : D} (e : val env i = some d) : ∃ v, σ[i]? = some (some v) ∧ Rep1 c.toGc F H d v := by
  unfold PV.val at e
  split at e
  · rename_i d' h
    cases e
    obtain ⟨v, h1, h2⟩ := S.fz i d h
    exact ⟨v, h1, .st h2⟩
  · rename_i d' h
    cases e
    obtain ⟨a, o, h1, h2, h3, h4, h5⟩ := S.ow i d h
    exact ⟨_, h1, .own rfl h2 h5⟩
  · rename_i d' h
    cases e
    obtain ⟨a, o, h0, h1, h2, h3, h5⟩ := S.rf i d h
    exact ⟨_, h1, .own rfl h2 h5⟩
  · cases e
theorem fill_ok (S : SR c env σ H F) : ∀ {ps : List Pd} {vs : List V} {ds : List D}, RepPs c.toGc F σ ps vs → fill ps env = some ds → Rep1s c.toGc F H ds vs
  | _, _, _, .nil, e => by
    cases e
    exact .nil
  | .inl d :: r, _, _, .cons h t, e => by
    unfold fill at e
    cases q : fill r env with
    | none =>
      rw [q] at e
      cases e
    | some ds' =>
      rw [q] at e
      cases e
      exact .cons (.st h) (fill_ok S t q)
  | .inr i :: r, _, _, .cons h t, e => by
    unfold fill at e
    cases z : val env i with
    | none =>
      rw [z] at e
      cases e
    | some d =>
      rw [z] at e
      cases q : fill r env with
      | none =>
        rw [q] at e
        cases e
      | some ds' =>
        rw [q] at e
        cases e
        obtain ⟨v, h1, h2⟩ := S.val z
        have h' : σ[i]? = some (some _) := h
        rw [h1] at h'
        cases h'
        exact .cons h2 (fill_ok S t q)
theorem R.bind_assoc {α β γ : Type} (r : R α) (f : α → En → R β) (k : β → En → R γ) : (r.bind f).bind k = r.bind fun a e => (f a e).bind k := by
  cases r <;> rfl
theorem tOdsP {α β : Type} {rl : Rl α β} {Q : β → Hp → Prop} : ∀ (os : List Od) {env : En} {H F : Hp} {f : List Pd → En → R α} {K : List V → Hp → Prop} (S : SR c env σ H F) (h : Okp c W σ F rl Q ((evP os env).bind f))
    (k : ∀ ps e vs H1 F1, SR c e σ H1 F1 → Same F F1 → RepPs c.toGc F1 σ ps vs → Okp c W σ F1 rl Q (f ps e) → K vs H1), tOds c W os σ H K
  | [], env, H, F, f, K, S, h, k => k [] env [] H F S (Same.refl _) .nil h
  | .m g :: r, env, H, F, f, K, S, h, k => by
    have h' : Okp c W σ F rl Q ((g env).bind fun d e => (evP r e).bind fun ps e' => f (.inl d :: ps) e') := by
      have e : (evP (.m g :: r) env).bind f = (g env).bind fun d e => (evP r e).bind fun ps e' => f (.inl d :: ps) e' := by
        show ((g env).bind fun d e => (evP r e).bind fun ps e' => R.ok (.inl d :: ps) e').bind f = _
        rw [R.bind_assoc]
        congr 1
        funext d e
        rw [R.bind_assoc]
        rfl
      rw [← e]
      exact h
    refine tM_bind (rl := rlE c) S h' fun d e v H1 F1 S1 s1 r1 h1 => ?_
    exact tOdsP r S1 h1 fun ps e' vs H2 F2 S2 s2 r2 h2 => k (.inl d :: ps) e' (v :: vs) H2 F2 S2 (s1.trans s2) (.cons (show RepP c.toGc F2 σ (.inl d) v from Rep.mono s2 r1) r2) h2
  | .s i :: r, env, H, F, f, K, S, h, k => by
    cases z : val env i with
    | none =>
      have e : (evP (.s i :: r) env).bind f = .no := by
        show (match val env i with | some _ => _ | none => R.no : R (List Pd)).bind f = .no
        rw [z]
        rfl
      rw [e] at h
      exact h.elim
    | some d =>
      obtain ⟨v, h1, h2⟩ := S.val z
      have e : (evP (.s i :: r) env).bind f = (evP r env).bind fun ps e' => f (.inr i :: ps) e' := by
        show (match val env i with | some _ => (evP r env).bind fun ps e' => R.ok (.inr i :: ps) e' | none => R.no : R (List Pd)).bind f = _
        rw [z]
        show ((evP r env).bind fun ps e' => R.ok (.inr i :: ps) e').bind f = _
        rw [R.bind_assoc]
        rfl
      rw [e] at h
      refine ⟨v, h1, ?_⟩
      exact tOdsP r S h fun ps e' vs H2 F2 S2 s2 r2 h2 => k (.inr i :: ps) e' (v :: vs) H2 F2 S2 s2 (.cons (show RepP c.toGc F2 σ (.inr i) v from h1) r2) h2
/-- THE RULE for operands -/
theorem tOdsA {α β : Type} {rl : Rl α β} {Q : β → Hp → Prop} (os : List Od) {f : List D → En → R α} {K : List V → Hp → Prop} (S : SR c env σ H F) (h : Okp c W σ F rl Q ((evA os env).bind f))
    (k : ∀ ds e vs H1 F1, SR c e σ H1 F1 → Same F F1 → Rep1s c.toGc F1 H1 ds vs → Okp c W σ F1 rl Q (f ds e) → K vs H1) : tOds c W os σ H K := by
  unfold evA at h
  rw [R.bind_assoc] at h
  refine tOdsP os S h fun ps e vs H1 F1 S1 s1 r1 h1 => ?_
  cases q : fill ps e with
  | none =>
    rw [q] at h1
    exact h1.elim
  | some ds =>
    rw [q] at h1
    exact k ds e vs H1 F1 S1 s1 (fill_ok S1 r1 q) h1
end
/-! ### operations by data -/
/-- a place for a result: frozen -/
structure Go (g : Gc) (F H F' H' : Hp) : Prop where
  gr : Gr g none F H F' H'
  th : ∀ b, H b ≠ none → H' b ≠ none
theorem Go.refl {g : Gc} {F H : Hp} (w : WF g F H) : Go g F H F H := ⟨Gr.refl w, fun _ h => h⟩
theorem upd_there {H : Hp} {a : Addr} {o : HO} : ∀ b, H b ≠ none → upd H a o b ≠ none := fun b h => by
  unfold upd
  split
  · simp
  · exact h
theorem Go.frz {g : Gc} {F H : Hp} {a : Addr} {o : HO} (w : WF g F H) (n : H a = none) (nt : ∀ ps, o ≠ .tbl ps) : Go g F H (upd F a o) (upd H a o) := ⟨Gr.frz w n nt, upd_there⟩
theorem Go.trans {g : Gc} {F H F1 H1 F2 H2 : Hp} (x : Go g F H F1 H1) (y : Go g F1 H1 F2 H2) : Go g F H F2 H2 := ⟨x.gr.trans y.gr x.th, fun b h => y.th b (x.th b h)⟩
theorem SR.go {c : Cn} {env : En} {σ : L2.St} {H F H' F' : Hp} (S : SR c env σ H F) (x : Go c.toGc F H F' H') : SR c env σ H' F' := S.grow x.gr x.th
/-- an operation of values does what f does of data -/
def OpA (g : Gc) (r : List V → Hp → VK → Prop) (f : List D → Option D) : Prop := ∀ (ds : List D) (vs : List V) (d : D) (F H : Hp) (Q : VK), WF g F H → Rep1s g F H ds vs → f ds = some d →
  (∀ v H' F', Go g F H F' H' → Rep g F' d v → Q v H') → r vs H Q
def mOp (f : List D → Option D) (os : List Od) : En → R D := fun env => (evA os env).bind fun ds e => match f ds with
  | some d => .ok d e
  | none => .no
section
variable {c : Cn} {W : WX} {X : Cx}
theorem tOp_ok {r : List V → Hp → VK → Prop} {f : List D → Option D} {os : List Od} (ho : OpA c.toGc r f) {σ : L2.St} {H : Hp} {Q : VK} (h : tE c W (mOp f os) σ H Q) : tOds c W os σ H fun vs H1 => r vs H1 Q := by
  obtain ⟨env, F, S, h⟩ := h
  refine tOdsA os S h fun ds e vs H1 F1 S1 s1 r1 h1 => ?_
  cases q : f ds with
  | none =>
    rw [q] at h1
    exact h1.elim
  | some d =>
    rw [q] at h1
    exact ho ds vs d F1 H1 Q S1.wf r1 q fun v H2 F2 g2 rv => h1 v H2 F2 (S1.go g2) g2.gr.f rv
/-! ### names, constants -/
def mV (i : Nat) : En → R D := fun env => match env[i]? with
  | some (.fz d) => .ok d env
  | _ => .no
def mK (d : D) : En → R D := fun env => .ok d env
theorem re_var {i : Nat} {e : Expr} (h : PE X e (tVar i)) : PE X e (tE c W (mV i)) := h.imp fun σ H Q q => by
  obtain ⟨env, F, S, q⟩ := q
  unfold mV at q
  split at q
  · rename_i d z
    obtain ⟨v, h1, h2⟩ := S.fz i d z
    exact ⟨v, h1, q v H F S (Same.refl _) h2⟩
  · exact q.elim
theorem re_c {d : D} {v : V} {e : Expr} (h : PE X e (tC v)) (r : ∀ F, Rep c.toGc F d v) : PE X e (tE c W (mK d)) := h.imp fun σ H Q q => by
  obtain ⟨env, F, S, q⟩ := q
  exact q v H F S (Same.refl _) (r F)
theorem re_int {i j pos} : PE X (.Constant (.int i) j pos) (tE c W (mK (.int i))) := re_c pe_int fun _ => .int
theorem re_bl {b j pos} : PE X (.Constant (.bool b) j pos) (tE c W (mK (.bl b))) := re_c pe_bl fun _ => .bl
theorem re_non {j pos} : PE X (.Constant .none j pos) (tE c W (mK .non)) := re_c pe_non fun _ => .non
theorem re_str {x j pos} : PE X (.Constant (.str x) j pos) (tE c W (mK (.str x))) := re_c pe_str fun _ => .str
theorem re_fn {x : Str} {a : Addr} {pos : Pos} (hg : Gl X x) (hm : X.mg x = some (.ref a)) (hc : c.mg = X.mg) (hd : (x == ("__debug__" : Str)) = false := by decide) : PE X (.Name x pos) (tE c W (mK (.fn x))) :=
  re_c (pe_glob (v := .ref a) hg hm rfl hd) fun _ => .fn (by rw [hc]; exact hm)
/-- a constant of the module -/
theorem re_gint {x : Str} {i : Int} {pos : Pos} (hg : Gl X x) (hm : ∃ t, X.mg x = some (.int i t)) (hd : (x == ("__debug__" : Str)) = false := by decide) : PE X (.Name x pos) (tE c W (mK (.int i))) := by
  obtain ⟨t, hm⟩ := hm
  exact re_c (pe_glob (v := .int i) hg hm ⟨t, rfl⟩ hd) fun _ => .int
theorem re_gstr {x z : Str} {pos : Pos} (hg : Gl X x) (hm : ∃ t, X.mg x = some (.str z t)) (hd : (x == ("__debug__" : Str)) = false := by decide) : PE X (.Name x pos) (tE c W (mK (.str z))) := by
  obtain ⟨t, hm⟩ := hm
  exact re_c (pe_glob (v := .str z) hg hm ⟨t, rfl⟩ hd) fun _ => .str
/-! ### operators -/
variable {a b : Expr} {o1 o2 o3 : Od} {pos : Pos}
def r2 (r : R2) : List V → Hp → VK → Prop := fun vs H Q => match vs with
  | [x, y] => r x y H Q
  | _ => False
def r1 (r : V → Hp → VK → Prop) : List V → Hp → VK → Prop := fun vs H Q => match vs with
  | [x] => r x H Q
  | _ => False
theorem re_op {op : Operator} {r : R2} {f : List D → Option D} (ho : OpR X (binaryOp op) r) (hf : OpA c.toGc (r2 r) f) (ha : PE X a (o1.t c W)) (hb : PE X b (o2.t c W)) : PE X (.BinOp a op b pos) (tE c W (mOp f [o1, o2])) :=
  (pe_op ho ha hb).imp fun _ _ _ q => tOp_ok hf q
theorem re_un {op : UnaryOp} {r : V → Hp → VK → Prop} {f : List D → Option D} (ho : UnR X (unaryOp op) r) (hf : OpA c.toGc (r1 r) f) (ha : PE X a (o1.t c W)) : PE X (.UnaryOp op a pos) (tE c W (mOp f [o1])) :=
  (pe_un ho ha).imp fun _ _ _ q => tOp_ok hf q
theorem re_cmp {op : CmpOp} {r : R2} {f : List D → Option D} (ho : OpR X (compareOp op) r) (hf : OpA c.toGc (r2 r) f) (ha : PE X a (o1.t c W)) (hb : PE X b (o2.t c W)) (hm : behindInMarks op b = false) : PE X (.Compare a [op] [b] pos) (tE c W (mOp f [o1, o2])) :=
  (pe_cmpR ho ha hb hm).imp fun _ _ _ q => tOp_ok hf q
/-! ### tests -/
def mT (m : En → R D) : En → R Bool := fun env => (m env).bind fun d e => match d with
  | .bl b => .ok b e
  | _ => .no
theorem tT_ok {m : En → R D} {σ : L2.St} {H : Hp} {Q : Bool → Hp → Prop} (h : tT c W (mT m) σ H Q) : tE c W m σ H fun x H1 => ∃ k, x = .bl k ∧ Q k H1 := by
  obtain ⟨env, F, S, h⟩ := h
  refine tM_bind S h fun d e v H1 F1 S1 s1 r1 h1 => ?_
  cases r1 with
  | bl => exact ⟨_, rfl, h1 _ H1 F1 S1 (Same.refl _) rfl⟩
  | _ => exact h1.elim
theorem rt_cmp {op : CmpOp} {r : R2} {f : List D → Option D} (ho : OpR X (compareOp op) r) (hf : OpA c.toGc (r2 r) f) (ha : PE X a (o1.t c W)) (hb : PE X b (o2.t c W)) (hm : behindInMarks op b = false) : PT X (.Compare a [op] [b] pos) (tT c W (mT (mOp f [o1, o2]))) :=
  (pt_cmpR ho ha hb hm).imp fun _ _ _ q => tOp_ok hf (tT_ok q)
theorem rt_val {e : Expr} {m : En → R D} (h : PE X e (tE c W m)) (he : ∀ whole, isTrue e X.env whole = (do let v ← whole; standAt e.pos; holding [v] (truthy v)) := by intro _; rfl) : PT X e (tT c W (mT m)) :=
  (pt_val h he).imp fun _ _ _ q => tT_ok q
def mNot (m : En → R Bool) : En → R Bool := fun env => (m env).bind fun b e => .ok (!b) e
def mAnd (m n : En → R Bool) : En → R Bool := fun env => (m env).bind fun b e => if b = true then n e else .ok false e
def mOr (m n : En → R Bool) : En → R Bool := fun env => (m env).bind fun b e => if b = true then .ok true e else n e
variable {m n : En → R Bool} {rest : List Expr}
theorem rt_not (h : PT X a (tT c W m)) : PT X (.UnaryOp .Not a pos) (tT c W (mNot m)) := (pt_not h).imp fun σ H Q q => by
  obtain ⟨env, F, S, q⟩ := q
  exact tM_bind S q fun b e b' H1 F1 S1 s1 r1 h1 => by
    cases r1
    exact h1 _ H1 F1 S1 (Same.refl _) rfl
theorem rw_and1 (h : PT X a (tT c W m)) : PW X (.BoolOp .And [a] pos) (tT c W m) := pw_and1 h
theorem rw_or1 (h : PT X a (tT c W m)) : PW X (.BoolOp .Or [a] pos) (tT c W m) := pw_or1 h
theorem rw_and (ha : PT X a (tT c W m)) (hb : PW X (.BoolOp .And (b :: rest) pos) (tT c W n)) : PW X (.BoolOp .And (a :: b :: rest) pos) (tT c W (mAnd m n)) := (pw_and ha hb).imp fun σ H Q q => by
  obtain ⟨env, F, S, q⟩ := q
  refine tM_bind S q fun b e b' H1 F1 S1 s1 r1 h1 => ?_
  cases r1
  cases b with
  | true => exact iteT ⟨e, F1, S1, h1⟩
  | false => exact iteF (h1 _ H1 F1 S1 (Same.refl _) rfl)
theorem rw_or (ha : PT X a (tT c W m)) (hb : PW X (.BoolOp .Or (b :: rest) pos) (tT c W n)) : PW X (.BoolOp .Or (a :: b :: rest) pos) (tT c W (mOr m n)) := (pw_or ha hb).imp fun σ H Q q => by
  obtain ⟨env, F, S, q⟩ := q
  refine tM_bind S q fun b e b' H1 F1 S1 s1 r1 h1 => ?_
  cases r1
  cases b with
  | true => exact iteT (h1 _ H1 F1 S1 (Same.refl _) rfl)
  | false => exact iteF ⟨e, F1, S1, h1⟩
/-- as values -/
def mB (m : En → R Bool) : En → R D := fun env => (m env).bind fun b e => .ok (.bl b) e
def mAndV (m n : En → R D) : En → R D := fun env => (mT m env).bind fun b e => if b = true then n e else .ok (.bl false) e
def mOrV (m n : En → R D) : En → R D := fun env => (mT m env).bind fun b e => if b = true then .ok (.bl true) e else n e
def mNotV (m : En → R D) : En → R D := fun env => (mT m env).bind fun b e => .ok (.bl (!b)) e
variable {x y : En → R D}
theorem re_one {op} (h : PE X a (tE c W x)) : PE X (.BoolOp op [a] pos) (tE c W x) := pe_one h
theorem tEb {x : En → R D} {α β : Type} {rl : Rl α β} {Q : β → Hp → Prop} {σ : L2.St} {env : En} {H F : Hp} {f : Bool → En → R α} {K : Bool → Hp → Prop} (S : SR c env σ H F) (h : Okp c W σ F rl Q ((mT x env).bind f))
    (k : ∀ b e H1 F1, SR c e σ H1 F1 → Okp c W σ F1 rl Q (f b e) → K b H1) : tE c W x σ H fun v H1 => ∃ b, v = .bl b ∧ K b H1 := by
  unfold mT at h
  rw [R.bind_assoc] at h
  refine tM_bind S h fun d e v H1 F1 S1 s1 r1 h1 => ?_
  cases r1 with
  | bl => exact ⟨_, rfl, k _ e H1 F1 S1 h1⟩
  | _ => exact h1.elim
theorem re_and (ha : PE X a (tE c W x)) (hb : PE X (.BoolOp .And (b :: rest) pos) (tE c W y)) : PE X (.BoolOp .And (a :: b :: rest) pos) (tE c W (mAndV x y)) := (pe_and ha hb).imp fun σ H Q q => by
  obtain ⟨env, F, S, q⟩ := q
  refine tEb S q fun b e H1 F1 S1 h1 => ?_
  cases b with
  | true => exact iteT ⟨e, F1, S1, h1⟩
  | false => exact iteF (h1 _ H1 F1 S1 (Same.refl _) .bl)
theorem re_or (ha : PE X a (tE c W x)) (hb : PE X (.BoolOp .Or (b :: rest) pos) (tE c W y)) : PE X (.BoolOp .Or (a :: b :: rest) pos) (tE c W (mOrV x y)) := (pe_or ha hb).imp fun σ H Q q => by
  obtain ⟨env, F, S, q⟩ := q
  refine tEb S q fun b e H1 F1 S1 h1 => ?_
  cases b with
  | true => exact iteT (h1 _ H1 F1 S1 (Same.refl _) .bl)
  | false => exact iteF ⟨e, F1, S1, h1⟩
theorem re_not (ha : PE X a (tE c W x)) : PE X (.UnaryOp .Not a pos) (tE c W (mNotV x)) := (pe_not ha).imp fun σ H Q q => by
  obtain ⟨env, F, S, q⟩ := q
  exact tEb S q fun b e H1 F1 S1 h1 => h1 _ H1 F1 S1 (Same.refl _) .bl
def mIf (m : En → R Bool) (x y : En → R D) : En → R D := fun env => (m env).bind fun b e => if b = true then x e else y e
theorem re_if {cnd : Expr} (hc : PT X cnd (tT c W m)) (ha : PE X a (tE c W x)) (hb : PE X b (tE c W y)) : PE X (.IfExp cnd a b pos) (tE c W (mIf m x y)) := (pe_ifExp hc ha hb).imp fun σ H Q q => by
  obtain ⟨env, F, S, q⟩ := q
  refine tM_bind S q fun b e b' H1 F1 S1 s1 r1 h1 => ?_
  cases r1
  cases b with
  | true => exact iteT ⟨e, F1, S1, h1⟩
  | false => exact iteF ⟨e, F1, S1, h1⟩
/-- a < b < c -/
def mChain (f f' : List D → Option D) (x y z : En → R D) : En → R D := fun env => (x env).bind fun d1 e1 => (y e1).bind fun d2 e2 => match f [d1, d2] with
  | some (.bl true) => (z e2).bind fun d3 e3 => (match f' [d2, d3] with
    | some d => .ok d e3
    | none => .no)
  | some (.bl false) => .ok (.bl false) e2
  | _ => .no
variable {cc : Expr} {z : En → R D}
theorem chain_ok {r r' : R2} {f f' : List D → Option D} (hf : OpA c.toGc (r2 r) f) (hf' : OpA c.toGc (r2 r') f') {σ : L2.St} {H : Hp} {Q : VK} (q : tE c W (mChain f f' x y z) σ H Q) : tChain r r' (tE c W x) (tE c W y) (tE c W z) σ H Q := by
  obtain ⟨env, F, S, q⟩ := q
  refine tM_bind S q fun d1 e1 v1 H1 F1 S1 s1 r1 h1 => ?_
  refine tM_bind S1 h1 fun d2 e2 v2 H2 F2 S2 s2 r2' h2 => ?_
  have R : Rep1s c.toGc F2 H2 [d1, d2] [v1, v2] := .cons (.st (r1.mono s2)) (.cons (.st r2') .nil)
  split at h2
  · rename_i q
    refine hf [d1, d2] [v1, v2] _ F2 H2 _ S2.wf R q fun v H3 F3 g3 rv => ?_
    cases rv
    refine ⟨true, rfl, iteT ?_⟩
    refine tM_bind (S2.go g3) (Okp.mono h2 g3.gr.f) fun d3 e3 v3 H4 F4 S4 s4 r4 h4 => ?_
    split at h4
    · rename_i d q'
      exact hf' [d2, d3] [v2, v3] d F4 H4 _ S4.wf (.cons (.st ((r2'.mono g3.gr.f).mono s4)) (.cons (.st r4) .nil)) q' fun v H5 F5 g5 rv => h4 v H5 F5 (S4.go g5) g5.gr.f rv
    · exact h4.elim
  · rename_i q
    refine hf [d1, d2] [v1, v2] _ F2 H2 _ S2.wf R q fun v H3 F3 g3 rv => ?_
    cases rv
    refine ⟨false, rfl, iteF ?_⟩
    exact h2 _ H3 F3 (S2.go g3) g3.gr.f .bl
  · exact h2.elim
theorem re_chain {op op' : CmpOp} {r r' : R2} {f f' : List D → Option D} (ho : OpR X (compareOp op) r) (ho' : OpR X (compareOp op') r') (hf : OpA c.toGc (r2 r) f) (hf' : OpA c.toGc (r2 r') f') (ha : PE X a (tE c W x)) (hb : PE X b (tE c W y)) (hc : PE X cc (tE c W z))
    (hm : lastMarks [op, op'] [b, cc] = false := by with_unfolding_all rfl) :
    PE X (.Compare a [op, op'] [b, cc] pos) (tE c W (mChain f f' x y z)) := (pe_chain ho ho' ha hb hc hm).imp fun _ _ _ q => chain_ok hf hf' q
theorem rt_chain {op op' : CmpOp} {r r' : R2} {f f' : List D → Option D} (ho : OpR X (compareOp op) r) (ho' : OpR X (compareOp op') r') (hf : OpA c.toGc (r2 r) f) (hf' : OpA c.toGc (r2 r') f') (ha : PE X a (tE c W x)) (hb : PE X b (tE c W y)) (hc : PE X cc (tE c W z))
    (hm : lastMarks [op, op'] [b, cc] = false := by with_unfolding_all rfl) :
    PT X (.Compare a [op, op'] [b, cc] pos) (tT c W (mT (mChain f f' x y z))) := (pt_chain ho ho' ha hb hc hm).imp fun _ _ _ q => chain_ok hf hf' (tT_ok q)
end
end PV

namespace PV
open PySem PySem.Spec PyProof.Rows L2
/-! ### new containers -/
abbrev rlF (c : Cn) : Rl D V := fun e σ F H d v => ∃ a o, v = .ref a ∧ H a = some o ∧ F a = none ∧ c.H0 a = none ∧ c.ra ≠ some a ∧ (∀ i, ¬ Own e σ i a) ∧ RepO c.toGc F d o
abbrev tF (c : Cn) (W : WX) (m : En → R D) : TE := tM c W (rlF c) m
section
variable {c : Cn} {env : En} {σ : L2.St} {H F : Hp}
theorem SR.own_there (S : SR c env σ H F) {i : Nat} {a : Addr} (h : Own env σ i a) : H a ≠ none ∧ F a = none := by
  obtain ⟨h1, d, h2 | h2⟩ := h
  · obtain ⟨b, o, e1, e2, e3, _⟩ := S.ow i d h2
    rw [h1] at e1
    cases e1
    exact ⟨by rw [e2]; simp, e3⟩
  · obtain ⟨b, o, _, e1, e2, e3, _⟩ := S.rf i d h2
    rw [h1] at e1
    cases e1
    exact ⟨by rw [e2]; simp, e3⟩
theorem SR.fresh (S : SR c env σ H F) {a : Addr} {o : HO} (n : H a = none) (nt : tupy o = false) : SR c env σ (upd H a o) F := S.grow (Gr.fresh S.wf n nt) upd_there
theorem SR.h0 (S : SR c env σ H F) {a : Addr} (n : H a = none) : c.H0 a = none := by
  cases q : c.H0 a with
  | none => rfl
  | some o => exact absurd n (S.there a (by rw [q]; simp))
theorem SR.newF (S : SR c env σ H F) {a : Addr} {o : HO} {d : D} (n : H a = none) (r : RepO c.toGc F d o) : rlF c env σ F (upd H a o) d (.ref a) :=
  ⟨a, o, rfl, upd_same, S.wf.sub.free n, S.h0 n, fun z => S.rtH a z n, fun i h => (S.own_there h).1 n, r⟩
theorem SR.freeze (S : SR c env σ H F) {a : Addr} {o : HO} {d : D} (h : H a = some o) (hF : F a = none) (h0 : c.H0 a = none) (no : ∀ i, ¬ Own env σ i a) (r : RepO c.toGc F d o) : SR c env σ H (upd F a o) ∧ Same F (upd F a o) := by
  have sm : Same F (upd F a o) := Same_upd hF
  refine ⟨⟨⟨⟨fun b u e => ?_, fun b u e t => sm _ _ (S.wf.tup b u e t), fun b ps e => ?_, S.wf.tab⟩, S.gr.f.trans sm, S.gr.h, fun b hb => ?_⟩, S.there, S.rt, S.len, fun i d' e => ?_, fun i d' e => ?_, fun i d' e => ?_, S.apart⟩, sm⟩
  · by_cases hb : b = a
    · subst hb
      rw [upd_same] at e
      rw [h, e]
    · rw [upd_ne hb] at e
      exact S.wf.sub _ _ e
  · by_cases hb : b = a
    · subst hb
      rw [upd_same] at e
      exact r.ntbl ps (Option.some.inj e)
    · rw [upd_ne hb] at e
      exact S.wf.nt _ _ e
  · have : b ≠ a := fun z => by subst z; exact hb h0
    rw [upd_ne this]
    exact S.gr.new b hb
  · obtain ⟨v, h1, h2⟩ := S.fz i d' e
    exact ⟨v, h1, h2.mono sm⟩
  · obtain ⟨b, u, h1, h2, h3, h4, h5⟩ := S.ow i d' e
    have hb : b ≠ a := fun z => by subst z; exact no i ⟨h1, d', .inl e⟩
    exact ⟨b, u, h1, h2, by rw [upd_ne hb]; exact h3, h4, h5.mono sm⟩
  · obtain ⟨b, u, h0', h1, h2, h3, h5⟩ := S.rf i d' e
    have hb : b ≠ a := fun z => by subst z; exact no i ⟨h1, d', .inr e⟩
    exact ⟨b, u, h0', h1, h2, by rw [upd_ne hb]; exact h3, h5.mono sm⟩
end
theorem Tabs_put {T : List (Addr × Str)} {H : Hp} {a : Addr} {u o : HO} (t : LamX.Tabs T H) (h : H a = some u) (n1 : ∀ ps, u ≠ .tbl ps) (n2 : ∀ φ, u ≠ .ext φ) : LamX.Tabs T (upd H a o) := fun p hp => by
  obtain ⟨ps, h1, h2, h3⟩ := t p hp
  have nP : p.1 ≠ a := fun z => by
    rw [z, h] at h1
    exact n1 ps (Option.some.inj h1)
  refine ⟨ps, by rw [upd_ne nP]; exact h1, h2, fun pos cv hc => ?_⟩
  obtain ⟨cc, e1, e2⟩ := h3 pos cv hc
  have nc : cc ≠ a := fun z => by
    rw [z, h] at e2
    exact n2 _ (Option.some.inj e2)
  exact ⟨cc, e1, by rw [upd_ne nc]; exact e2⟩
theorem SR.lock {c : Cn} {env : En} {σ : L2.St} {H F : Hp} (S : SR c env σ H F) {a : Addr} {o : HO} {d : D} {od : Obj} (h : H a = some o) (hF : F a = none) (h0 : c.H0 a = none) (no : ∀ i, ¬ Own env σ i a) (r : RepO c.toGc F d o) : SR c env σ (upd H a (.frz od o)) (upd F a (.frz od o)) ∧ Same F (upd F a (.frz od o)) := by
  have sm : Same F (upd F a (.frz od o)) := Same_upd hF
  refine ⟨⟨⟨⟨fun b u e => ?_, fun b u e t => ?_, fun b ps e => ?_, Tabs_put S.wf.tab h r.ntbl r.next⟩, S.gr.f.trans sm, fun b u e n z => ?_, fun b hb => ?_⟩, fun b hb => upd_there b (S.there b hb), S.rt, S.len, fun i d' e => ?_, fun i d' e => ?_, fun i d' e => ?_, S.apart⟩, sm⟩
  · by_cases hb : b = a
    · subst hb
      rw [upd_same] at e ⊢
      exact e
    · rw [upd_ne hb] at e ⊢
      exact S.wf.sub _ _ e
  · by_cases hb : b = a
    · subst hb
      rw [upd_same] at e ⊢
      exact e
    · rw [upd_ne hb] at e ⊢
      exact S.wf.tup _ _ e t
  · by_cases hb : b = a
    · subst hb
      rw [upd_same] at e
      cases e
    · rw [upd_ne hb] at e
      exact S.wf.nt _ _ e
  · have hb : b ≠ a := fun z => by
      subst z
      rw [h0] at e
      cases e
    rw [upd_ne hb]
    exact S.gr.h b u e n z
  · have : b ≠ a := fun z => by subst z; exact hb h0
    rw [upd_ne this]
    exact S.gr.new b hb
  · obtain ⟨v, h1, h2⟩ := S.fz i d' e
    exact ⟨v, h1, h2.mono sm⟩
  · obtain ⟨b, u, h1, h2, h3, h4, h5⟩ := S.ow i d' e
    have hb : b ≠ a := fun z => by subst z; exact no i ⟨h1, d', .inl e⟩
    exact ⟨b, u, h1, by rw [upd_ne hb]; exact h2, by rw [upd_ne hb]; exact h3, h4, h5.mono sm⟩
  · obtain ⟨b, u, h0', h1, h2, h3, h5⟩ := S.rf i d' e
    have hb : b ≠ a := fun z => by subst z; exact no i ⟨h1, d', .inr e⟩
    exact ⟨b, u, h0', h1, by rw [upd_ne hb]; exact h2, by rw [upd_ne hb]; exact h3, h5.mono sm⟩
section
variable {c : Cn} {W : WX} {X : Cx}
/-- what is new, frozen -/
theorem re_fz {e : Expr} {m : En → R D} (h : PE X e (tF c W m)) : PE X e (tE c W m) := ⟨fun pins s σ H Q I q => by
  obtain ⟨env, F, S, q⟩ := q
  have q' : tF c W m σ H fun v H1 => ∃ a o e1 F1 d, v = .ref a ∧ SR c e1 σ H1 F1 ∧ H1 a = some o ∧ F1 a = none ∧ c.H0 a = none ∧ c.ra ≠ some a ∧ (∀ i, ¬ Own e1 σ i a) ∧ RepO c.toGc F1 d o ∧ (∀ v H' F', SR c e1 σ H' F' → Same F1 F' → Rep c.toGc F' d v → Q v H') := by
    refine ⟨env, F, S, ?_⟩
    cases z : m env with
    | ok d e1 =>
      rw [z] at q
      intro v H1 F1 S1 s1 ⟨a, o, ev, h1, h2, h3, h6, h4, h5⟩
      exact ⟨a, o, e1, F1, d, ev, S1, h1, h2, h3, h6, h4, h5, fun v H' F' S' s' r => q v H' F' S' (s1.trans s') r⟩
    | er x e1 =>
      rw [z] at q
      exact q
    | no =>
      rw [z] at q
      exact q
  refine thn (h.run pins s σ H _ I q') fun v s1 ⟨x, H1, I1, rx, a, o, e1, F1, d, ev, S1, h1, h2, h3, h6, h4, h5, k⟩ => ?_
  subst ev
  cases hl : lockO d with
  | false =>
    obtain ⟨S2, s2⟩ := S1.freeze h1 h2 h3 h4 h5
    exact ⟨_, H1, I1, rx, k _ H1 _ S2 s2 ((h5.mono s2).rep hl upd_same)⟩
  | true =>
    obtain ⟨od, I2⟩ := I1.lock h1 h5.mut
    obtain ⟨S2, s2⟩ := S1.lock (od := od) h1 h2 h3 h4 h5
    exact ⟨_, _, I2, rx, k _ _ _ S2 s2 ((h5.mono s2).repL hl upd_same)⟩⟩
/-- an operation that makes a new container -/
def OpF (g : Gc) (r : List V → Hp → VK → Prop) (f : List D → Option D) : Prop := ∀ (ds : List D) (vs : List V) (d : D) (F H : Hp) (Q : VK), WF g F H → Rep1s g F H ds vs → f ds = some d →
  (∀ a o, H a = none → RepO g F d o → Q (.ref a) (upd H a o)) → r vs H Q
theorem tOpF_ok {r : List V → Hp → VK → Prop} {f : List D → Option D} {os : List Od} (ho : OpF c.toGc r f) {σ : L2.St} {H : Hp} {Q : VK} (h : tF c W (mOp f os) σ H Q) : tOds c W os σ H fun vs H1 => r vs H1 Q := by
  obtain ⟨env, F, S, h⟩ := h
  refine tOdsA os S h fun ds e vs H1 F1 S1 s1 r1 h1 => ?_
  cases q : f ds with
  | none =>
    rw [q] at h1
    exact h1.elim
  | some d =>
    rw [q] at h1
    exact ho ds vs d F1 H1 Q S1.wf r1 q fun a o n ro => h1 (.ref a) _ F1 (S1.fresh n ro.ntup) (Same.refl _) (S1.newF n ro)
theorem OpF.opA {g : Gc} {r : List V → Hp → VK → Prop} {f : List D → Option D} (h : OpF g r f) (hl : ∀ ds d, f ds = some d → lockO d = false) : OpA g r f := fun ds vs d F H Q w R e k =>
  h ds vs d F H Q w R e fun a o n ro => k (.ref a) _ (upd F a o) (Go.frz w n ro.ntbl) ((ro.mono (Same_upd (w.sub.free n))).rep (hl ds d e) upd_same)
/-! ### several in a row, all of them kept -/
def evS : List (En → R D) → En → R (List D)
  | [], env => .ok [] env
  | m :: r, env => (m env).bind fun d e => (evS r e).bind fun ds e' => .ok (d :: ds) e'
def tMs (c : Cn) (W : WX) : List (En → R D) → TA
  | [] => tNil
  | m :: r => tCons (tE c W m) (tMs c W r)
theorem tMsA {α β : Type} {rl : Rl α β} {Q : β → Hp → Prop} {σ : L2.St} : ∀ (ms : List (En → R D)) {env : En} {H F : Hp} {f : List D → En → R α} {K : List V → Hp → Prop} (S : SR c env σ H F) (h : Okp c W σ F rl Q ((evS ms env).bind f))
    (k : ∀ ds e vs H1 F1, SR c e σ H1 F1 → Same F F1 → Reps c.toGc F1 ds vs → ds.length = ms.length → Okp c W σ F1 rl Q (f ds e) → K vs H1), tMs c W ms σ H K
  | [], env, H, F, f, K, S, h, k => k [] env [] H F S (Same.refl _) .nil rfl h
  | m :: r, env, H, F, f, K, S, h, k => by
    have e : (evS (m :: r) env).bind f = (m env).bind fun d e => (evS r e).bind fun ds e' => f (d :: ds) e' := by
      show ((m env).bind fun d e => (evS r e).bind fun ds e' => R.ok (d :: ds) e').bind f = _
      rw [R.bind_assoc]
      congr 1
      funext d e
      rw [R.bind_assoc]
      rfl
    rw [e] at h
    refine tM_bind (rl := rlE c) S h fun d e v H1 F1 S1 s1 r1 h1 => ?_
    exact tMsA r S1 h1 fun ds e' vs H2 F2 S2 s2 r2 hl h2 => k (d :: ds) e' (v :: vs) H2 F2 S2 (s1.trans s2) (.cons (r1.mono s2) r2) (by simp [hl]) h2
theorem ra_nil : PA X [] (tMs c W []) := pa_nil
theorem ra_cons {e : Expr} {es : List Expr} {m : En → R D} {ms : List (En → R D)} (ha : PE X e (tE c W m)) (hr : PA X es (tMs c W ms)) (hs : starEach (e :: es) X.env = (false, eval e X.env) :: starEach es X.env := by rfl) : PA X (e :: es) (tMs c W (m :: ms)) := pa_cons ha hr hs
theorem ro_nil : PA X [] (tOds c W []) := pa_nil
theorem ro_cons {e : Expr} {es : List Expr} {o : Od} {os : List Od} (ha : PE X e (o.t c W)) (hr : PA X es (tOds c W os)) (hs : starEach (e :: es) X.env = (false, eval e X.env) :: starEach es X.env := by rfl) : PA X (e :: es) (tOds c W (o :: os)) := pa_cons ha hr hs
def lim : Nat := 1000000
theorem lim_line {n : Nat} (h : n ≤ lim) : n ≤ sizeLine := Nat.le_trans h (by decide)
theorem lim_lt {n : Nat} (h : n < lim) : n < sizeLine := Nat.lt_of_lt_of_le h (by decide)
def mTup (ms : List (En → R D)) : En → R D := fun env => (evS ms env).bind fun ds e => .ok (.tup ds) e
def mLst (ms : List (En → R D)) : En → R D := fun env => (evS ms env).bind fun ds e => .ok (.lst ds) e
theorem Reps.length_eq {g : Gc} {F : Hp} {ds : List D} {vs : List V} (r : Reps g F ds vs) : vs.length = ds.length := r.length.symm
theorem re_tup {es : List Expr} {k : Nat} {ms : List (En → R D)} {pos : Pos} (h : PA X es (tMs c W ms)) (hl : ms.length ≤ lim := by decide) : PE X (.Tuple es k pos) (tE c W (mTup ms)) := (pe_tup h).imp fun σ H Q q => by
  obtain ⟨env, F, S, q⟩ := q
  refine tMsA ms S q fun ds e vs H1 F1 S1 s1 r1 hn h1 => ?_
  refine ⟨lim_line (by rw [r1.length_eq, hn]; exact hl), fun p n => ?_⟩
  have g2 := Go.frz S1.wf n (o := .tup vs) (fun ps z => by cases z)
  exact h1 _ _ _ (S1.go g2) g2.gr.f (.tup (SqT.of upd_same) (r1.mono g2.gr.f))
theorem re_lst {es : List Expr} {ms : List (En → R D)} {pos : Pos} (h : PA X es (tMs c W ms)) (hl : ms.length ≤ lim := by decide) : PE X (.List es pos) (tF c W (mLst ms)) := (pe_lst h).imp fun σ H Q q => by
  obtain ⟨env, F, S, q⟩ := q
  refine tMsA ms S q fun ds e vs H1 F1 S1 s1 r1 hn h1 => ?_
  refine ⟨lim_line (by rw [r1.length_eq, hn]; exact hl), fun p n => ?_⟩
  exact h1 _ _ F1 (S1.fresh n rfl) (Same.refl _) (S1.newF n (.lst r1))
end
/-! ### statements -/
inductive Rs where
  | nx (e : En) | rt (d : D) (e : En) | bk (e : En) | ct (e : En) | er (x : Xn) (e : En) | no
def R.bs {α : Type} (r : R α) (f : α → En → Rs) : Rs := match r with
  | .ok a e => f a e
  | .er x e => .er x e
  | .no => .no
def Rs.bind (r : Rs) (f : En → Rs) : Rs := match r with
  | .nx e => f e
  | r => r
/-- what is returned: kept, or new (c.fr) -/
def rlR (c : Cn) (e : En) (σ : L2.St) (F H : Hp) (d : D) (v : V) : Prop := if c.fr = true then rlF c e σ F H d v else Rep c.toGc F d v
def OkS (c : Cn) (W : WX) (F : Hp) (D : Ends) : Rs → Prop
  | .nx e => ∀ σ H' F', SR c e σ H' F' → Same F F' → D.nx σ H'
  | .rt d e => ∀ v σ H' F', SR c e σ H' F' → Same F F' → rlR c e σ F' H' d v → D.rt v H'
  | .bk e => ∀ σ H' F', SR c e σ H' F' → Same F F' → D.bk σ H'
  | .ct e => ∀ σ H' F', SR c e σ H' F' → Same F F' → D.ct σ H'
  | .er x e => ∀ cls dx σ H' F', SR c e σ H' F' → Same F F' → RepX c.toGc F' x cls dx → W cls dx σ H'
  | .no => False
def tS (c : Cn) (W : WX) (m : En → Rs) : TS := fun D σ H => ∃ env F, SR c env σ H F ∧ OkS c W F D (m env)
section
variable {c : Cn} {W : WX} {X : Cx} {F F' H : Hp} {Z : Ends} {σ : L2.St} {env : En}
theorem OkS.mono {r : Rs} (h : OkS c W F Z r) (s : Same F F') : OkS c W F' Z r := by
  cases r with
  | nx e => exact fun a b d S s1 => h a b d S (s.trans s1)
  | rt v e => exact fun a b d f S s1 q => h a b d f S (s.trans s1) q
  | bk e => exact fun a b d S s1 => h a b d S (s.trans s1)
  | ct e => exact fun a b d S s1 => h a b d S (s.trans s1)
  | er x e => exact fun a b d f g S s1 q => h a b d f g S (s.trans s1) q
  | no => exact h
/-- an expression, then the rest of the statement -/
theorem tM_bs {α β : Type} {rl : Rl α β} {K : β → Hp → Prop} {m : En → R α} {f : α → En → Rs} (S : SR c env σ H F) (h : OkS c W F Z ((m env).bs f))
    (k : ∀ a e b H1 F1, SR c e σ H1 F1 → Same F F1 → rl e σ F1 H1 a b → OkS c W F1 Z (f a e) → K b H1) : tM c W rl m σ H K := by
  refine ⟨env, F, S, ?_⟩
  cases e : m env with
  | ok a e1 =>
    rw [e] at h
    exact fun b H1 F1 S1 s1 q => k a e1 b H1 F1 S1 s1 q (OkS.mono h s1)
  | er x e1 =>
    rw [e] at h
    exact fun cls dx H1 F1 S1 s1 q => h cls dx σ H1 F1 S1 s1 q
  | no =>
    rw [e] at h
    exact h
def sSeq (m n : En → Rs) : En → Rs := fun env => (m env).bind n
def sNil : En → Rs := .nx
theorem rss_nil : PSs X [] (tS c W sNil) := pss_nil.imp fun D σ H ⟨env, F, S, q⟩ => q σ H F S (Same.refl _)
theorem rss_one {st : Stmt} {m : En → Rs} (h : PS X st (tS c W m)) : PSs X [st] (tS c W m) := pss_one h
theorem rss_cons {st : Stmt} {rest : List Stmt} {m n : En → Rs} (h1 : PS X st (tS c W m)) (h2 : PSs X rest (tS c W n)) : PSs X (st :: rest) (tS c W (sSeq m n)) := (pss_cons h1 h2).imp fun D σ H ⟨env, F, S, q⟩ => by
  refine ⟨env, F, S, ?_⟩
  unfold sSeq at q
  cases z : m env with
  | nx e =>
    rw [z] at q
    exact fun σ' H' F' S' s' => ⟨e, F', S', OkS.mono q s'⟩
  | rt v e =>
    rw [z] at q
    exact q
  | bk e =>
    rw [z] at q
    exact q
  | ct e =>
    rw [z] at q
    exact q
  | er x e =>
    rw [z] at q
    exact q
  | no =>
    rw [z] at q
    exact q
def sPass : En → Rs := .nx
def sBk : En → Rs := .bk
def sCt : En → Rs := .ct
theorem rs_pass {pos : Pos} : PS X (.Pass pos) (tS c W sPass) := ps_pass.imp fun D σ H ⟨env, F, S, q⟩ => q σ H F S (Same.refl _)
theorem rs_bk {pos : Pos} : PS X (.Break pos) (tS c W sBk) := ps_break.imp fun D σ H ⟨env, F, S, q⟩ => q σ H F S (Same.refl _)
theorem rs_ct {pos : Pos} : PS X (.Continue pos) (tS c W sCt) := ps_continue.imp fun D σ H ⟨env, F, S, q⟩ => q σ H F S (Same.refl _)
def sEx (m : En → R D) : En → Rs := fun env => (m env).bs fun _ e => .nx e
theorem rs_ex {e : Expr} {pos : Pos} {m : En → R D} (h : PE X e (tE c W m)) (hs : swapsWith e none pos.line X.env = pure false := by rfl) : PS X (.Expr e pos) (tS c W (sEx m)) := (ps_expr h hs).imp fun D σ H ⟨env, F, S, q⟩ =>
  tM_bs S q fun d e v H1 F1 S1 s1 r1 h1 => h1 σ H1 F1 S1 (Same.refl _)
def sRt (m : En → R D) : En → Rs := fun env => (m env).bs fun d e => .rt d e
theorem rs_rt {e : Expr} {pos : Pos} {m : En → R D} (h : PE X e (tE c W m)) (hf : c.fr = false := by rfl) : PS X (.Return (some e) pos) (tS c W (sRt m)) := (ps_ret h).imp fun D σ H ⟨env, F, S, q⟩ =>
  tM_bs S q fun d e v H1 F1 S1 s1 r1 h1 => h1 v σ H1 F1 S1 (Same.refl _) (by unfold rlR; rw [if_neg (by rw [hf]; exact Bool.false_ne_true)]; exact r1)
theorem rs_rtF {e : Expr} {pos : Pos} {m : En → R D} (h : PE X e (tF c W m)) (hf : c.fr = true := by rfl) : PS X (.Return (some e) pos) (tS c W (sRt m)) := (ps_ret h).imp fun D σ H ⟨env, F, S, q⟩ =>
  tM_bs S q fun d e v H1 F1 S1 s1 r1 h1 => h1 v σ H1 F1 S1 (Same.refl _) (by unfold rlR; rw [if_pos hf]; exact r1)
def sRtN : En → Rs := fun env => .rt .non env
theorem rs_rtN {pos : Pos} (hf : c.fr = false := by rfl) : PS X (.Return none pos) (tS c W sRtN) := ps_retN.imp fun D σ H ⟨env, F, S, q⟩ => q .non σ H F S (Same.refl _) (by unfold rlR; rw [if_neg (by rw [hf]; exact Bool.false_ne_true)]; exact .non)
def sIf (t : En → R Bool) (m n : En → Rs) : En → Rs := fun env => (t env).bs fun b e => if b = true then m e else n e
theorem rs_if {cnd : Expr} {a b : List Stmt} {pos : Pos} {t : En → R Bool} {m n : En → Rs} (hc : PT X cnd (tT c W t)) (ha : PSs X a (tS c W m)) (hb : PSs X b (tS c W n)) : PS X (.If cnd a b pos) (tS c W (sIf t m n)) :=
  (ps_if hc ha hb).imp fun D σ H ⟨env, F, S, q⟩ => by
    refine tM_bs S q fun d e v H1 F1 S1 s1 r1 h1 => ?_
    cases r1
    cases d with
    | true => exact iteT ⟨e, F1, S1, h1⟩
    | false => exact iteF ⟨e, F1, S1, h1⟩
/-! ### slots stored -/
def free (env : En) (i : Nat) : Bool := match env[i]? with
  | some (.rf _) => false
  | some _ => true
  | none => false
theorem SR.set (S : SR c env σ H F) {i : Nat} {d : PV.D} {v : V} (hf : free env i = true) (r : Rep c.toGc F d v) : SR c (env.set i (.fz d)) (σ.set i (some v)) H F := by
  have hi : i < env.length := by
    unfold free at hf
    by_cases h : i < env.length
    · exact h
    · rw [List.getElem?_eq_none (by omega)] at hf
      cases hf
  have hi2 : i < σ.length := S.len ▸ hi
  have own : ∀ j a, Own (env.set i (.fz d)) (σ.set i (some v)) j a → j ≠ i ∧ Own env σ j a := fun j a ⟨h1, d', h2⟩ => by
    have hj : j ≠ i := fun z => by
      subst z
      rw [List.getElem?_set_self hi] at h2
      rcases h2 with h2 | h2 <;> cases h2
    rw [List.getElem?_set_ne (Ne.symm hj)] at h1 h2
    exact ⟨hj, h1, d', h2⟩
  refine ⟨S.gr, S.there, S.rt, by simpa using S.len, fun j d' e => ?_, fun j d' e => ?_, fun j d' e => ?_, fun j k a h1 h2 => S.apart j k a (own j a h1).2 (own k a h2).2⟩
  · by_cases hj : j = i
    · subst hj
      rw [List.getElem?_set_self hi] at e
      cases e
      exact ⟨v, List.getElem?_set_self hi2, r⟩
    · rw [List.getElem?_set_ne (Ne.symm hj)] at e ⊢
      exact S.fz j d' e
  · by_cases hj : j = i
    · subst hj
      rw [List.getElem?_set_self hi] at e
      cases e
    · rw [List.getElem?_set_ne (Ne.symm hj)] at e ⊢
      exact S.ow j d' e
  · by_cases hj : j = i
    · subst hj
      rw [List.getElem?_set_self hi] at e
      cases e
    · rw [List.getElem?_set_ne (Ne.symm hj)] at e ⊢
      exact S.rf j d' e
theorem SR.setO (S : SR c env σ H F) {i : Nat} {d : PV.D} {v : V} (hf : free env i = true) (r : rlF c env σ F H d v) : SR c (env.set i (.ow d)) (σ.set i (some v)) H F := by
  obtain ⟨a, o, ev, h1, h2, h3, _, h4, h5⟩ := r
  subst ev
  have hi : i < env.length := by
    unfold free at hf
    by_cases h : i < env.length
    · exact h
    · rw [List.getElem?_eq_none (by omega)] at hf
      cases hf
  have hi2 : i < σ.length := S.len ▸ hi
  have own : ∀ j b, Own (env.set i (.ow d)) (σ.set i (some (.ref a))) j b → (j = i ∧ b = a) ∨ (j ≠ i ∧ Own env σ j b) := fun j b ⟨g1, d', g2⟩ => by
    by_cases hj : j = i
    · subst hj
      rw [List.getElem?_set_self hi2] at g1
      cases g1
      exact .inl ⟨rfl, rfl⟩
    · rw [List.getElem?_set_ne (Ne.symm hj)] at g1 g2
      exact .inr ⟨hj, g1, d', g2⟩
  refine ⟨S.gr, S.there, S.rt, by simpa using S.len, fun j d' e => ?_, fun j d' e => ?_, fun j d' e => ?_, fun j k b g1 g2 => ?_⟩
  · by_cases hj : j = i
    · subst hj
      rw [List.getElem?_set_self hi] at e
      cases e
    · rw [List.getElem?_set_ne (Ne.symm hj)] at e ⊢
      exact S.fz j d' e
  · by_cases hj : j = i
    · subst hj
      rw [List.getElem?_set_self hi] at e
      cases e
      exact ⟨a, o, List.getElem?_set_self hi2, h1, h2, h3, h5⟩
    · rw [List.getElem?_set_ne (Ne.symm hj)] at e ⊢
      exact S.ow j d' e
  · by_cases hj : j = i
    · subst hj
      rw [List.getElem?_set_self hi] at e
      cases e
    · rw [List.getElem?_set_ne (Ne.symm hj)] at e ⊢
      exact S.rf j d' e
  · rcases own j b g1 with ⟨e1, e2⟩ | ⟨e1, e2⟩ <;> rcases own k b g2 with ⟨e3, e4⟩ | ⟨e3, e4⟩
    · rw [e1, e3]
    · subst e2
      exact absurd e4 (h4 k)
    · subst e4
      exact absurd e2 (h4 j)
    · exact S.apart j k b e2 e4
def sSet (i : Nat) (m : En → R D) : En → Rs := fun env => (m env).bs fun d e => if free e i = true then .nx (e.set i (.fz d)) else .no
def sSetO (i : Nat) (m : En → R D) : En → Rs := fun env => (m env).bs fun d e => if free e i = true then .nx (e.set i (.ow d)) else .no
variable {i : Nat} {x : Str} {e : Expr} {pos pos' : Pos} {m : En → R PV.D}
theorem set_ok {D : Ends} (q : tS c W (sSet i m) D σ H) : tE c W m σ H fun v H1 => gName i v σ H1 D.nx := by
  obtain ⟨env, F, S, q⟩ := q
  refine tM_bs S q fun d e v H1 F1 S1 s1 r1 h1 => ?_
  split at h1
  · rename_i hf
    exact h1 _ H1 F1 (S1.set hf r1) (Same.refl _)
  · exact h1.elim
theorem setO_ok {D : Ends} (q : tS c W (sSetO i m) D σ H) : tF c W m σ H fun v H1 => gName i v σ H1 D.nx := by
  obtain ⟨env, F, S, q⟩ := q
  refine tM_bs S q fun d e v H1 F1 S1 s1 r1 h1 => ?_
  split at h1
  · rename_i hf
    exact h1 _ H1 F1 (S1.setO hf r1) (Same.refl _)
  · exact h1.elim
theorem rs_set (hN : X.N.Nodup) (hi : X.N[i]? = some x) (hx : Loc X.env.scope x) (he : PE X e (tE c W m)) (hs : swapsWith e (some (.Name x pos')) pos.line X.env = pure false := by rfl) (hf : X.fn x = true ∨ X.env.scope.names.lookup x = some .local := by first | exact .inl rfl | exact .inr rfl) :
    PS X (.Assign [.Name x pos'] e pos) (tS c W (sSet i m)) := (ps_set hN hi hx he hs hf).imp fun D σ H q => set_ok q
theorem rs_setO (hN : X.N.Nodup) (hi : X.N[i]? = some x) (hx : Loc X.env.scope x) (he : PE X e (tF c W m)) (hs : swapsWith e (some (.Name x pos')) pos.line X.env = pure false := by rfl) (hf : X.fn x = true ∨ X.env.scope.names.lookup x = some .local := by first | exact .inl rfl | exact .inr rfl) :
    PS X (.Assign [.Name x pos'] e pos) (tS c W (sSetO i m)) := (ps_set hN hi hx he hs hf).imp fun D σ H q => setO_ok q
end
end PV

namespace PV
open PySem PySem.Spec PyProof.Rows L2
section
variable {c : Cn} {W : WX} {X : Cx} {F F' H : Hp} {Z : Ends} {σ : L2.St} {env : En}
/-! ### while -/
def whileN : Nat → (En → R Bool) → (En → Rs) → En → Rs
  | 0, _, _, _ => .no
  | n + 1, t, m, env => (t env).bs fun b e => if b = true then (match m e with
    | .nx e' => whileN n t m e'
    | .ct e' => whileN n t m e'
    | .bk e' => .nx e'
    | r => r) else .nx e
def fuel : Nat := 1000000000
def sWhile (t : En → R Bool) (m : En → Rs) : En → Rs := whileN fuel t m
/-- a loop's turn: what the body is to reach -/
theorem turn_ok {N : L2.St → Hp → Prop} {r : Rs} {k : En → Rs} (h : OkS c W F Z (match r with
    | .nx e' => k e'
    | .ct e' => k e'
    | .bk e' => .nx e'
    | r => r)) (hN : ∀ e σ H' F', SR c e σ H' F' → Same F F' → OkS c W F' Z (k e) → N σ H') : OkS c W F { Z with nx := N, ct := N, bk := Z.nx } r := by
  cases r with
  | nx e => exact fun σ H' F' S s => hN e σ H' F' S s (OkS.mono h s)
  | ct e => exact fun σ H' F' S s => hN e σ H' F' S s (OkS.mono h s)
  | bk e => exact h
  | rt d e => exact h
  | er x e => exact h
  | no => exact h
theorem while_ok {t : En → R Bool} {m : En → Rs} (q : tS c W (sWhile t m) Z σ H) : tWhile (tT c W t) (tS c W m) Z σ H := by
  obtain ⟨env, F, S, q⟩ := q
  refine ⟨fun n σ H => ∃ e F', SR c e σ H F' ∧ OkS c W F' Z (whileN n t m e), ⟨fuel, env, F, S, q⟩, ?_⟩
  rintro n σ H ⟨e, F', S, q⟩
  cases n with
  | zero => exact q.elim
  | succ n =>
    unfold whileN at q
    refine tM_bs S q fun b e1 b' H1 F1 S1 s1 r1 h1 => ?_
    cases r1
    cases b with
    | true =>
      refine iteT ⟨fun σ' H' => ∃ e F', SR c e σ' H' F' ∧ OkS c W F' Z (whileN n t m e), fun σ' H' h => ⟨n, Nat.lt_succ_self n, h⟩, e1, F1, S1, ?_⟩
      exact turn_ok (k := whileN n t m) h1 fun e σ H' F' S s q => ⟨e, F', S, q⟩
    | false => exact iteF (h1 σ H1 F1 S1 (Same.refl _))
theorem rs_while {cnd : Expr} {body : List Stmt} {pos : Pos} {t : En → R Bool} {m : En → Rs} (hp : PassesOwn (model X.prog X.w) X.A X.env X.xe) (hc : PT X cnd (tT c W t)) (hb : PSs X body (tS c W m)) : PS X (.While cnd body [] pos) (tS c W (sWhile t m)) :=
  (ps_while hp hc hb).imp fun Z σ H q => while_ok q
/-! ### targets -/
inductive Tg where
  | n (i : Nat) | t (ts : List Tg)
mutual
def bindT : Tg → D → En → Option En
  | .n i, d, e => if free e i = true then some (e.set i (.fz d)) else none
  | .t ts, d, e => match d with
    | .tup xs => bindTs ts xs e
    | _ => none
def bindTs : List Tg → List D → En → Option En
  | [], [], e => some e
  | t :: ts, d :: ds, e => (bindT t d e).bind fun e1 => bindTs ts ds e1
  | _, _, _ => none
end
mutual
def hasT : Tg → Nat → Bool
  | .n i, j => i == j
  | .t ts, j => hasTs ts j
def hasTs : List Tg → Nat → Bool
  | [], _ => false
  | t :: ts, j => hasT t j || hasTs ts j
end
def Off (T : Nat → Bool) (σ σ' : L2.St) : Prop := σ'.length = σ.length ∧ ∀ j, T j = false → σ'[j]? = σ[j]?
def tG (c : Cn) (T : Tg) : TG := fun v σ H Q => ∃ env F d, SR c env σ H F ∧ Rep c.toGc F d v ∧ (match bindT T d env with
  | some e => ∀ σ' H' F', SR c e σ' H' F' → Same F F' → Off (hasT T) σ σ' → Q σ' H'
  | none => False)
def tGs (c : Cn) (T : List Tg) : TGs := fun vs σ H Q => ∃ env F ds, SR c env σ H F ∧ Reps c.toGc F ds vs ∧ (match bindTs T ds env with
  | some e => ∀ σ' H' F', SR c e σ' H' F' → Same F F' → Off (hasTs T) σ σ' → Q σ' H'
  | none => False)
theorem _root_.L2.PG.imp {X : Cx} {e : Expr} {t t' : TG} (h : PG X e t) (k : ∀ v σ H Q, t' v σ H Q → t v σ H Q) : PG X e t' := ⟨fun pins s σ H v u Q I r q => h.run pins s σ H v u Q I r (k _ _ _ _ q)⟩
theorem _root_.L2.PGs.imp {X : Cx} {e : List Expr} {t t' : TGs} (h : PGs X e t) (k : ∀ v σ H Q, t' v σ H Q → t v σ H Q) : PGs X e t' := ⟨fun pins s σ H v u Q I r q => h.run pins s σ H v u Q I r (k _ _ _ _ q)⟩
theorem _root_.L2.PI.imp {X : Cx} {tg e : Expr} {t t' : TI} (h : PI X tg e t) (k : ∀ σ H Q, t' σ H Q → t σ H Q) : PI X tg e t' := ⟨fun pins s σ H R I q => h.run pins s σ H R I (k _ _ _ q)⟩
theorem rg_name {i : Nat} {x : Str} {pos : Pos} (hN : X.N.Nodup) (hi : X.N[i]? = some x) (hx : Loc X.env.scope x) (hf : X.fn x = true ∨ X.env.scope.names.lookup x = some .local := by first | exact .inl rfl | exact .inr rfl) : PG X (.Name x pos) (tG c (.n i)) :=
  (pg_name hN hi hx hf).imp fun v σ H Q ⟨env, F, d, S, r, h⟩ => by
    unfold bindT at h
    split at h
    · rename_i e z
      split at z
      · rename_i hf
        cases z
        refine h _ H F (S.set hf r) (Same.refl _) ⟨by simp, fun j hj => ?_⟩
        have ne : ¬ i = j := by
          unfold hasT at hj
          simpa using hj
        rw [List.getElem?_set_ne ne]
      · cases z
    · exact h.elim
theorem rgs_nil : PGs X [] (tGs c []) := pgs_nil.imp fun v σ H Q ⟨env, F, ds, S, r, h⟩ => by
  cases r with
  | nil =>
    unfold bindTs at h
    exact ⟨rfl, h σ H F S (Same.refl _) ⟨rfl, fun _ _ => rfl⟩⟩
  | cons a b =>
    unfold bindTs at h
    exact h.elim
theorem rgs_cons {e : Expr} {es : List Expr} {T : Tg} {Ts : List Tg} (h1 : PG X e (tG c T)) (h2 : PGs X es (tGs c Ts))
    (hs : (assignEach (e :: es) X.env).map (·.2) = assign e X.env :: (assignEach es X.env).map (·.2) := by rfl) : PGs X (e :: es) (tGs c (T :: Ts)) := (pgs_cons h1 h2 hs).imp fun v σ H Q ⟨env, F, ds, S, r, h⟩ => by
  match v, ds, r, h with
  | _, _, .nil, h =>
    unfold bindTs at h
    exact h.elim
  | _, _, @Reps.cons _ _ x xs v vs a b, h =>
    unfold bindTs at h
    refine ⟨v, vs, rfl, env, F, x, S, a, ?_⟩
    cases z : bindT T x env with
    | none =>
      rw [z] at h
      exact h.elim
    | some e1 =>
      rw [z] at h
      intro σ1 H1 F1 S1 s1 o1
      refine ⟨e1, F1, xs, S1, Reps.mono s1 b, ?_⟩
      have h' : (match bindTs Ts xs e1 with
        | some e => ∀ σ' H' F', SR c e σ' H' F' → Same F F' → Off (hasTs (T :: Ts)) σ σ' → Q σ' H'
        | none => False) := h
      cases z2 : bindTs Ts xs e1 with
      | none =>
        rw [z2] at h'
        exact h'
      | some e2 =>
        rw [z2] at h'
        refine fun σ2 H2 F2 S2 s2 o2 => h' σ2 H2 F2 S2 (s1.trans s2) ⟨o2.1.trans o1.1, fun j hj => ?_⟩
        unfold hasTs at hj
        rw [Bool.or_eq_false_iff] at hj
        rw [o2.2 j hj.2, o1.2 j hj.1]
theorem rg_tup {es : List Expr} {k : Nat} {Ts : List Tg} {pos : Pos} (hK : c.K = X.K) (hc : X.calm = true) (h : PGs X es (tGs c Ts)) (hst : (assignEach es X.env).findIdx? (·.1) = none := by rfl) (hl : (assignEach es X.env).length = Ts.length := by rfl) : PG X (.Tuple es k pos) (tG c (.t Ts)) :=
  (pg_tup (n := Ts.length) hc h hl hst).imp fun v σ H Q ⟨env, F, d, S, r, h⟩ => by
    match v, d, r, h with
    | _, _, @Rep.tup _ _ a xs vs q1 q2, h =>
      unfold bindT at h
      have hl : vs.length = Ts.length := by
        have h' : (match bindTs Ts xs env with
          | some e => ∀ σ' H' F', SR c e σ' H' F' → Same F F' → Off (hasT (.t Ts)) σ σ' → Q σ' H'
          | none => False) := h
        have len : ∀ (Ts : List Tg) (xs : List PV.D) (env e : En), bindTs Ts xs env = some e → xs.length = Ts.length := by
          intro Ts
          induction Ts with
          | nil =>
            intro xs env e z
            cases xs with
            | nil => rfl
            | cons y ys =>
              unfold bindTs at z
              cases z
          | cons T Ts ih =>
            intro xs env e z
            cases xs with
            | nil =>
              unfold bindTs at z
              cases z
            | cons y ys =>
              unfold bindTs at z
              cases z1 : bindT T y env with
              | none =>
                rw [z1] at z
                cases z
              | some e1 =>
                rw [z1] at z
                simp [ih ys e1 e z]
        cases z2 : bindTs Ts xs env with
        | none =>
          rw [z2] at h'
          exact h'.elim
        | some e2 => rw [← len Ts xs env e2 z2, q2.length]
      rw [← hK]
      refine ⟨a, vs, rfl, sqT_mono S.wf.sub q1, hl, env, F, xs, S, q2, ?_⟩
      have h' : (match bindTs Ts xs env with
        | some e => ∀ σ' H' F', SR c e σ' H' F' → Same F F' → Off (hasT (.t Ts)) σ σ' → Q σ' H'
        | none => False) := h
      cases z2 : bindTs Ts xs env with
      | none =>
        rw [z2] at h'
        exact h'
      | some e2 =>
        rw [z2] at h'
        exact fun σ' H' F' S' s' o' => h' σ' H' F' S' s' ⟨o'.1, fun j hj => o'.2 j (by unfold hasT at hj; exact hj)⟩
    | _, _, .non, h => unfold bindT at h; exact h.elim
    | _, _, .bl, h => unfold bindT at h; exact h.elim
    | _, _, .int, h => unfold bindT at h; exact h.elim
    | _, _, .str, h => unfold bindT at h; exact h.elim
    | _, _, .lst _ _, h => unfold bindT at h; exact h.elim
    | _, _, .dik _ _, h => unfold bindT at h; exact h.elim
    | _, _, .dit _ _, h => unfold bindT at h; exact h.elim
    | _, _, .ins _ _ _, h => unfold bindT at h; exact h.elim
    | _, _, .fn _, h => unfold bindT at h; exact h.elim
    | _, _, .ro _ _, h => unfold bindT at h; exact h.elim
/-! ### what is walked -/
/-- the iterator yields these, as long as the frozen part stays -/
structure ItS (g : Gc) (F : Hp) (J : It) (ds : List PV.D) : Prop where
  go : ∀ i d F' H', ds[i]? = some d → Same F F' → WF g F' H' → J.go i H' ∧ ∀ x H'', J.yld i H' x H'' → ∃ F'', Go g F' H' F'' H'' ∧ Rep g F'' d x
  stop : ∀ F' H', Same F F' → WF g F' H' → J.stop ds.length H'
abbrev rlI (c : Cn) : Rl (List PV.D) It := fun _ _ F _ ds J => ItS c.toGc F J ds
abbrev tI (c : Cn) (W : WX) (m : En → R (List PV.D)) : TI := tM c W (rlI c) m
theorem itS_list {g : Gc} {a : Addr} {vs : List V} {ds : List PV.D} (h : SqL g.K F a vs) (r : Reps g F ds vs) (fn : ∀ F' H', Same F F' → WF g F' H' → ∀ ys, SqL g.K H' a ys → ys = vs) : ItS g F (Itl g.K a) ds := by
  refine ⟨fun i d F' H' e s w => ?_, fun F' H' s w => ⟨vs, w.sub.seq (s.seq h), by rw [r.length]; exact Nat.le_refl _⟩⟩
  obtain ⟨v, hv, rv⟩ := r.get e
  refine ⟨⟨vs, v, w.sub.seq (s.seq h), hv⟩, fun x H'' y => ?_⟩
  obtain ⟨e1, e2⟩ := y
  subst e1
  have := e2 vs (w.sub.seq (s.seq h))
  rw [hv] at this
  cases this
  exact ⟨F', Go.refl w, rv.mono s⟩
/-- for: the turns -/
def forL (T : Tg) (m : En → Rs) : List PV.D → En → Rs
  | [], e => .nx e
  | d :: r, e => match bindT T d e with
    | none => .no
    | some e1 => (match m e1 with
      | .nx e2 => forL T m r e2
      | .ct e2 => forL T m r e2
      | .bk e2 => .nx e2
      | r' => r')
def sFor (mi : En → R (List PV.D)) (T : Tg) (m : En → Rs) : En → Rs := fun env => (mi env).bs fun ds e => forL T m ds e
theorem for_ok {mi : En → R (List PV.D)} {T : Tg} {m : En → Rs} (q : tS c W (sFor mi T m) Z σ H) : tFor (tI c W mi) (tG c T) (tS c W m) Z σ H := by
  obtain ⟨env, F, S, q⟩ := q
  refine tM_bs S q fun ds e J H1 F1 S1 s1 r1 h1 => ?_
  refine ⟨fun i n σ H => n + i = ds.length ∧ ∃ e F', SR c e σ H F' ∧ Same F1 F' ∧ OkS c W F' Z (forL T m (ds.drop i) e), ⟨ds.length, by simp, e, F1, S1, Same.refl _, h1⟩, ?_⟩
  rintro i n σ2 H2 ⟨hn, e2, F2, S2, s2, q2⟩
  by_cases hi : i < ds.length
  · have hd : ds.drop i = ds[i] :: ds.drop (i + 1) := List.drop_eq_getElem_cons hi
    rw [hd] at q2
    unfold forL at q2
    obtain ⟨g1, g2⟩ := r1.go i ds[i] F2 H2 (List.getElem?_eq_getElem hi) s2 S2.wf
    refine .inr ⟨g1, fun σ' H' => ∃ e F', SR c e σ' H' F' ∧ Same F1 F' ∧ OkS c W F' Z (forL T m (ds.drop (i + 1)) e), fun σ' H' h => ⟨n - 1, by omega, by omega, h⟩, fun x H3 y => ?_⟩
    obtain ⟨F3, go3, r3⟩ := g2 x H3 y
    refine ⟨e2, F3, ds[i], S2.go go3, r3, ?_⟩
    cases z : bindT T ds[i] e2 with
    | none =>
      rw [z] at q2
      exact q2.elim
    | some e3 =>
      rw [z] at q2
      intro σ4 H4 F4 S4 s4 _
      refine ⟨e3, F4, S4, ?_⟩
      have s24 : Same F2 F4 := go3.gr.f.trans s4
      exact turn_ok (k := forL T m (ds.drop (i + 1))) (OkS.mono (show OkS c W F2 Z (match m e3 with
        | .nx e2 => forL T m (ds.drop (i + 1)) e2
        | .ct e2 => forL T m (ds.drop (i + 1)) e2
        | .bk e2 => .nx e2
        | r' => r') from q2) s24) fun e σ H' F' S s q => ⟨e, F', S, (s2.trans s24).trans s, q⟩
  · have e : i = ds.length := by omega
    subst e
    rw [List.drop_length] at q2
    unfold forL at q2
    exact .inl ⟨r1.stop F2 H2 s2 S2.wf, q2 σ2 H2 F2 S2 (Same.refl _)⟩
theorem rs_for {tg iter : Expr} {body : List Stmt} {pos : Pos} {mi : En → R (List PV.D)} {T : Tg} {m : En → Rs} (hp : PassesOwn (model X.prog X.w) X.A X.env X.xe) (hc : X.calm = true) (hi : PI X tg iter (tI c W mi)) (hg : PG X tg (tG c T)) (hb : PSs X body (tS c W m))
    (hs : ∀ x, foldedSetIterable iter X.env x = pure x := by intro _; rfl) : PS X (.For tg iter body [] pos) (tS c W (sFor mi T m)) := (ps_for hp hc hi hg hb hs).imp fun Z σ H q => for_ok q
/-! ### comprehensions -/
def wipeE (e : En) : List Nat → En
  | [] => e
  | i :: r => (wipeE e r).set i .no
/-- slots of a block's own names as they were, if frozen -/
def backE (e0 e : En) : List Nat → En
  | [] => e
  | i :: r => (backE e0 e r).set i (match e0[i]? with
    | some (.fz d) => .fz d
    | _ => .no)
theorem wipeE_get {e : En} {i : Nat} {s : Sl} : ∀ {vs : List Nat}, (wipeE e vs)[i]? = some s → s = .no ∨ (e[i]? = some s ∧ i ∉ vs)
  | [], h => .inr ⟨h, by simp⟩
  | v :: vs, h => by
    unfold wipeE at h
    by_cases hi : v = i
    · subst hi
      by_cases hv : v < (wipeE e vs).length
      · rw [List.getElem?_set_self hv] at h
        exact .inl (Option.some.inj h).symm
      · rw [List.getElem?_eq_none (by simpa using hv)] at h
        cases h
    · rw [List.getElem?_set_ne hi] at h
      rcases wipeE_get h with h | ⟨h1, h2⟩
      · exact .inl h
      · exact .inr ⟨h1, by simp only [List.mem_cons, not_or]; exact ⟨fun e => hi e.symm, h2⟩⟩
theorem wipeE_len (e : En) : ∀ vs : List Nat, (wipeE e vs).length = e.length
  | [] => rfl
  | v :: vs => by unfold wipeE; rw [List.length_set, wipeE_len e vs]
theorem wipe_keep {σ : L2.St} {i : Nat} : ∀ {vs : List Nat}, i ∉ vs → (wipe σ vs)[i]? = σ[i]?
  | [], _ => rfl
  | v :: vs, h => by
    simp only [List.mem_cons, not_or] at h
    unfold wipe
    rw [List.getElem?_set_ne (Ne.symm h.1), wipe_keep h.2]
theorem SR.wipe (S : SR c env σ H F) (vs : List Nat) : SR c (wipeE env vs) (L2.wipe σ vs) H F := by
  have own : ∀ j a, Own (wipeE env vs) (L2.wipe σ vs) j a → Own env σ j a := fun j a ⟨h1, d', h2⟩ => by
    have h3 : env[j]? = some (.ow d') ∧ j ∉ vs ∨ env[j]? = some (.rf d') ∧ j ∉ vs := by
      rcases h2 with h2 | h2
      · rcases wipeE_get h2 with z | z
        · cases z
        · exact .inl z
      · rcases wipeE_get h2 with z | z
        · cases z
        · exact .inr z
    rcases h3 with ⟨h3, h4⟩ | ⟨h3, h4⟩
    · rw [wipe_keep h4] at h1
      exact ⟨h1, d', .inl h3⟩
    · rw [wipe_keep h4] at h1
      exact ⟨h1, d', .inr h3⟩
  refine ⟨S.gr, S.there, S.rt, by rw [wipeE_len, wipe_length]; exact S.len, fun i d e => ?_, fun i d e => ?_, fun i d e => ?_, fun i j a h1 h2 => S.apart i j a (own i a h1) (own j a h2)⟩
  · rcases wipeE_get e with z | ⟨z1, z2⟩
    · cases z
    · rw [wipe_keep z2]
      exact S.fz i d z1
  · rcases wipeE_get e with z | ⟨z1, z2⟩
    · cases z
    · rw [wipe_keep z2]
      exact S.ow i d z1
  · rcases wipeE_get e with z | ⟨z1, z2⟩
    · cases z
    · rw [wipe_keep z2]
      exact S.rf i d z1
theorem backE_len (e0 e : En) : ∀ vs : List Nat, (backE e0 e vs).length = e.length
  | [] => rfl
  | v :: vs => by unfold backE; rw [List.length_set, backE_len e0 e vs]
theorem backE_get {e0 e : En} {i : Nat} {s : Sl} : ∀ {vs : List Nat}, (backE e0 e vs)[i]? = some s → (i ∈ vs ∧ (s = .no ∨ ∃ d, s = .fz d ∧ e0[i]? = some (.fz d))) ∨ (e[i]? = some s ∧ i ∉ vs)
  | [], h => .inr ⟨h, by simp⟩
  | v :: vs, h => by
    unfold backE at h
    by_cases hi : v = i
    · subst hi
      by_cases hv : v < (backE e0 e vs).length
      · rw [List.getElem?_set_self hv] at h
        have h' := Option.some.inj h
        refine .inl ⟨by simp, ?_⟩
        split at h'
        · rename_i d z
          exact .inr ⟨d, h'.symm, z⟩
        · exact .inl h'.symm
      · rw [List.getElem?_eq_none (by simpa using hv)] at h
        cases h
    · rw [List.getElem?_set_ne hi] at h
      rcases backE_get h with ⟨h1, h2⟩ | ⟨h1, h2⟩
      · exact .inl ⟨List.mem_cons_of_mem _ h1, h2⟩
      · exact .inr ⟨h1, by simp only [List.mem_cons, not_or]; exact ⟨fun e => hi e.symm, h2⟩⟩
/-- behind a block -/
theorem SR.back {e0 e : En} {F0 H0 : Hp} {vs : List Nat} (S0 : SR c e0 σ H0 F0) (S : SR c e (L2.wipe σ vs) H F) (s : Same F0 F) : SR c (backE e0 e vs) σ H F := by
  have own : ∀ j a, Own (backE e0 e vs) σ j a → Own e (L2.wipe σ vs) j a := fun j a ⟨h1, d', h2⟩ => by
    have h3 : (e[j]? = some (.ow d') ∨ e[j]? = some (.rf d')) ∧ j ∉ vs := by
      rcases h2 with h2 | h2
      · rcases backE_get h2 with ⟨_, z | ⟨d, z, _⟩⟩ | ⟨z1, z2⟩
        · cases z
        · cases z
        · exact ⟨.inl z1, z2⟩
      · rcases backE_get h2 with ⟨_, z | ⟨d, z, _⟩⟩ | ⟨z1, z2⟩
        · cases z
        · cases z
        · exact ⟨.inr z1, z2⟩
    exact ⟨by rw [wipe_keep h3.2]; exact h1, d', h3.1⟩
  refine ⟨S.gr, S.there, S.rt, by rw [backE_len, S.len, wipe_length], fun i d z => ?_, fun i d z => ?_, fun i d z => ?_, fun i j a h1 h2 => S.apart i j a (own i a h1) (own j a h2)⟩
  · rcases backE_get z with ⟨_, z | ⟨d', z, z'⟩⟩ | ⟨z1, z2⟩
    · cases z
    · cases z
      obtain ⟨v, h1, h2⟩ := S0.fz i d z'
      exact ⟨v, h1, h2.mono s⟩
    · have := S.fz i d z1
      rw [wipe_keep z2] at this
      exact this
  · rcases backE_get z with ⟨_, z | ⟨d', z, z'⟩⟩ | ⟨z1, z2⟩
    · cases z
    · cases z
    · have := S.ow i d z1
      rw [wipe_keep z2] at this
      exact this
  · rcases backE_get z with ⟨_, z | ⟨d', z, z'⟩⟩ | ⟨z1, z2⟩
    · cases z
    · cases z
    · have := S.rf i d z1
      rw [wipe_keep z2] at this
      exact this
end
end PV

namespace PV
open PySem PySem.Spec PyProof.Rows L2
/-- nothing is let out -/
abbrev W0 : WX := fun _ _ _ _ => False
/-- one more object is kept -/
abbrev Cn.kp (c : Cn) (H0 : Hp) : Cn := { c with H0 := H0 }
section
variable {c : Cn} {W : WX} {X : Cx} {F F' H : Hp} {Z : Ends} {σ : L2.St} {env : En}
theorem SR.keep (S : SR c env σ H F) {a : Addr} {o : HO} (h : H a = some o) (hF : F a = none) (h0 : c.H0 a = none) (no : ∀ i, ¬ Own env σ i a) : SR (c.kp (upd c.H0 a o)) env σ H F := by
  have f0 : c.F0 a = none := S.gr.f.free hF
  refine ⟨⟨S.wf, S.gr.f, fun b u e n r => ?_, fun b hb => ?_⟩, fun b hb => ?_, fun b e => upd_there b (S.rt b e), S.len, S.fz, fun i d e => ?_, S.rf, S.apart⟩
  · by_cases hb : b = a
    · subst hb
      have e' : upd c.H0 b o b = some u := e
      rw [upd_same] at e'
      rw [h, e']
    · have e' : upd c.H0 a o b = some u := e
      rw [upd_ne hb] at e'
      exact S.gr.h b u e' n r
  · by_cases hz : b = a
    · subst hz
      exact hF.trans f0.symm
    · have hb' : upd c.H0 a o b ≠ none := hb
      rw [upd_ne hz] at hb'
      exact S.gr.new b hb'
  · by_cases hz : b = a
    · subst hz
      rw [h]
      simp
    · have hb' : upd c.H0 a o b ≠ none := hb
      rw [upd_ne hz] at hb'
      exact S.there b hb'
  · obtain ⟨b, u, h1, h2, h3, h4, h5⟩ := S.ow i d e
    have hb : b ≠ a := fun z => by subst z; exact no i ⟨h1, d, .inl e⟩
    refine ⟨b, u, h1, h2, h3, ?_, h5⟩
    show upd c.H0 a o b = none
    rw [upd_ne hb]
    exact h4
theorem SR.unkeep {a : Addr} {o : HO} (S : SR (c.kp (upd c.H0 a o)) env σ H F) (h0 : c.H0 a = none) (hr : c.ra ≠ some a) : SR c env σ H F := by
  have ne : ∀ b, c.H0 b ≠ none → upd c.H0 a o b = c.H0 b := fun b hb => upd_ne fun z => by subst z; exact hb h0
  have nn : ∀ b, upd c.H0 a o b = none → c.H0 b = none := fun b hb => by
    cases q : c.H0 b with
    | none => rfl
    | some u =>
      rw [ne b (by rw [q]; simp), q] at hb
      cases hb
  refine ⟨⟨S.wf, S.gr.f, fun b u e n r => S.gr.h b u ((ne b (by rw [e]; simp)).trans e) n r, fun b hb => S.gr.new b (show upd c.H0 a o b ≠ none by rw [ne b hb]; exact hb)⟩, fun b hb => S.there b (show upd c.H0 a o b ≠ none by rw [ne b hb]; exact hb), fun b e => by
    have h1 : upd c.H0 a o b ≠ none := S.rt b e
    rw [upd_ne fun z => hr (by rw [← z]; exact e)] at h1
    exact h1, S.len, S.fz, fun i d e => ?_, S.rf, S.apart⟩
  obtain ⟨b, u, h1, h2, h3, h4, h5⟩ := S.ow i d e
  exact ⟨b, u, h1, h2, h3, nn b h4, h5⟩
theorem SR.kept {a : Addr} {o : HO} (S : SR (c.kp (upd c.H0 a o)) env σ H F) (nt : ∀ ps, o ≠ .tbl ps) (hr : c.ra ≠ some a) (f0 : c.F0 a = none) : H a = some o ∧ F a = none ∧ ∀ i, ¬ Own env σ i a := by
  have hF : F a = none := (S.gr.new a (by show upd c.H0 a o a ≠ none; rw [upd_same]; simp)).trans f0
  refine ⟨S.gr.h a o upd_same nt (fun z => hr z.symm), hF, fun i ⟨h1, d, h2⟩ => ?_⟩
  rcases h2 with h2 | h2
  · obtain ⟨b, u, e1, e2, e3, e4, _⟩ := S.ow i d h2
    rw [h1] at e1
    cases e1
    have e4' : upd c.H0 a o a = none := e4
    rw [upd_same] at e4'
    cases e4'
  · obtain ⟨b, u, e0, e1, _⟩ := S.rf i d h2
    rw [h1] at e1
    cases e1
    exact hr e0
/-! ### [elt for target in iter if ..] -/
def lcL (T : Tg) (t : En → R Bool) (m : En → R PV.D) (vs : List Nat) : List PV.D → En → R (List PV.D)
  | [], e => .ok [] e
  | d :: r, e => match bindT T d e with
    | none => .no
    | some e1 => (match t e1 with
      | .ok true e2 => (match m e2 with
        | .ok y e3 => (lcL T t m vs r (wipeE e3 vs)).bind fun ys e' => .ok (y :: ys) e'
        | _ => .no)
      | .ok false e2 => lcL T t m vs r (wipeE e2 vs)
      | _ => .no)
def mLc (mi : En → R (List PV.D)) (T : Tg) (t : En → R Bool) (m : En → R PV.D) (vs : List Nat) : En → R PV.D := fun env => (mi env).bind fun ds e => if ds.length ≤ lim then (lcL T t m vs ds (wipeE e vs)).bind fun ys e' => .ok (.lst ys) (backE e e' vs) else .no
theorem wipe_wipe (σ : L2.St) : ∀ vs : List Nat, wipe (wipe σ vs) vs = wipe σ vs := by
  intro vs
  apply List.ext_getElem?
  intro i
  by_cases hi : i ∈ vs
  · have none_of : ∀ (σ : L2.St) (vs : List Nat), i ∈ vs → (wipe σ vs)[i]? = if i < σ.length then some none else none := by
      intro σ vs
      induction vs with
      | nil => intro h; cases h
      | cons w vs ih =>
        intro h
        unfold wipe
        by_cases e : w = i
        · subst e
          by_cases hl : w < σ.length
          · rw [if_pos hl, List.getElem?_set_self (by rw [wipe_length]; exact hl)]
          · rw [if_neg hl]
            exact List.getElem?_eq_none (by rw [List.length_set, wipe_length]; omega)
        · rw [List.getElem?_set_ne e]
          exact ih ((List.mem_cons.mp h).resolve_left fun z => e z.symm)
    rw [none_of _ vs hi, none_of _ vs hi, wipe_length]
  · rw [wipe_keep hi]
mutual
def okT (vs : List Nat) : Tg → Bool
  | .n i => vs.contains i
  | .t ts => okTs vs ts
def okTs (vs : List Nat) : List Tg → Bool
  | [] => true
  | t :: ts => okT vs t && okTs vs ts
end
mutual
theorem okT_has {vs : List Nat} {j : Nat} (hj : j ∉ vs) : ∀ {T : Tg}, okT vs T = true → hasT T j = false
  | .n i, h => by
    unfold okT at h
    unfold hasT
    have : i ∈ vs := by simpa using h
    have ne : i ≠ j := fun z => hj (z ▸ this)
    simpa using ne
  | .t ts, h => by
    unfold okT at h
    unfold hasT
    exact okTs_has hj h
theorem okTs_has {vs : List Nat} {j : Nat} (hj : j ∉ vs) : ∀ {Ts : List Tg}, okTs vs Ts = true → hasTs Ts j = false
  | [], h => by
    unfold hasTs
    rfl
  | t :: ts, h => by
    unfold okTs at h
    unfold hasTs
    rw [Bool.and_eq_true] at h
    rw [okT_has hj h.1, okTs_has hj h.2]
    rfl
end
theorem wipe_at {σ : L2.St} {i : Nat} : ∀ {vs : List Nat}, i ∈ vs → (wipe σ vs)[i]? = if i < σ.length then some none else none
  | w :: vs, h => by
    unfold wipe
    by_cases e : w = i
    · subst e
      by_cases hl : w < σ.length
      · rw [if_pos hl, List.getElem?_set_self (by rw [wipe_length]; exact hl)]
      · rw [if_neg hl]
        exact List.getElem?_eq_none (by rw [List.length_set, wipe_length]; omega)
    · rw [List.getElem?_set_ne e]
      exact wipe_at ((List.mem_cons.mp h).resolve_left fun z => e z.symm)
theorem wipe_off {T : Tg} {vs : List Nat} {σ σ' : L2.St} (h : okT vs T = true) (o : Off (hasT T) σ σ') : wipe σ' vs = wipe σ vs := by
  apply List.ext_getElem?
  intro i
  by_cases hi : i ∈ vs
  · rw [wipe_at hi, wipe_at hi, o.1]
  · rw [wipe_keep hi, wipe_keep hi, o.2 i (okT_has hi h)]
/-! ### a container written -/
/-- an object that no slot owns is written -/
theorem SR.put (S : SR c env σ H F) {a : Addr} {u o : HO} (h : H a = some u) (hF : F a = none) (h0 : c.H0 a = none) (no : ∀ i, ¬ Own env σ i a) (n1 : ∀ ps, u ≠ .tbl ps) (n2 : ∀ φ, u ≠ .ext φ) (n3 : tupy o = false) : SR c env σ (upd H a o) F := by
  have un : ∀ b, b ≠ a → upd H a o b = H b := fun b hb => upd_ne hb
  refine ⟨⟨⟨fun b w e => ?_, fun b w e t => ?_, S.wf.nt, Tabs_put S.wf.tab h n1 n2⟩, S.gr.f, fun b w e n r => ?_, S.gr.new⟩, fun b hb => upd_there b (S.there b hb), S.rt, S.len, S.fz, fun i d e => ?_, fun i d e => ?_, S.apart⟩
  · rw [un b fun z => by rw [z, hF] at e; cases e]
    exact S.wf.sub _ _ e
  · by_cases hb : b = a
    · subst hb
      rw [upd_same] at e
      rw [← Option.some.inj e, n3] at t
      cases t
    · rw [un b hb] at e
      exact S.wf.tup _ _ e t
  · rw [un b fun z => by rw [z, h0] at e; cases e]
    exact S.gr.h b w e n r
  · obtain ⟨b, w, h1, h2, h3⟩ := S.ow i d e
    have hb : b ≠ a := fun z => by subst z; exact no i ⟨h1, d, .inl e⟩
    exact ⟨b, w, h1, by rw [un b hb]; exact h2, h3⟩
  · obtain ⟨b, w, h0', h1, h2, h3⟩ := S.rf i d e
    have hb : b ≠ a := fun z => by subst z; exact no i ⟨h1, d, .inr e⟩
    exact ⟨b, w, h0', h1, by rw [un b hb]; exact h2, h3⟩
theorem own_back {e0 e : En} {vs : List Nat} {j : Nat} {a : Addr} (h : Own (backE e0 e vs) σ j a) : Own e (wipe σ vs) j a := by
  obtain ⟨h1, d', h2⟩ := h
  have h3 : (e[j]? = some (.ow d') ∨ e[j]? = some (.rf d')) ∧ j ∉ vs := by
    rcases h2 with h2 | h2
    · rcases backE_get h2 with ⟨_, z | ⟨d, z, _⟩⟩ | ⟨z1, z2⟩
      · cases z
      · cases z
      · exact ⟨.inl z1, z2⟩
    · rcases backE_get h2 with ⟨_, z | ⟨d, z, _⟩⟩ | ⟨z1, z2⟩
      · cases z
      · cases z
      · exact ⟨.inr z1, z2⟩
  exact ⟨by rw [wipe_keep h3.2]; exact h1, d', h3.1⟩
theorem own_wipe {vs : List Nat} {j : Nat} {a : Addr} (h : Own (wipeE env vs) (wipe σ vs) j a) : Own env σ j a := by
  obtain ⟨h1, d', h2⟩ := h
  have h3 : (env[j]? = some (.ow d') ∨ env[j]? = some (.rf d')) ∧ j ∉ vs := by
    rcases h2 with h2 | h2
    · rcases wipeE_get h2 with z | ⟨z1, z2⟩
      · cases z
      · exact ⟨.inl z1, z2⟩
    · rcases wipeE_get h2 with z | ⟨z1, z2⟩
      · cases z
      · exact ⟨.inr z1, z2⟩
  exact ⟨by rw [← wipe_keep h3.2]; exact h1, d', h3.1⟩
/-! ### the comprehension's reading -/
def tGx (c : Cn) (T : Tg) : TG := fun v σ H Q => ∃ H0, tG (c.kp H0) T v σ H Q
def tTx (c : Cn) (t : En → R Bool) : TT := fun σ H Q => ∃ H0, tT (c.kp H0) W0 t σ H Q
def tEx (c : Cn) (m : En → R PV.D) : TE := fun σ H Q => ∃ H0, tE (c.kp H0) W0 m σ H Q
theorem lc_ok {mi : En → R (List PV.D)} {T : Tg} {t : En → R Bool} {m : En → R PV.D} {vs : List Nat} {Q : VK} (hT : okT vs T = true) (q : tF c W (mLc mi T t m vs) σ H Q) : tLc (tI c W mi) (tGx c T) (tTx c t) (tEx c m) vs σ H Q := by
  obtain ⟨env, F, S, q⟩ := q
  refine tM_bind S q fun ds e0 J H1 F1 S1 s1 r1 h1 => ?_
  split at h1
  · rename_i hlen
    intro Dd nD
    have h0D : c.H0 Dd = none := S1.h0 nD
    have hrD : c.ra ≠ some Dd := fun z => S1.rtH Dd z nD
    have f0D : c.F0 Dd = none := S1.gr.f.free (S1.wf.sub.free nD)
    refine ⟨fun i n H' => n + i = ds.length ∧ ∃ e F' acc vacc, SR c e (wipe σ vs) H' F' ∧ Same F1 F' ∧ H' Dd = some (.lst vacc) ∧ F' Dd = none ∧ (∀ j, ¬ Own e (wipe σ vs) j Dd) ∧ Reps c.toGc F' acc vacc ∧ acc.length ≤ i ∧
      Okp c W σ F' (rlF c) Q ((lcL T t m vs (ds.drop i) e).bind fun ys e' => .ok (.lst (acc ++ ys)) (backE e0 e' vs)), ⟨ds.length, by simp, ?_⟩, ?_⟩
    · have SW := S1.wipe vs
      exact ⟨wipeE e0 vs, F1, [], [], SW.fresh nD rfl, Same.refl _, upd_same, S1.wf.sub.free nD, fun j h => (SW.own_there h).1 nD, .nil, Nat.zero_le _, h1⟩
    · rintro i n H2 ⟨hn, e, F2, acc, vacc, S2, s2, hD, hFD, no, ra, hacc, q2⟩
      by_cases hi : i < ds.length
      · have hd : ds.drop i = ds[i] :: ds.drop (i + 1) := List.drop_eq_getElem_cons hi
        rw [hd] at q2
        unfold lcL at q2
        obtain ⟨g1, g2⟩ := r1.go i ds[i] F2 H2 (List.getElem?_eq_getElem hi) s2 S2.wf
        refine .inr ⟨g1, fun H' => n - 1 + (i + 1) = ds.length ∧ ∃ e F' acc vacc, SR c e (wipe σ vs) H' F' ∧ Same F1 F' ∧ H' Dd = some (.lst vacc) ∧ F' Dd = none ∧ (∀ j, ¬ Own e (wipe σ vs) j Dd) ∧ Reps c.toGc F' acc vacc ∧ acc.length ≤ i + 1 ∧
          Okp c W σ F' (rlF c) Q ((lcL T t m vs (ds.drop (i + 1)) e).bind fun ys e' => .ok (.lst (acc ++ ys)) (backE e0 e' vs)), fun H' h => ⟨n - 1, by omega, h⟩, fun x H3 y => ?_⟩
        obtain ⟨F3, go3, r3⟩ := g2 x H3 y
        have S3 := S2.go go3
        have hD3 : H3 Dd = some (.lst vacc) := go3.gr.h Dd _ hD (fun ps z => by cases z) (by simp)
        have hF3 : F3 Dd = none := (go3.gr.new Dd (by rw [hD]; simp)).trans hFD
        have K3 := S3.keep hD3 hF3 h0D no
        refine ⟨upd c.H0 Dd (.lst vacc), e, F3, ds[i], K3, r3, ?_⟩
        cases z : bindT T ds[i] e with
        | none =>
          rw [z] at q2
          exact q2.elim
        | some e1 =>
          rw [z] at q2
          intro σ4 H4 F4 S4 s4 o4
          have ew : wipe σ4 vs = wipe σ vs := (wipe_off hT o4).trans (wipe_wipe σ vs)
          refine ⟨ew, upd c.H0 Dd (.lst vacc), e1, F4, S4, ?_⟩
          have s24 : Same F2 F4 := go3.gr.f.trans s4
          -- behind a turn
          have fin : ∀ {e5 : En} {H5 F5 : Hp}, SR (c.kp (upd c.H0 Dd (.lst vacc))) e5 σ4 H5 F5 → SR c (wipeE e5 vs) (wipe σ vs) H5 F5 ∧ H5 Dd = some (.lst vacc) ∧ F5 Dd = none ∧ ∀ j, ¬ Own (wipeE e5 vs) (wipe σ vs) j Dd := fun {e5 H5 F5} S5 => by
            obtain ⟨k1, k2, k3⟩ := S5.kept (fun ps z => by cases z) hrD f0D
            have S6 := (S5.unkeep h0D hrD).wipe vs
            rw [ew] at S6
            exact ⟨S6, k1, k2, fun j h => k3 j (own_wipe (by rw [ew]; exact h))⟩
          have q3 : Okp c W σ F2 (rlF c) Q ((match t e1 with
            | .ok true e2 => (match m e2 with
              | .ok y e3 => (lcL T t m vs (ds.drop (i + 1)) (wipeE e3 vs)).bind fun ys e' => R.ok (y :: ys) e'
              | _ => .no)
            | .ok false e2 => lcL T t m vs (ds.drop (i + 1)) (wipeE e2 vs)
            | _ => .no).bind fun ys e' => .ok (.lst (acc ++ ys)) (backE e0 e' vs)) := q2
          cases zt : t e1 with
          | ok b e2 =>
            rw [zt] at q3
            intro b' H5 F5 S5 s5 eb
            have eb' : b = b' := eb
            subst eb'
            have s25 : Same F2 F5 := s24.trans s5
            cases b with
            | true =>
              refine iteT ⟨upd c.H0 Dd (.lst vacc), e2, F5, S5, ?_⟩
              cases zm : m e2 with
              | ok y e3 =>
                simp only [zm] at q3
                rw [R.bind_assoc] at q3
                intro v H6 F6 S6 s6 rv
                obtain ⟨f1, f2, f3, f4⟩ := fin S6
                have s26 : Same F2 F6 := s25.trans s6
                have hl : vacc.length < lim := by rw [← ra.length]; omega
                refine ⟨vacc, f2, lim_lt hl, by omega, wipeE e3 vs, F6, acc ++ [y], vacc ++ [v], f1.put f2 f3 h0D f4 (fun ps z => by cases z) (fun φ z => by cases z) rfl, s2.trans s26, upd_same, f3, f4, (ra.mono s26).append (.cons rv .nil), by simp; omega, ?_⟩
                have q4 := Okp.mono q3 s26
                have ea : (fun (ys : List PV.D) (e' : En) => (R.ok (y :: ys) e' : R (List PV.D)).bind fun ys e' => R.ok (PV.D.lst (acc ++ ys)) (backE e0 e' vs)) = fun ys e' => R.ok (PV.D.lst ((acc ++ [y]) ++ ys)) (backE e0 e' vs) := by
                  funext ys e'
                  show R.ok (PV.D.lst (acc ++ (y :: ys))) _ = _
                  rw [List.append_assoc]
                  rfl
                rw [ea] at q4
                exact q4
              | er x e3 =>
                simp only [zm] at q3
                exact q3.elim
              | no =>
                simp only [zm] at q3
                exact q3.elim
            | false =>
              obtain ⟨f1, f2, f3, f4⟩ := fin S5
              refine iteF ⟨by omega, wipeE e2 vs, F5, acc, vacc, f1, s2.trans s25, f2, f3, f4, ra.mono s25, by omega, Okp.mono q3 s25⟩
          | er x e2 =>
            rw [zt] at q3
            exact q3.elim
          | no =>
            rw [zt] at q3
            exact q3.elim
      · have ei : i = ds.length := by omega
        subst ei
        rw [List.drop_length] at q2
        unfold lcL at q2
        have q2' : Okp c W σ F2 (rlF c) Q (.ok (.lst (acc ++ [])) (backE e0 e vs)) := q2
        rw [List.append_nil] at q2'
        exact .inl ⟨r1.stop F2 H2 s2 S2.wf, q2' (.ref Dd) H2 F2 (S1.back S2 s2) (Same.refl _) ⟨Dd, .lst vacc, rfl, hD, hFD, h0D, hrD, fun j h => no j (own_back h), .lst ra⟩⟩
  · exact h1.elim
theorem PGx {X : Cx} {e : Expr} {T : Tg} (h : ∀ H0, PG X e (tG (c.kp H0) T)) : PG X e (tGx c T) := ⟨fun pins s σ H v u Q I r ⟨H0, q⟩ => (h H0).run pins s σ H v u Q I r q⟩
theorem PEx {X : Cx} {e : Expr} {m : En → R PV.D} (h : ∀ H0, PE X e (tE (c.kp H0) W0 m)) : PE X e (tEx c m) := ⟨fun pins s σ H Q I ⟨H0, q⟩ => (h H0).run pins s σ H Q I q⟩
/-- the tests of a comprehension -/
def tYs : En → R Bool := fun e => .ok true e
theorem PTx0 {X : Cx} : PTs X [] (tTx c tYs) := ⟨fun pins s σ H Q I ⟨H0, env, F, S, q⟩ => pts_nil.run pins s σ H Q I (q true H F S (Same.refl _) rfl)⟩
theorem PTx1 {X : Cx} {e : Expr} {t : En → R Bool} (h : ∀ H0, PT X e (tT (c.kp H0) W0 t)) : PTs X [e] (tTx c t) := ⟨fun pins s σ H Q I ⟨H0, q⟩ => (pts_one (h H0)).run pins s σ H Q I q⟩
abbrev BX (X : Cx) (scope : Scope) : Type := (s : Shared) → (H : Hp) → (C : Addr) → (cl : List (Str × Addr)) → (fp : List Addr) → Cx
theorem re_lc {elt tg iter : Expr} {ifs : List Expr} {scope : Scope} {pos : Pos} {mi : En → R (List PV.D)} {T : Tg} {t : En → R Bool} {m : En → R PV.D} {own : List (Str × Nat)} (hc : X.calm = true) (hN : X.N.Nodup) (ok : BlkOk X.N X.env.scope scope own) (hT : okT (own.map (·.2)) T = true) (hi : PI X tg iter (tI c W mi))
    (hg : ∀ (s : Shared) (H : Hp) (C : Addr) (cl : List (Str × Addr)) (fp : List Addr), PG (X.blk s H scope (compEnvC scope cl C X.env) fp) tg (tGx c T)) (ht : ∀ (s : Shared) (H : Hp) (C : Addr) (cl : List (Str × Addr)) (fp : List Addr), PTs (X.blk s H scope (compEnvC scope cl C X.env) fp) ifs (tTx c t))
    (he : ∀ (s : Shared) (H : Hp) (C : Addr) (cl : List (Str × Addr)) (fp : List Addr), PE (X.blk s H scope (compEnvC scope cl C X.env) fp) elt (tEx c m)) (hs : ∀ x, foldedSetIterable iter X.env x = pure x := by intro _; rfl) :
    PE X (.ListComp elt [⟨tg, iter, ifs, 0⟩] scope pos) (tF c W (mLc mi T t m (own.map (·.2)))) := (pe_lc hc hN hi ok hg ht he hs).imp fun σ H Q q => lc_ok hT q
theorem rs_lc {i : Nat} {y : Str} {py : Pos} {elt tg iter : Expr} {ifs : List Expr} {scope : Scope} {pos spos : Pos} {mi : En → R (List PV.D)} {T : Tg} {t : En → R Bool} {m : En → R PV.D} {own : List (Str × Nat)} (hc : X.calm = true) (hN : X.N.Nodup) (hy : X.N[i]? = some y) (hyl : X.env.scope.names.lookup y = some .local)
    (hsw : swapsWith (.ListComp elt [⟨tg, iter, ifs, 0⟩] scope pos) (some (.Name y py)) spos.line X.env = pure true) (ok : BlkOk X.N X.env.scope scope own) (hT : okT (own.map (·.2)) T = true) (hi : PI X tg iter (tI c W mi))
    (hg : ∀ (s : Shared) (H : Hp) (C : Addr) (cl : List (Str × Addr)) (fp : List Addr), PG (X.blk s H scope (compEnvC scope cl C X.env) fp) tg (tGx c T)) (ht : ∀ (s : Shared) (H : Hp) (C : Addr) (cl : List (Str × Addr)) (fp : List Addr), PTs (X.blk s H scope (compEnvC scope cl C X.env) fp) ifs (tTx c t))
    (he : ∀ (s : Shared) (H : Hp) (C : Addr) (cl : List (Str × Addr)) (fp : List Addr), PE (X.blk s H scope (compEnvC scope cl C X.env) fp) elt (tEx c m)) (hs : ∀ x, foldedSetIterable iter X.env x = pure x := by intro _; rfl) :
    PS X (.Assign [.Name y py] (.ListComp elt [⟨tg, iter, ifs, 0⟩] scope pos) spos) (tS c W (sSetO i (mLc mi T t m (own.map (·.2))))) := (ps_setLc hc hN hy hyl hsw hi ok hg ht he hs).imp fun Z σ H q => by
  obtain ⟨env, F, S, q⟩ := q
  have h := setO_ok ⟨env, F, S, q⟩
  exact lc_ok hT h
end
end PV

namespace PV
open PySem PySem.Spec PyProof.Rows L2
/-! ### reading off -/
section
variable {g : Gc} {F H : Hp} {v : V}
theorem Rep1s.one {d : D} {vs : List V} (h : Rep1s g F H [d] vs) : ∃ x, vs = [x] ∧ Rep1 g F H d x := by
  match h with
  | .cons a .nil => exact ⟨_, rfl, a⟩
theorem Rep1s.two {d e : D} {vs : List V} (h : Rep1s g F H [d, e] vs) : ∃ x y, vs = [x, y] ∧ Rep1 g F H d x ∧ Rep1 g F H e y := by
  match h with
  | .cons a (.cons b .nil) => exact ⟨_, _, rfl, a, b⟩
theorem Rep1s.nil_ {vs : List V} (h : Rep1s g F H [] vs) : vs = [] := by
  cases h
  rfl
theorem Rep1.non_ (h : Rep1 g F H .non v) : v = .non := by
  rcases h with h | ⟨_, _, h⟩
  · cases h; rfl
  · cases h
theorem Rep1.bl_ {b : Bool} (h : Rep1 g F H (.bl b) v) : v = .bl b := by
  rcases h with h | ⟨_, _, h⟩
  · cases h; rfl
  · cases h
theorem Rep1.int_ {i : Int} (h : Rep1 g F H (.int i) v) : v = .int i := by
  rcases h with h | ⟨_, _, h⟩
  · cases h; rfl
  · cases h
theorem Rep1.str_ {z : Str} (h : Rep1 g F H (.str z) v) : v = .str z := by
  rcases h with h | ⟨_, _, h⟩
  · cases h; rfl
  · cases h
theorem Rep1.tup_ {xs : List D} (w : WF g F H) (h : Rep1 g F H (.tup xs) v) : ∃ a vs, v = .ref a ∧ SqT g.K H a vs ∧ SqT g.K F a vs ∧ Reps g F xs vs := by
  rcases h with h | ⟨_, _, h⟩
  · cases h with
    | tup h r => exact ⟨_, _, rfl, sqT_mono w.sub h, h, r⟩
  · cases h
theorem Rep1.lst_ {xs : List D} (w : WF g F H) (h : Rep1 g F H (.lst xs) v) : ∃ a vs, v = .ref a ∧ H a = some (.lst vs) ∧ Reps g F xs vs := by
  rcases h with h | ⟨e, h1, h⟩
  · cases h with
    | lst h r => exact ⟨_, _, rfl, w.sub _ _ h, r⟩
  · cases h with
    | lst r => exact ⟨_, _, e, h1, r⟩
theorem Rep1.ro_ {xs : List D} (w : WF g F H) (h : Rep1 g F H (.ro xs) v) : ∃ a vs, v = .ref a ∧ SqL g.K H a vs ∧ Reps g F xs vs := by
  rcases h with h | ⟨e, h1, h⟩
  · cases h with
    | ro h r => exact ⟨_, _, rfl, w.sub.seq h, r⟩
  · cases h
/-- the items of a list or tuple -/
def seqD : D → Option (List D)
  | .tup xs => some xs
  | .lst xs => some xs
  | .ro xs => some xs
  | _ => none
theorem Rep1.seq_ {d : D} {xs : List D} (w : WF g F H) (h : Rep1 g F H d v) (e : seqD d = some xs) : ∃ a vs, v = .ref a ∧ (SqL g.K H a vs ∨ SqT g.K H a vs) ∧ Reps g F xs vs := by
  cases d with
  | tup ys =>
    cases e
    obtain ⟨a, vs, h1, h2, _, h3⟩ := h.tup_ w
    exact ⟨a, vs, h1, .inr h2, h3⟩
  | lst ys =>
    cases e
    obtain ⟨a, vs, h1, h2, h3⟩ := h.lst_ w
    exact ⟨a, vs, h1, .inl (SqL.of h2), h3⟩
  | ro ys =>
    cases e
    obtain ⟨a, vs, h1, h2, h3⟩ := h.ro_ w
    exact ⟨a, vs, h1, .inl h2, h3⟩
  | _ => cases e
/-- .. of a list -/
def lstD : D → Option (List D)
  | .lst xs => some xs
  | .ro xs => some xs
  | _ => none
theorem Rep1.list_ {d : D} {xs : List D} (w : WF g F H) (h : Rep1 g F H d v) (e : lstD d = some xs) : ∃ a vs, v = .ref a ∧ SqL g.K H a vs ∧ Reps g F xs vs := by
  cases d with
  | lst ys =>
    cases e
    obtain ⟨a, vs, h1, h2, h3⟩ := h.lst_ w
    exact ⟨a, vs, h1, SqL.of h2, h3⟩
  | ro ys =>
    cases e
    obtain ⟨a, vs, h1, h2, h3⟩ := h.ro_ w
    exact ⟨a, vs, h1, h2, h3⟩
  | _ => cases e
/-- ints -/
def intsD : List D → Option (List Int)
  | [] => some []
  | .int i :: r => (intsD r).map (i :: ·)
  | _ :: _ => none
theorem Reps.ints : ∀ {ds : List D} {vs : List V} {ns : List Int}, Reps g F ds vs → intsD ds = some ns → vs = ns.map V.int
  | [], _, _, .nil, e => by
    cases e
    rfl
  | d :: ds, _, ns, .cons h t, e => by
    cases h with
    | int =>
      unfold intsD at e
      cases q : intsD ds with
      | none =>
        rw [q] at e
        cases e
      | some ms =>
        rw [q] at e
        cases e
        rw [Reps.ints t q]
        rfl
    | _ => cases e
theorem Reps.ofInts (ns : List Int) : Reps g F (ns.map D.int) (ns.map V.int) := by
  induction ns with
  | nil => exact .nil
  | cons n r ih => exact .cons .int ih
/-- bools -/
def blsD : List D → Option (List Bool)
  | [] => some []
  | .bl b :: r => (blsD r).map (b :: ·)
  | _ :: _ => none
theorem Reps.bls : ∀ {ds : List D} {vs : List V} {ns : List Bool}, Reps g F ds vs → blsD ds = some ns → vs = ns.map V.bl
  | [], _, _, .nil, e => by
    cases e
    rfl
  | d :: ds, _, ns, .cons h t, e => by
    cases h with
    | bl =>
      unfold blsD at e
      cases q : blsD ds with
      | none =>
        rw [q] at e
        cases e
      | some ms =>
        rw [q] at e
        cases e
        rw [Reps.bls t q]
        rfl
    | _ => cases e
theorem Reps.slice : ∀ {ds : List D} {vs : List V} (n m : Nat), Reps g F ds vs → Reps g F ((ds.drop n).take m) ((vs.drop n).take m) := by
  have tk : ∀ {ds : List D} {vs : List V} (m : Nat), Reps g F ds vs → Reps g F (ds.take m) (vs.take m) := by
    intro ds
    induction ds with
    | nil =>
      intro vs m h
      cases h
      simp
      exact .nil
    | cons d ds ih =>
      intro vs m h
      cases h with
      | cons a b =>
        cases m with
        | zero => exact .nil
        | succ m => exact .cons a (ih m b)
  have dp : ∀ {ds : List D} {vs : List V} (m : Nat), Reps g F ds vs → Reps g F (ds.drop m) (vs.drop m) := by
    intro ds
    induction ds with
    | nil =>
      intro vs m h
      cases h
      simp
      exact .nil
    | cons d ds ih =>
      intro vs m h
      cases h with
      | cons a b =>
        cases m with
        | zero => exact .cons a b
        | succ m => exact ih m b
  intro ds vs n m h
  exact tk m (dp n h)
end
/-! ### arithmetic -/
section
variable {g : Gc} {X : Cx}
def o2I (C : Int → Int → Bool) (k : Int → Int → D) : List D → Option D
  | [.int i, .int j] => if C i j = true then some (k i j) else none
  | _ => none
theorem oa_rI {C : Int → Int → Prop} {kv : Int → Int → V} {C' : Int → Int → Bool} {kd : Int → Int → D} (hC : ∀ i j, C' i j = true → C i j) (hk : ∀ i j F, Rep g F (kd i j) (kv i j)) : OpA g (r2 (rI C kv)) (o2I C' kd) := fun ds vs d F H Q w R e k => by
  unfold o2I at e
  split at e
  · rename_i i j
    split at e
    · rename_i hc
      cases e
      obtain ⟨x, y, rfl, h1, h2⟩ := R.two
      exact ⟨i, j, h1.int_, h2.int_, hC i j hc, k _ H F (Go.refl w) (hk i j F)⟩
    · cases e
  · cases e
theorem oa_rI0 {kv : Int → Int → V} {kd : Int → Int → D} (hk : ∀ i j F, Rep g F (kd i j) (kv i j)) : OpA g (r2 (rI0 kv)) (o2I (fun _ _ => true) kd) := fun ds vs d F H Q w R e k => by
  unfold o2I at e
  split at e
  · rename_i i j
    rw [if_pos rfl] at e
    cases e
    obtain ⟨x, y, rfl, h1, h2⟩ := R.two
    exact ⟨i, j, h1.int_, h2.int_, k _ H F (Go.refl w) (hk i j F)⟩
  · cases e
abbrev oSub : List D → Option D := o2I (fun _ _ => true) fun i j => .int (i - j)
theorem oa_sub : OpA g (r2 (rI0 fun i j => .int (i - j))) oSub := oa_rI0 fun _ _ _ => .int
abbrev oAnd : List D → Option D := o2I (fun _ _ => true) fun i j => .int (Builtin.bitAnd i j)
theorem oa_and : OpA g (r2 (rI0 fun i j => .int (Builtin.bitAnd i j))) oAnd := oa_rI0 fun _ _ _ => .int
abbrev oOr : List D → Option D := o2I (fun _ _ => true) fun i j => .int (Builtin.bitOr i j)
theorem oa_or : OpA g (r2 (rI0 fun i j => .int (Builtin.bitOr i j))) oOr := oa_rI0 fun _ _ _ => .int
abbrev oXor : List D → Option D := o2I (fun _ _ => true) fun i j => .int (Builtin.bitXor i j)
theorem oa_xor : OpA g (r2 (rI0 fun i j => .int (Builtin.bitXor i j))) oXor := oa_rI0 fun _ _ _ => .int
abbrev oLt : List D → Option D := o2I (fun _ _ => true) fun i j => .bl (decide (i < j))
theorem oa_lt : OpA g (r2 (rI0 fun i j => .bl (decide (i < j)))) oLt := oa_rI0 fun _ _ _ => .bl
abbrev oLe : List D → Option D := o2I (fun _ _ => true) fun i j => .bl (decide (i ≤ j))
theorem oa_le : OpA g (r2 (rI0 fun i j => .bl (decide (i ≤ j)))) oLe := oa_rI0 fun _ _ _ => .bl
abbrev oGt : List D → Option D := o2I (fun _ _ => true) fun i j => .bl (decide (j < i))
theorem oa_gt : OpA g (r2 (rI0 fun i j => .bl (decide (j < i)))) oGt := oa_rI0 fun _ _ _ => .bl
abbrev oGe : List D → Option D := o2I (fun _ _ => true) fun i j => .bl (decide (j ≤ i))
theorem oa_ge : OpA g (r2 (rI0 fun i j => .bl (decide (j ≤ i)))) oGe := oa_rI0 fun _ _ _ => .bl
def cMod (_ j : Int) : Bool := decide (j ≠ 0)
abbrev oMod : List D → Option D := o2I cMod fun i j => .int (i.fmod j)
theorem oa_mod : OpA g (r2 (rI (fun _ j => j ≠ 0) fun i j => .int (i.fmod j))) oMod := oa_rI (fun _ _ h => of_decide_eq_true h) fun _ _ _ => .int
def cFdiv (_ j : Int) : Bool := decide (0 < j) && decide (j.natAbs.log2 < 9000)
abbrev oFdiv : List D → Option D := o2I cFdiv fun i j => .int (i / j)
theorem oa_fdiv : OpA g (r2 (rI CDivW fun i j => .int (i / j))) oFdiv := oa_rI (fun i j h => by
  unfold cFdiv at h
  rw [Bool.and_eq_true] at h
  exact ⟨of_decide_eq_true h.1, of_decide_eq_true h.2⟩) fun _ _ _ => .int
def cPow (i j : Int) : Bool := decide (0 ≤ j) && (decide (j ≤ 1000000) && decide (i.natAbs < 2 ^ 64))
theorem cPow_ok {i j : Int} (h : cPow i j = true) : CPow i j := by
  unfold cPow at h
  rw [Bool.and_eq_true, Bool.and_eq_true] at h
  exact ⟨of_decide_eq_true h.1, of_decide_eq_true h.2.1, of_decide_eq_true h.2.2⟩
abbrev oPow : List D → Option D := o2I cPow fun i j => .int (i ^ j.toNat)
theorem oa_pow : OpA g (r2 (rI CPow fun i j => .int (i ^ j.toNat))) oPow := oa_rI (fun _ _ h => cPow_ok h) fun _ _ _ => .int
abbrev oShl : List D → Option D := o2I cPow fun i j => .int (i * 2 ^ j.toNat)
theorem oa_shl : OpA g (r2 (rI CPow fun i j => .int (i * 2 ^ j.toNat))) oShl := oa_rI (fun _ _ h => cPow_ok h) fun _ _ _ => .int
def cShr (_ j : Int) : Bool := decide (0 ≤ j)
abbrev oShr : List D → Option D := o2I cShr fun i j => .int (i / 2 ^ j.toNat)
theorem oa_shr : OpA g (r2 (rI (fun _ j => 0 ≤ j) fun i j => .int (i / 2 ^ j.toNat))) oShr := oa_rI (fun _ _ h => of_decide_eq_true h) fun _ _ _ => .int
def o1I (k : Int → D) : List D → Option D
  | [.int i] => some (k i)
  | _ => none
theorem oa_rU {kv : Int → V} {kd : Int → D} (hk : ∀ i F, Rep g F (kd i) (kv i)) : OpA g (r1 (rU kv)) (o1I kd) := fun ds vs d F H Q w R e k => by
  unfold o1I at e
  split at e
  · rename_i i
    cases e
    obtain ⟨x, rfl, h1⟩ := R.one
    exact ⟨i, h1.int_, k _ H F (Go.refl w) (hk i F)⟩
  · cases e
abbrev oNeg : List D → Option D := o1I fun i => .int (-i)
theorem oa_neg : OpA g (r1 (rU fun i => .int (-i))) oNeg := oa_rU fun _ _ => .int
abbrev oInv : List D → Option D := o1I fun i => .int (Builtin.bitNot i)
theorem oa_inv : OpA g (r1 (rU fun i => .int (Builtin.bitNot i))) oInv := oa_rU fun _ _ => .int
/-! ### + and * of all kinds -/
def rAddX (K : PySem.W.Frag) : R2 := fun x y H Q => rI0 (fun i j => .int (i + j)) x y H Q ∨ (∃ i j, x = .str i ∧ y = .str j ∧ i.length + j.length ≤ sizeLine ∧ Q (.str (i ++ j)) H) ∨ rCatA K x y H Q ∨ rCat x y H Q
theorem op_addX : OpR X (binaryOp .Add) (rAddX X.K) := op_add.or (op_add_str.or (op_catA.or op_cat))
def oAdd : List D → Option D
  | [.int i, .int j] => some (.int (i + j))
  | [.str x, .str y] => if x.length + y.length ≤ lim then some (.str (x ++ y)) else none
  | [.tup xs, .tup ys] => if xs.length + ys.length ≤ lim then some (.tup (xs ++ ys)) else none
  | [.lst xs, .lst ys] => if xs.length + ys.length ≤ lim then some (.lst (xs ++ ys)) else none
  | _ => none
def oCat : List D → Option D
  | [.lst xs, .lst ys] => if xs.length + ys.length ≤ lim then some (.lst (xs ++ ys)) else none
  | _ => none
theorem of_cat : OpF g (r2 rCat) oCat := fun ds vs d F H Q w R e k => by
  unfold oCat at e
  split at e
  · rename_i xs ys
    split at e
    · rename_i hz
      cases e
      obtain ⟨x, y, rfl, h1, h2⟩ := R.two
      obtain ⟨a, vs, rfl, ha, ra⟩ := h1.lst_ w
      obtain ⟨b, ws, rfl, hb, rb⟩ := h2.lst_ w
      exact ⟨a, b, vs, ws, rfl, rfl, ha, hb, lim_line (by rw [← ra.length, ← rb.length]; exact hz), fun p n => k p _ n (.lst (ra.append rb))⟩
    · cases e
  · cases e
theorem of_catX {K : PySem.W.Frag} : OpF g (r2 (rAddX K)) oCat := fun ds vs d F H Q w R e k => by
  have h := of_cat ds vs d F H Q w R e k
  match vs, h with
  | [x, y], h => exact .inr (.inr (.inr h))
theorem Reps.nil_iff {F : Hp} {xs : List D} {vs : List V} (r : Reps g F xs vs) : vs = [] ↔ xs = [] := by
  cases r <;> simp
theorem oa_add : OpA g (r2 (rAddX g.K)) oAdd := fun ds vs d F H Q w R e k => by
  unfold oAdd at e
  split at e
  · rename_i i j
    cases e
    obtain ⟨x, y, rfl, h1, h2⟩ := R.two
    exact .inl ⟨i, j, h1.int_, h2.int_, k _ H F (Go.refl w) .int⟩
  · rename_i x y
    split at e
    · rename_i hz
      cases e
      obtain ⟨_, _, rfl, h1, h2⟩ := R.two
      exact .inr (.inl ⟨x, y, h1.str_, h2.str_, lim_line hz, k _ H F (Go.refl w) .str⟩)
    · cases e
  · rename_i xs ys
    split at e
    · rename_i hz
      cases e
      obtain ⟨x, y, rfl, h1, h2⟩ := R.two
      obtain ⟨a, vs, rfl, ha, fa, ra⟩ := h1.tup_ w
      obtain ⟨b, ws, rfl, hb, fb, rb⟩ := h2.tup_ w
      refine .inr (.inr (.inl ⟨a, b, vs, ws, rfl, rfl, ha, hb, lim_line (by rw [← ra.length, ← rb.length]; exact hz), fun z => ?_, fun z1 z2 => ?_, fun z1 z2 p n => ?_⟩))
      · have : xs = [] := ra.nil_iff.mp z
        subst this
        exact k _ H F (Go.refl w) (.tup fb rb)
      · have : ys = [] := rb.nil_iff.mp z2
        subst this
        rw [List.append_nil] at k
        exact k _ H F (Go.refl w) (.tup fa ra)
      · have g2 := Go.frz w n (o := .tup (vs ++ ws)) (fun ps z => by cases z)
        exact k _ _ _ g2 (.tup (SqT.of upd_same) ((ra.append rb).mono g2.gr.f))
    · cases e
  · rename_i xs ys
    split at e
    · rename_i hz
      cases e
      have h := of_catX (K := g.K) [.lst xs, .lst ys] vs _ F H Q w R (if_pos hz) fun a o n ro => k _ _ _ (Go.frz w n ro.ntbl) ((ro.mono (Same_upd (w.sub.free n))).rep rfl upd_same)
      exact h
    · cases e
  · cases e
/-- * -/
def cMul (i j : Int) : Bool := decide (i.natAbs.log2 + j.natAbs.log2 < 1000000)
def rMulX (K : PySem.W.Frag) : R2 := fun x y H Q => rI CMulW (fun i j => .int (i * j)) x y H Q ∨ rRep x y H Q ∨ rRepT K x y H Q
theorem op_mulXX : OpR X (binaryOp .Mult) (rMulX X.K) := op_mulW.or (op_rep.or op_repT)
def oRep : List D → Option D
  | [.lst xs, .int k] => if xs.length * k.toNat ≤ lim ∧ -(2 ^ 63) ≤ k ∧ k < 2 ^ 63 then some (.lst (List.replicate k.toNat xs).flatten) else none
  | _ => none
theorem Reps.rep {F : Hp} {xs : List D} {vs : List V} (r : Reps g F xs vs) : ∀ n : Nat, Reps g F (List.replicate n xs).flatten (List.replicate n vs).flatten
  | 0 => .nil
  | n + 1 => by
    rw [List.replicate_succ, List.replicate_succ, List.flatten_cons, List.flatten_cons]
    exact r.append (Reps.rep r n)
theorem of_rep {K : PySem.W.Frag} : OpF g (r2 (rMulX K)) oRep := fun ds vs d F H Q w R e k => by
  unfold oRep at e
  split at e
  · rename_i xs n
    split at e
    · rename_i hz
      cases e
      obtain ⟨x, y, rfl, h1, h2⟩ := R.two
      obtain ⟨a, vs, rfl, ha, ra⟩ := h1.lst_ w
      exact .inr (.inl ⟨a, n, vs, rfl, h2.int_, ha, hz.2.1, hz.2.2, lim_line (by rw [← ra.length]; exact hz.1), fun p np => k p _ np (.lst (ra.rep _))⟩)
    · cases e
  · cases e
def oMul : List D → Option D
  | [.int i, .int j] => if cMul i j = true then some (.int (i * j)) else none
  | [.tup xs, .int k] => if xs.isEmpty = false ∧ 2 ≤ k ∧ k ≤ 1000 ∧ xs.length ≤ 1000 then some (.tup (List.replicate k.toNat xs).flatten) else none
  | ds => oRep ds
theorem oa_mul : OpA g (r2 (rMulX g.K)) oMul := fun ds vs d F H Q w R e k => by
  unfold oMul at e
  split at e
  · rename_i i j
    split at e
    · rename_i hz
      cases e
      obtain ⟨x, y, rfl, h1, h2⟩ := R.two
      exact .inl ⟨i, j, h1.int_, h2.int_, (show i.natAbs.log2 + j.natAbs.log2 < 1000000 from of_decide_eq_true (by unfold cMul at hz; exact hz)), k _ H F (Go.refl w) .int⟩
    · cases e
  · rename_i xs n
    split at e
    · rename_i hz
      cases e
      obtain ⟨x, y, rfl, h1, h2⟩ := R.two
      obtain ⟨a, vs, rfl, ha, fa, ra⟩ := h1.tup_ w
      refine .inr (.inr ⟨a, n, vs, rfl, h2.int_, ha, fun z => ?_, hz.2.1, hz.2.2.1, by rw [← ra.length]; exact hz.2.2.2, fun p np => ?_⟩)
      · rw [ra.nil_iff.mp z] at hz
        cases hz.1
      · have g2 := Go.frz w np (o := .tup (List.replicate n.toNat vs).flatten) (fun ps z => by cases z)
        exact k _ _ _ g2 (.tup (SqT.of upd_same) ((ra.rep _).mono g2.gr.f))
    · cases e
  · exact of_rep.opA (fun ds d e => by
      unfold oRep at e
      split at e
      · split at e
        · cases e; rfl
        · cases e
      · cases e) ds vs d F H Q w R e k
/-! ### == -/
mutual
def toP : D → Option PyData
  | .non => some .none
  | .bl b => some (.bool b)
  | .int i => some (.int i)
  | .str z => some (.str z)
  | .tup xs => (toPs xs).map .tuple
  | .lst xs => (toPs xs).map .list
  | _ => none
def toPs : List D → Option (List PyData)
  | [] => some []
  | d :: ds => match toP d, toPs ds with
    | some p, some ps => some (p :: ps)
    | _, _ => none
end
mutual
theorem dp_of {F H : Hp} (s : Same F H) : ∀ {d : D} {v : V} {p : PyData}, Rep g F d v → toP d = some p → Dp g.K H v p
  | _, _, _, .non, e => by unfold toP at e; cases e; exact .non
  | _, _, _, .bl, e => by unfold toP at e; cases e; exact .bl _
  | _, _, _, .int, e => by unfold toP at e; cases e; exact .int _
  | _, _, _, .str, e => by unfold toP at e; cases e; exact .str _
  | _, _, _, @Rep.tup _ _ a xs vs h r, e => by
    unfold toP at e
    cases q : toPs xs with
    | none =>
      rw [q] at e
      cases e
    | some ps =>
      rw [q] at e
      cases e
      exact .tup (sqT_mono s h) (dps_of s r q)
  | _, _, _, @Rep.lst _ _ a xs vs h r, e => by
    unfold toP at e
    cases q : toPs xs with
    | none =>
      rw [q] at e
      cases e
    | some ps =>
      rw [q] at e
      cases e
      exact .lst (SqL.of (s _ _ h)) (dps_of s r q)
  | _, _, _, .ro _ _, e => by unfold toP at e; cases e
  | _, _, _, .dik _ _, e => by unfold toP at e; cases e
  | _, _, _, .dit _ _, e => by unfold toP at e; cases e
  | _, _, _, .ins _ _ _, e => by unfold toP at e; cases e
  | _, _, _, .fn _, e => by unfold toP at e; cases e
theorem dps_of {F H : Hp} (s : Same F H) : ∀ {ds : List D} {vs : List V} {ps : List PyData}, Reps g F ds vs → toPs ds = some ps → DpAll g.K H vs ps
  | _, _, _, .nil, e => by unfold toPs at e; cases e; exact .nil
  | _, _, _, @Reps.cons _ _ x xs v vs h t, e => by
    unfold toPs at e
    cases q1 : toP x with
    | none =>
      rw [q1] at e
      cases e
    | some p =>
      cases q2 : toPs xs with
      | none =>
        rw [q1, q2] at e
        cases e
      | some ps =>
        rw [q1, q2] at e
        cases e
        exact .cons (dp_of s h q1) (dps_of s t q2)
end
theorem Rep1.dp {F H : Hp} {d : D} {v : V} {p : PyData} (w : WF g F H) (h : Rep1 g F H d v) (e : toP d = some p) : Dp g.K H v p := by
  rcases h with h | ⟨e1, h1, h⟩
  · exact dp_of w.sub h e
  · cases h with
    | lst r =>
      subst e1
      unfold toP at e
      rename_i xs vs
      cases q : toPs xs with
      | none =>
        rw [q] at e
        cases e
      | some ps =>
        rw [q] at e
        cases e
        exact .lst (SqL.of h1) (dps_of w.sub r q)
    | _ => unfold toP at e; cases e
def eqD (d e : D) : Option Bool := match toP d, toP e with
  | some p, some q => if SeqAt.shaped p = true ∧ SeqAt.shaped q = true then some (PyData.eqv p q) else none
  | _, _ => none
def oEq : List D → Option D
  | [d, e] => (eqD d e).map .bl
  | _ => none
def oNe : List D → Option D
  | [d, e] => (eqD d e).map fun b => .bl !b
  | _ => none
theorem eqD_ok {F H : Hp} {d e : D} {x y : V} {b : Bool} (w : WF g F H) (h1 : Rep1 g F H d x) (h2 : Rep1 g F H e y) (h : eqD d e = some b) : ∃ p q, Dp g.K H x p ∧ Dp g.K H y q ∧ SeqAt.shaped p = true ∧ SeqAt.shaped q = true ∧ PyData.eqv p q = b := by
  unfold eqD at h
  cases q1 : toP d with
  | none =>
    rw [q1] at h
    cases h
  | some p =>
    cases q2 : toP e with
    | none =>
      rw [q1, q2] at h
      cases h
    | some q =>
      rw [q1, q2] at h
      have h' : (if SeqAt.shaped p = true ∧ SeqAt.shaped q = true then some (PyData.eqv p q) else none) = some b := h
      split at h'
      · rename_i hs
        exact ⟨p, q, h1.dp w q1, h2.dp w q2, hs.1, hs.2, Option.some.inj h'⟩
      · cases h'
theorem oa_eq : OpA g (r2 (rEqD g.K)) oEq := fun ds vs d F H Q w R e k => by
  unfold oEq at e
  split at e
  · rename_i d1 d2
    obtain ⟨x, y, rfl, h1, h2⟩ := R.two
    cases q : eqD d1 d2 with
    | none =>
      rw [q] at e
      cases e
    | some b =>
      rw [q] at e
      cases e
      obtain ⟨p, q', a1, a2, a3, a4, a5⟩ := eqD_ok w h1 h2 q
      exact ⟨p, q', a1, a2, a3, a4, by rw [a5]; exact k _ H F (Go.refl w) .bl⟩
  · cases e
theorem oa_ne : OpA g (r2 (rNeD g.K)) oNe := fun ds vs d F H Q w R e k => by
  unfold oNe at e
  split at e
  · rename_i d1 d2
    obtain ⟨x, y, rfl, h1, h2⟩ := R.two
    cases q : eqD d1 d2 with
    | none =>
      rw [q] at e
      cases e
    | some b =>
      rw [q] at e
      cases e
      obtain ⟨p, q', a1, a2, a3, a4, a5⟩ := eqD_ok w h1 h2 q
      exact ⟨p, q', a1, a2, a3, a4, by rw [a5]; exact k _ H F (Go.refl w) .bl⟩
  · cases e
/-! ### in -/
def flatD : D → Option V
  | .non => some .non
  | .bl b => some (.bl b)
  | .int i => some (.int i)
  | .str z => some (.str z)
  | _ => none
def flatDs : List D → Option (List V)
  | [] => some []
  | d :: ds => match flatD d, flatDs ds with
    | some v, some vs => some (v :: vs)
    | _, _ => none
theorem flatD_ok {F : Hp} {d : D} {v u : V} (h : Rep g F d v) (e : flatD d = some u) : v = u ∧ flatV v = true := by
  cases h <;> first | (cases e; exact ⟨rfl, rfl⟩) | cases e
theorem flatDs_ok {F : Hp} : ∀ {ds : List D} {vs us : List V}, Reps g F ds vs → flatDs ds = some us → vs = us ∧ vs.all flatV = true
  | _, _, _, .nil, e => by unfold flatDs at e; cases e; exact ⟨rfl, rfl⟩
  | _, _, _, @Reps.cons _ _ x xs v vs h t, e => by
    unfold flatDs at e
    cases q1 : flatD x with
    | none =>
      rw [q1] at e
      cases e
    | some p =>
      cases q2 : flatDs xs with
      | none =>
        rw [q1, q2] at e
        cases e
      | some ps =>
        rw [q1, q2] at e
        cases e
        obtain ⟨a1, a2⟩ := flatD_ok h q1
        obtain ⟨b1, b2⟩ := flatDs_ok t q2
        subst a1 b1
        exact ⟨rfl, by rw [List.all_cons, a2, b2]; rfl⟩
def inD (neg : Bool) : List D → Option D
  | [d, e] => match flatD d, (seqD e).bind flatDs with
    | some v, some vs => some (.bl (if neg then !inV v vs else inV v vs))
    | _, _ => none
  | _ => none
theorem oa_in (neg : Bool) : OpA g (r2 (rIn g.K neg)) (inD neg) := fun ds vs d F H Q w R e k => by
  unfold inD at e
  split at e
  · rename_i d1 d2
    obtain ⟨x, y, rfl, h1, h2⟩ := R.two
    cases q1 : flatD d1 with
    | none =>
      rw [q1] at e
      cases e
    | some v =>
      cases q2 : seqD d2 with
      | none =>
        rw [q1, q2] at e
        cases e
      | some xs =>
        rw [q1, q2] at e
        cases q3 : flatDs xs with
        | none =>
          have e' : (match (some v : Option V), (flatDs xs) with | some v, some vs => some (D.bl (if neg = true then !inV v vs else inV v vs)) | _, _ => none) = some d := e
          rw [q3] at e'
          cases e'
        | some us =>
          have e' : (match (some v : Option V), (flatDs xs) with | some v, some vs => some (D.bl (if neg = true then !inV v vs else inV v vs)) | _, _ => none) = some d := e
          rw [q3] at e'
          cases e'
          obtain ⟨a, ws, ey, hs, r⟩ := h2.seq_ w q2
          obtain ⟨b1, b2⟩ := flatDs_ok r q3
          subst b1
          have hx : x = v ∧ flatV x = true := by
            rcases h1 with h1 | ⟨_, _, h1⟩
            · exact flatD_ok h1 q1
            · cases h1 <;> cases q1
          obtain ⟨c1, c2⟩ := hx
          subst c1
          exact ⟨a, ws, ey, hs, c2, b2, k _ H F (Go.refl w) .bl⟩
  · cases e
/-! ### None -/
def isNonD : D → Bool
  | .non => true
  | _ => false
def oIsN : List D → Option D
  | [d, .non] => some (.bl (isNonD d))
  | _ => none
def oNotN : List D → Option D
  | [d, .non] => some (.bl (!isNonD d))
  | _ => none
theorem isNon_ok {F H : Hp} {d : D} {x : V} (h : Rep1 g F H d x) : decide (x = .non) = isNonD d := by
  rcases h with h | ⟨e, _, h⟩
  · cases h <;> first | rfl | exact decide_eq_false (fun z => by cases z)
  · subst e
    cases h <;> exact decide_eq_false (fun z => by cases z)
theorem oa_isN : OpA g (r2 (fun x y H Q => y = .non ∧ Q (.bl (decide (x = .non))) H)) oIsN := fun ds vs d F H Q w R e k => by
  unfold oIsN at e
  split at e
  · rename_i d1
    cases e
    obtain ⟨x, y, rfl, h1, h2⟩ := R.two
    exact ⟨h2.non_, by rw [isNon_ok h1]; exact k _ H F (Go.refl w) .bl⟩
  · cases e
theorem oa_notN : OpA g (r2 (fun x y H Q => y = .non ∧ Q (.bl (!decide (x = .non))) H)) oNotN := fun ds vs d F H Q w R e k => by
  unfold oNotN at e
  split at e
  · rename_i d1
    cases e
    obtain ⟨x, y, rfl, h1, h2⟩ := R.two
    exact ⟨h2.non_, by rw [isNon_ok h1]; exact k _ H F (Go.refl w) .bl⟩
  · cases e
end
end PV

namespace PV
open PySem PySem.Spec PyProof.Rows L2
/-! ### what no container is in -/
mutual
def imm : D → Bool
  | .non => true
  | .bl _ => true
  | .int _ => true
  | .str _ => true
  | .tup xs => imms xs
  | .fn _ => true
  | _ => false
def imms : List D → Bool
  | [] => true
  | d :: ds => imm d && imms ds
end
theorem sqT_tup {K : PySem.W.Frag} {F F' : Hp} {a : Addr} {vs : List V} (h : SqT K F a vs) (k : ∀ u, F a = some u → tupy u = true → F' a = some u) : SqT K F' a vs := by
  rcases h with (h | ⟨o, h⟩) | h
  · exact .inl (.inl (k _ h rfl))
  · exact .inl (.inr ⟨o, k _ h rfl⟩)
  · exact .inr h
mutual
theorem Rep.imm {g : Gc} {F F' : Hp} (k : ∀ a u, F a = some u → tupy u = true → F' a = some u) : ∀ {d : D} {v : V}, Rep g F d v → PV.imm d = true → Rep g F' d v
  | _, _, .non, _ => .non
  | _, _, .bl, _ => .bl
  | _, _, .int, _ => .int
  | _, _, .str, _ => .str
  | _, _, .fn m, _ => .fn m
  | _, _, .tup h r, e => by
    unfold PV.imm at e
    exact .tup (sqT_tup h (k _)) (Reps.imm k r e)
  | _, _, .lst _ _, e => by unfold PV.imm at e; cases e
  | _, _, .ro _ _, e => by unfold PV.imm at e; cases e
  | _, _, .dik _ _, e => by unfold PV.imm at e; cases e
  | _, _, .dit _ _, e => by unfold PV.imm at e; cases e
  | _, _, .ins _ _ _, e => by unfold PV.imm at e; cases e
theorem Reps.imm {g : Gc} {F F' : Hp} (k : ∀ a u, F a = some u → tupy u = true → F' a = some u) : ∀ {ds : List D} {vs : List V}, Reps g F ds vs → imms ds = true → Reps g F' ds vs
  | _, _, .nil, _ => .nil
  | _, _, .cons h t, e => by
    unfold imms at e
    rw [Bool.and_eq_true] at e
    exact .cons (Rep.imm k h e.1) (Reps.imm k t e.2)
end
/-! ### built-ins -/
section
variable {c : Cn} {W : WX} {X : Cx} {x : Str} {p pos : Pos} {e : Expr} {es : List Expr} {id T : String} {r : List V → Hp → VK → Prop} {f : List D → Option D} {os : List Od}
theorem re_cb (hc : CallR X (.builtin id) r) (hf : OpA c.toGc r f) (hg : Gl X x) (hm : X.mg x = none) (hv : bootBuiltins x = some (.builtin id)) (ha : PA X (e :: es) (tOds c W os)) (hn : x ≠ "__name__" := by decide) (hdb : (x == ("__debug__" : Str)) = false := by decide)
    (he : starEach (e :: es) X.env = (false, eval e X.env) :: starEach es X.env := by rfl) (hpl : (backTo pos (starEach es X.env)).any (·.1) = false := by rfl) : PE X (.Call (.Name x p) (e :: es) [] pos) (tE c W (mOp f os)) :=
  (pe_callB hc hg hm hv ha hn hdb he hpl).imp fun _ _ _ q => tOp_ok hf q
theorem re_cbF (hc : CallR X (.builtin id) r) (hf : OpF c.toGc r f) (hg : Gl X x) (hm : X.mg x = none) (hv : bootBuiltins x = some (.builtin id)) (ha : PA X (e :: es) (tOds c W os)) (hn : x ≠ "__name__" := by decide) (hdb : (x == ("__debug__" : Str)) = false := by decide)
    (he : starEach (e :: es) X.env = (false, eval e X.env) :: starEach es X.env := by rfl) (hpl : (backTo pos (starEach es X.env)).any (·.1) = false := by rfl) : PE X (.Call (.Name x p) (e :: es) [] pos) (tF c W (mOp f os)) :=
  (pe_callB hc hg hm hv ha hn hdb he hpl).imp fun _ _ _ q => tOpF_ok hf q
theorem re_ct (hc : CallR X (.type T) r) (hf : OpA c.toGc r f) (hg : Gl X x) (hm : X.mg x = none) (hv : bootBuiltins x = some (.type T)) (ha : PA X (e :: es) (tOds c W os)) (hn : x ≠ "__name__" := by decide) (hdb : (x == ("__debug__" : Str)) = false := by decide)
    (he : starEach (e :: es) X.env = (false, eval e X.env) :: starEach es X.env := by rfl) (hpl : (backTo pos (starEach es X.env)).any (·.1) = false := by rfl) : PE X (.Call (.Name x p) (e :: es) [] pos) (tE c W (mOp f os)) :=
  (pe_callTy hc hg hm hv ha hn hdb he hpl).imp fun _ _ _ q => tOp_ok hf q
theorem re_ctF (hc : CallR X (.type T) r) (hf : OpF c.toGc r f) (hg : Gl X x) (hm : X.mg x = none) (hv : bootBuiltins x = some (.type T)) (ha : PA X (e :: es) (tOds c W os)) (hn : x ≠ "__name__" := by decide) (hdb : (x == ("__debug__" : Str)) = false := by decide)
    (he : starEach (e :: es) X.env = (false, eval e X.env) :: starEach es X.env := by rfl) (hpl : (backTo pos (starEach es X.env)).any (·.1) = false := by rfl) : PE X (.Call (.Name x p) (e :: es) [] pos) (tF c W (mOp f os)) :=
  (pe_callTy hc hg hm hv ha hn hdb he hpl).imp fun _ _ _ q => tOpF_ok hf q
end
section
variable {g : Gc} {X : Cx}
/-- len -/
def oLen : List D → Option D
  | [.str z] => if z.length ≤ lim then some (.int z.length) else none
  | [.dik kvs] => some (.int kvs.length)
  | [d] => (seqD d).map fun xs => .int xs.length
  | _ => none
def rLenX (K : PySem.W.Frag) : List V → Hp → VK → Prop := fun xs H Q => (∃ p ys, xs = [.ref p] ∧ (SqL K H p ys ∨ SqT K H p ys) ∧ Q (.int ys.length) H) ∨ (∃ z, xs = [.str z] ∧ z.length ≤ sizeLine ∧ Q (.int z.length) H) ∨ (∃ a kvs, xs = [V.ref a] ∧ Rd H a (.dK kvs) ∧ Q (.int kvs.length) H)
theorem call_lenDR : CallR X (.builtin "len") (fun xs H Q => ∃ a kvs, xs = [V.ref a] ∧ Rd H a (.dK kvs) ∧ Q (.int kvs.length) H) := by
  intro pins s σ H xs us Q I r h
  obtain ⟨a, kvs, rfl, ha, q⟩ := h
  obtain ⟨u, rfl, ru⟩ := vals1 r
  cases ru
  exact d_len I ha fun t s' I' => ⟨.int kvs.length, H, I', ⟨t, rfl⟩, q⟩
theorem call_lenX : CallR X (.builtin "len") (rLenX X.K) := call_len_seq.or (call_len_str.or call_lenDR)
theorem RepK.length {F : Hp} {xs : List (Key × D)} {vs : List (Key × V)} (r : RepK g F xs vs) : xs.length = vs.length := by
  match r with
  | .nil => rfl
  | .cons _ t => simp [RepK.length t]
theorem Rep1.dik_ {F H : Hp} {v : V} {xs : List (Key × D)} (w : WF g F H) (h : Rep1 g F H (.dik xs) v) : ∃ a vs, v = .ref a ∧ Rd H a (.dK vs) ∧ RepK g F xs vs := by
  rcases h with h | ⟨e, h1, h⟩
  · cases h with
    | dik h r => exact ⟨_, _, rfl, .inr ⟨_, w.sub _ _ h⟩, r⟩
  · cases h with
    | dik r => exact ⟨_, _, e, .inl h1, r⟩
theorem oa_len : OpA g (rLenX g.K) oLen := fun ds vs d F H Q w R e k => by
  unfold oLen at e
  split at e
  · rename_i z
    split at e
    · rename_i hz
      cases e
      obtain ⟨x, rfl, h1⟩ := R.one
      exact .inr (.inl ⟨z, by rw [h1.str_], lim_line hz, k _ H F (Go.refl w) .int⟩)
    · cases e
  · rename_i kvs
    cases e
    obtain ⟨x, rfl, h1⟩ := R.one
    obtain ⟨a, ws, rfl, h2, h3⟩ := h1.dik_ w
    exact .inr (.inr ⟨a, ws, rfl, h2, by rw [← h3.length]; exact k _ H F (Go.refl w) .int⟩)
  · rename_i d1 _ _
    cases q : seqD d1 with
    | none =>
      rw [q] at e
      cases e
    | some xs =>
      rw [q] at e
      cases e
      obtain ⟨x, rfl, h1⟩ := R.one
      obtain ⟨a, ws, rfl, h2, h3⟩ := h1.seq_ w q
      exact .inl ⟨a, ws, rfl, h2, by rw [← h3.length]; exact k _ H F (Go.refl w) .int⟩
  · cases e
/-- sum, all, any, of lists -/
def oSum : List D → Option D
  | [d] => ((lstD d).bind intsD).map fun ns => .int ns.sum
  | _ => none
theorem lst_ints {F H : Hp} {v : V} {d : D} {ns : List Int} (w : WF g F H) (h : Rep1 g F H d v) (e : (lstD d).bind intsD = some ns) : ∃ a, v = .ref a ∧ SqL g.K H a (ns.map V.int) := by
  cases q : lstD d with
  | none =>
    rw [q] at e
    cases e
  | some xs =>
    rw [q] at e
    obtain ⟨a, ws, rfl, h2, h3⟩ := h.list_ w q
    rw [h3.ints e] at h2
    exact ⟨a, rfl, h2⟩
theorem lst_bls {F H : Hp} {v : V} {d : D} {ns : List Bool} (w : WF g F H) (h : Rep1 g F H d v) (e : (lstD d).bind blsD = some ns) : ∃ a, v = .ref a ∧ SqL g.K H a (ns.map V.bl) := by
  cases q : lstD d with
  | none =>
    rw [q] at e
    cases e
  | some xs =>
    rw [q] at e
    obtain ⟨a, ws, rfl, h2, h3⟩ := h.list_ w q
    rw [h3.bls e] at h2
    exact ⟨a, rfl, h2⟩
theorem oa_sum : OpA g (rSum g.K) oSum := fun ds vs d F H Q w R e k => by
  unfold oSum at e
  split at e
  · rename_i d1
    cases q : (lstD d1).bind intsD with
    | none =>
      rw [q] at e
      cases e
    | some ns =>
      rw [q] at e
      cases e
      obtain ⟨x, rfl, h1⟩ := R.one
      obtain ⟨a, rfl, h2⟩ := lst_ints w h1 q
      exact ⟨a, ns, rfl, h2, k _ H F (Go.refl w) .int⟩
  · cases e
def oAll : List D → Option D
  | [d] => ((lstD d).bind blsD).map fun bs => .bl (bs.all id)
  | _ => none
theorem oa_all : OpA g (rAll g.K) oAll := fun ds vs d F H Q w R e k => by
  unfold oAll at e
  split at e
  · rename_i d1
    cases q : (lstD d1).bind blsD with
    | none =>
      rw [q] at e
      cases e
    | some ns =>
      rw [q] at e
      cases e
      obtain ⟨x, rfl, h1⟩ := R.one
      obtain ⟨a, rfl, h2⟩ := lst_bls w h1 q
      exact ⟨a, ns, rfl, h2, k _ H F (Go.refl w) .bl⟩
  · cases e
def oAny : List D → Option D
  | [d] => ((lstD d).bind blsD).map fun bs => .bl (bs.any id)
  | _ => none
theorem oa_any : OpA g (rAny g.K) oAny := fun ds vs d F H Q w R e k => by
  unfold oAny at e
  split at e
  · rename_i d1
    cases q : (lstD d1).bind blsD with
    | none =>
      rw [q] at e
      cases e
    | some ns =>
      rw [q] at e
      cases e
      obtain ⟨x, rfl, h1⟩ := R.one
      obtain ⟨a, rfl, h2⟩ := lst_bls w h1 q
      exact ⟨a, ns, rfl, h2, k _ H F (Go.refl w) .bl⟩
  · cases e
/-- sorted, of ints -/
def insI (x : Int) : List Int → List Int
  | [] => [x]
  | y :: r => if x ≤ y then x :: y :: r else y :: insI x r
def srtI : List Int → List Int
  | [] => []
  | x :: r => insI x (srtI r)
theorem insI_perm (x : Int) : ∀ l : List Int, (insI x l).Perm (x :: l)
  | [] => .refl _
  | y :: r => by
    unfold insI
    split
    · exact .refl _
    · exact ((insI_perm x r).cons y).trans (.swap x y r)
theorem insI_srt (x : Int) : ∀ {l : List Int}, l.Pairwise (· ≤ ·) → (insI x l).Pairwise (· ≤ ·)
  | [], _ => by
    unfold insI
    simp
  | y :: r, h => by
    unfold insI
    rw [List.pairwise_cons] at h
    split
    · rename_i hx
      refine List.pairwise_cons.mpr ⟨fun z hz => ?_, List.pairwise_cons.mpr h⟩
      rcases List.mem_cons.mp hz with e | hz
      · rw [e]; exact hx
      · exact Int.le_trans hx (h.1 z hz)
    · rename_i hx
      refine List.pairwise_cons.mpr ⟨fun z hz => ?_, insI_srt x h.2⟩
      rcases List.mem_cons.mp ((insI_perm x r).mem_iff.mp hz) with e | hz
      · rw [e]; omega
      · exact h.1 z hz
theorem srtI_perm : ∀ l : List Int, (srtI l).Perm l
  | [] => .refl _
  | x :: r => by
    unfold srtI
    exact (insI_perm x _).trans ((srtI_perm r).cons x)
theorem srtI_srt : ∀ l : List Int, (srtI l).Pairwise (· ≤ ·)
  | [] => by
    unfold srtI
    exact .nil
  | x :: r => by
    unfold srtI
    exact insI_srt x (srtI_srt r)
theorem srtI_one {a b : List Int} (h : a.Perm b) (sa : a.Pairwise (· ≤ ·)) (sb : b.Pairwise (· ≤ ·)) : a = b := by
  exact h.eq_of_pairwise (fun x y _ _ h1 h2 => Int.le_antisymm h1 h2) sa sb
def oSorted : List D → Option D
  | [d] => ((lstD d).bind intsD).map fun ns => .lst ((srtI ns).map D.int)
  | _ => none
theorem of_sorted : OpF g (rSortedI g.K) oSorted := fun ds vs d F H Q w R e k => by
  unfold oSorted at e
  split at e
  · rename_i d1
    cases q : (lstD d1).bind intsD with
    | none =>
      rw [q] at e
      cases e
    | some ns =>
      rw [q] at e
      cases e
      obtain ⟨x, rfl, h1⟩ := R.one
      obtain ⟨a, rfl, h2⟩ := lst_ints w h1 q
      refine ⟨a, ns, rfl, h2, fun ns' p hp hs n => ?_⟩
      have e : ns' = srtI ns := srtI_one (hp.trans (srtI_perm ns).symm) hs (srtI_srt ns)
      subst e
      exact k p _ n (.lst (Reps.ofInts _))
  · cases e
/-- list(x), tuple(x) -/
def oList : List D → Option D
  | [d] => (seqD d).map .lst
  | _ => none
theorem of_list : OpF g (fun xs H Q => ∃ p ys, xs = [.ref p] ∧ (SqL g.K H p ys ∨ SqT g.K H p ys) ∧ ∀ l, H l = none → Q (.ref l) (upd H l (.lst ys))) oList := fun ds vs d F H Q w R e k => by
  unfold oList at e
  split at e
  · rename_i d1
    cases q : seqD d1 with
    | none =>
      rw [q] at e
      cases e
    | some xs =>
      rw [q] at e
      cases e
      obtain ⟨x, rfl, h1⟩ := R.one
      obtain ⟨a, ws, rfl, h2, h3⟩ := h1.seq_ w q
      exact ⟨a, ws, rfl, h2, fun l n => k l _ n (.lst h3)⟩
  · cases e
def oTuple : List D → Option D
  | [d] => (seqD d).map .tup
  | _ => none
theorem oa_tuple : OpA g (fun xs H Q => ∃ p ys, xs = [.ref p] ∧ ((SqL g.K H p ys ∧ ∀ l, H l = none → Q (.ref l) (upd H l (.tup ys))) ∨ (SqT g.K H p ys ∧ Q (.ref p) H))) oTuple := fun ds vs d F H Q w R e k => by
  unfold oTuple at e
  split at e
  · rename_i d1
    obtain ⟨x, rfl, h1⟩ := R.one
    have new : ∀ {xs : List D} {ws : List V}, Reps g F xs ws → d = .tup xs → ∀ l, H l = none → Q (.ref l) (upd H l (.tup ws)) := fun {xs ws} r ed l n => by
      subst ed
      have g2 := Go.frz w n (o := .tup ws) (fun ps z => by cases z)
      exact k _ _ _ g2 (.tup (SqT.of upd_same) (r.mono g2.gr.f))
    cases d1 with
    | tup xs =>
      cases e
      obtain ⟨a, ws, rfl, h2, h3, h4⟩ := h1.tup_ w
      exact ⟨a, ws, rfl, .inr ⟨h2, k _ H F (Go.refl w) (.tup h3 h4)⟩⟩
    | lst xs =>
      cases e
      obtain ⟨a, ws, rfl, h2, h3⟩ := h1.lst_ w
      exact ⟨a, ws, rfl, .inl ⟨SqL.of h2, new h3 rfl⟩⟩
    | ro xs =>
      cases e
      obtain ⟨a, ws, rfl, h2, h3⟩ := h1.ro_ w
      exact ⟨a, ws, rfl, .inl ⟨h2, new h3 rfl⟩⟩
    | _ => cases e
  · cases e
/-- abs, max, min of two, int -/
abbrev oAbs : List D → Option D := o1I fun i => .int (if i < 0 then -i else i)
theorem oa_abs : OpA g (fun xs H Q => ∃ i, xs = [.int i] ∧ Q (.int (if i < 0 then -i else i)) H) oAbs := fun ds vs d F H Q w R e k => by
  unfold oAbs o1I at e
  split at e
  · rename_i i
    cases e
    obtain ⟨x, rfl, h1⟩ := R.one
    exact ⟨i, by rw [h1.int_], k _ H F (Go.refl w) .int⟩
  · cases e
abbrev oMax2 : List D → Option D := o2I (fun _ _ => true) fun i j => .int (if j > i then j else i)
theorem oa_max2 : OpA g (fun xs H Q => ∃ i j, xs = [.int i, .int j] ∧ Q (.int (if j > i then j else i)) H) oMax2 := fun ds vs d F H Q w R e k => by
  unfold oMax2 o2I at e
  split at e
  · rename_i i j
    rw [if_pos rfl] at e
    cases e
    obtain ⟨x, y, rfl, h1, h2⟩ := R.two
    exact ⟨i, j, by rw [h1.int_, h2.int_], k _ H F (Go.refl w) .int⟩
  · cases e
abbrev oMin2 : List D → Option D := o2I (fun _ _ => true) fun i j => .int (if j < i then j else i)
theorem oa_min2 : OpA g (fun xs H Q => ∃ i j, xs = [.int i, .int j] ∧ Q (.int (if j < i then j else i)) H) oMin2 := fun ds vs d F H Q w R e k => by
  unfold oMin2 o2I at e
  split at e
  · rename_i i j
    rw [if_pos rfl] at e
    cases e
    obtain ⟨x, y, rfl, h1, h2⟩ := R.two
    exact ⟨i, j, by rw [h1.int_, h2.int_], k _ H F (Go.refl w) .int⟩
  · cases e
def oInt : List D → Option D
  | [.int i] => some (.int i)
  | [.bl k] => some (.int (if k then 1 else 0))
  | _ => none
theorem oa_int : OpA g (fun xs H Q => (∃ i, xs = [.int i] ∧ Q (.int i) H) ∨ ∃ k, xs = [.bl k] ∧ Q (.int (if k then 1 else 0)) H) oInt := fun ds vs d F H Q w R e k => by
  unfold oInt at e
  split at e
  · rename_i i
    cases e
    obtain ⟨x, rfl, h1⟩ := R.one
    exact .inl ⟨i, by rw [h1.int_], k _ H F (Go.refl w) .int⟩
  · rename_i b
    cases e
    obtain ⟨x, rfl, h1⟩ := R.one
    exact .inr ⟨b, by rw [h1.bl_], k _ H F (Go.refl w) .int⟩
  · cases e
/-- n.bit_length() -/
def oBits : List D → Option D := o1I fun i => .int (Builtin.Int.intBits i : Nat)
end
/-! ### subscripts -/
section
variable {g : Gc} {X : Cx} {c : Cn} {W : WX}
def atD (d : D) (i : Int) : Option D := match seqD d with
  | some xs => atI xs i
  | none => none
def oIx : List D → Option D
  | [.str z, .int i] => if z.length ≤ lim then (atI z.cps.toList i).map fun ch => .str ⟨#[ch]⟩ else none
  | [d, .int i] => atD d i
  | _ => none
theorem Reps.atI {F : Hp} {ds : List D} {vs : List V} {i : Int} {d : D} (r : Reps g F ds vs) (h : L2.atI ds i = some d) : ∃ v, L2.atI vs i = some v ∧ Rep g F d v := by
  unfold L2.atI at h ⊢
  rw [← r.length]
  cases q : ixN ds.length i with
  | none =>
    rw [q] at h
    cases h
  | some j =>
    rw [q] at h
    exact r.get h
theorem oa_ix : OpA g (r2 (rIx g.K)) oIx := fun ds vs d F H Q w R e k => by
  unfold oIx at e
  split at e
  · rename_i z i
    split at e
    · rename_i hz
      cases q : L2.atI z.cps.toList i with
      | none =>
        rw [q] at e
        cases e
      | some ch =>
        rw [q] at e
        cases e
        obtain ⟨x, y, rfl, h1, h2⟩ := R.two
        exact .inr (.inr ⟨z, i, ch, h1.str_, h2.int_, lim_line hz, q, k _ H F (Go.refl w) .str⟩)
    · cases e
  · rename_i d1 i _
    obtain ⟨x, y, rfl, h1, h2⟩ := R.two
    unfold atD at e
    cases q : seqD d1 with
    | none =>
      rw [q] at e
      cases e
    | some xs =>
      rw [q] at e
      obtain ⟨a, ws, rfl, h3, h4⟩ := h1.seq_ w q
      obtain ⟨v, h5, h6⟩ := h4.atI e
      rcases h3 with h3 | h3
      · exact .inl ⟨a, ws, i, v, rfl, h2.int_, h3, h5, k _ H F (Go.refl w) h6⟩
      · exact .inr (.inl ⟨a, ws, i, v, rfl, h2.int_, h3, h5, k _ H F (Go.refl w) h6⟩)
  · cases e
theorem re_ix {a b : Expr} {o1 o2 : Od} {pos : Pos} (hK : c.K = X.K) (ha : PE X a (o1.t c W)) (hb : PE X b (o2.t c W)) (hs : PlainIx b) : PE X (.Subscript a b pos) (tE c W (mOp oIx [o1, o2])) :=
  (pe_ix ix_seq ha hb hs).imp fun σ H Q q => tOp_ok (r := r2 (rIx X.K)) (by rw [← hK]; exact oa_ix) q
end
end PV

/-! calls where it is known that no repr is under way -/
namespace PV
open PySem PySem.Spec PyProof.Rows L2
/-- room, and no guard around -/
structure RmG (k : Nat) (A : Around) : Prop where
  r : Room k A
  g : A.guards = some []
theorem RmG.mono {j k : Nat} {A : Around} (x : RmG k A) (h : j ≤ k) : RmG j A := ⟨x.r.mono h, x.g⟩
theorem RmG.deeper {k : Nat} {A : Around} (x : RmG (k + 1) A) (env : Env) : RmG k (A.deeper env) := ⟨x.r.deeper env, x.g⟩
theorem RmG.units {k : Nat} {A : Around} (x : RmG k A) : A.units + 64 < cLine := x.r.units
theorem RmG.depth {k : Nat} {A : Around} (x : RmG k A) : A.depth < recursionLimit := x.r.depth
/-- a def keeps its promise wherever no guard is around -/
structure FnG (P : Program) (w : World) (K : PySem.W.Frag) (mg : Str → Option Value) (base : Heap) (CX : CXT) (k : Nat) (f : Addr) (fd : FuncData) (ps : List Str) (sp : Sp) : Prop where
  len : ∀ vs H Q E, sp vs H Q E → vs.length = ps.length
  run : ∀ (A : Around) (outer : List Env) (s : Shared) (H : Hp) (args : Args) (us : List Value) (vs : List V) (Q : VK) (E : XK), RmG k A → Env0 P w K mg base A outer s H → BindsTo s fd args (ps.zip us) → Vals vs us → sp vs H Q E → codeAny (model P w) A (.call (.ref f) args) (CR CX outer P w H s Q E) s
section
variable {P : Program} {w : World} {K : PySem.W.Frag} {mg : Str → Option Value} {base : Heap}
theorem FnG.imp {CX : CXT} {k : Nat} {f : Addr} {fd : FuncData} {ps : List Str} {sp sp' : Sp} (F : FnG P w K mg base CX k f fd ps sp) (h : ∀ vs H Q E, sp' vs H Q E → sp vs H Q E) : FnG P w K mg base CX k f fd ps sp' :=
  ⟨fun vs H Q E q => F.len vs H Q E (h _ _ _ _ q), fun A outer s H args us vs Q E hr he hb hv hs => F.run A outer s H args us vs Q E hr he hb hv (h _ _ _ _ hs)⟩
theorem FnG.mono {CX : CXT} {j k : Nat} {f : Addr} {fd : FuncData} {ps : List Str} {sp : Sp} (F : FnG P w K mg base CX j f fd ps sp) (h : j ≤ k) : FnG P w K mg base CX k f fd ps sp :=
  ⟨F.len, fun A outer s H args us vs Q E hr => F.run A outer s H args us vs Q E (hr.mono h)⟩
theorem FnG.of {CX : CXT} {k : Nat} {f : Addr} {fd : FuncData} {ps : List Str} {sp : Sp} (F : FnOk P w K mg base CX k f fd ps sp) : FnG P w K mg base CX k f fd ps sp :=
  ⟨F.len, fun A outer s H args us vs Q E hr => F.run A outer s H args us vs Q E hr.r⟩
theorem okG {x qual : Str} {st : Stmt} {f : Addr} {fd : FuncData} {N ps : List Str} {k : Nat} {sp : Sp} (F : Fun K x qual st f fd) (S : FnScope N ps (defScope st)) (len : ∀ vs H Q E, sp vs H Q E → vs.length = ps.length)
    (hbody : ∀ (cdv : Value) (A : Around) (outer : List Env) (s : Shared) (H : Hp) (vs : List V) (Q : VK) (E : XK), fd.code = cdv → RmG k (A.deeper (envOfC qual (defScope st) s.heap.objs.size f cdv)) → sp vs H Q E →
      ∃ t, PSs (cxOf (L2.CX P w) P w K mg base N qual (defScope st) f cdv A outer s H E) (defBody st) t ∧ t { nx := fun _ H' => Q .non H', rt := Q } (start N vs) H) : FnG P w K mg base (L2.CX P w) (k + 1) f fd ps sp := by
  obtain ⟨oc, od, kV, doc, pm, an, cdv, ct, osl, rfl, lk, hcd⟩ := F.ex
  exact ⟨len, fun A outer s H args us vs Q E hr e0 hb r hsp => LamX.run_ofS lk hcd S hr.r e0 hb r (len _ _ _ _ hsp) fun hr' => hbody cdv A outer s H vs Q E rfl ⟨hr', hr.g⟩ hsp⟩
end
section
variable {X : Cx} {CX : CXT} {k : Nat} {f C : Addr} {fd : FuncData} {ps : List Str} {sp : Sp} {E : L2.St → XK} {x m : Str} {p pos apos : Pos} {e o : Expr} {es : List Expr} {ta : TE} {t : TA}
theorem run_fnG {pins : List (Addr × Obj)} {σ : L2.St} {H : Hp} {s : Shared} {Q : VK} {us : List Value} {vs : List V} (F : FnG X.prog X.w X.K X.mg X.base CX k f fd ps sp) (hr : RmG k X.A) (hb : L2.Binds X.K fd ps []) (hx : PassesAt CX X σ (E σ))
    (I : Inv X pins σ H s) (r : Vals vs us) (h : sp vs H Q (E σ)) : wpAny (model X.prog X.w) X.A (call (.ref f) us) (EP X pins σ Q) X.xe s := by
  have hl : us.length = ps.length := r.length.symm.trans (F.len _ _ _ _ h)
  have b := hb s us I.kIn (by rw [List.append_nil]; exact hl)
  rw [List.append_nil] at b
  exact wpAny_call (codeAny_mono (F.run X.A X.stack s H ⟨us, []⟩ us vs Q (E σ) hr I.env0 b r h) fun r s' hq => match r, hq with
    | .error e, hq => hx pins H s e s' I hq
    | .ok (.ret u), hq => I.after hq
    | .ok .next, hq => False.elim hq
    | .ok .brk, hq => False.elim hq
    | .ok .cont, hq => False.elim hq)
theorem pe_callG (F : FnG X.prog X.w X.K X.mg X.base CX k f fd ps sp) (hr : RmG k X.A) (hg : Gl X x) (hm : X.mg x = some (.ref f)) (hk : PySem.W.keepIn X.K (.ref f) = true) (hb : L2.Binds X.K fd ps []) (hx : ∀ σ, PassesAt CX X σ (E σ))
    (ha : PA X (e :: es) t) (hdb : (x == ("__debug__" : Str)) = false := by decide) (he : starEach (e :: es) X.env = (false, eval e X.env) :: starEach es X.env := by rfl) (hpl : (backTo pos (starEach es X.env)).any (·.1) = false := by rfl) :
    PE X (.Call (.Name x p) (e :: es) [] pos) (tCallS sp E t) :=
  ⟨fun pins s σ H Q I h => wpAny_Call_Name_kw (ld_glob I hg hm (PySem.W.callWith_K (h₀ := X.base) I.ok.mod.kin hk (thn (ha.run pos pins s σ H _ I h) fun us s1 ⟨vs, H1, I1, r, q⟩ => ⟨I1.kIn, run_fnG F hr hb (hx σ) I1 r q⟩) he hpl) hdb)⟩
end
end PV

/-! the law called by the caller: no guard is around; the tables of code objects -/
namespace PV
open PySem PySem.Spec PyProof.Rows L2 LamX
/-- the heap that the law sees: the script, and empty tables -/
structure Seen (K : PySem.W.Frag) (h : Heap) (T : List Addr) (a : Addr) (vs : List Value) (H : Hp) : Prop where
  tbl : ∀ b ∈ T, H b = some (.tbl #[])
  only : ∀ b, H b = none ∨ b ∈ T ∨ (b = a ∧ ∃ o xs, H b = some (.frz o (.lst xs)))
  free : H a ≠ none → K.lookup a = none
section
variable {P : Program} {w : World} {K : PySem.W.Frag} {mg mb : Str → Option Value} {CX : CXT} {k : Nat} {fa a : Addr} {cs : List (Addr × Addr)} {fd : FuncData} {x : Str} {sp : Sp} {s₁ : Shared} {vs : List Value} {ns : List Int}
theorem seen_call {H : Hp} (KX : K.In s₁.heap) (hns : s₁.heap.Ns mainGlobals mg) (hb : s₁.heap.Ns builtinsNs mb) (hbb : ∀ x : Str, x ≠ "__name__" → mb x = bootBuiltins x) (hlim : s₁.heap.NoLimit) (hg : s₁.gens = #[])
    (hT : ∀ p ∈ cs, s₁.heap.get? p.2 = some { cls := .none, data := .fields #[] }) (nT : ∀ p ∈ cs, K.lookup p.2 = none) (C : ∀ p ∈ cs, PySem.W.CodeHd s₁.heap p.1 p.2)
    (hbm : ∃ (bm : Addr) (ob : Obj), mg "__builtins__" = some (.ref bm) ∧ bm ≠ builtinsNs ∧ s₁.heap.get? bm = some ob ∧ ob.cls = .type "module" ∧ ob.dict = some builtinsNs ∧ ob.data = .plain)
    (ha : s₁.heap.get? a = some { cls := .type "list", data := .seq vs.toArray }) (hr : RmG k callerA)
    (F : ∀ base : Heap, K.In base → base.Ns mainGlobals mg → (∀ p ∈ cs, TabB base mg p.1 p.2) → FnG P w K mg base CX k fa fd [x] sp) (hbind : ∀ (s : Shared) (u : Value), BindsTo s fd ⟨[u], []⟩ [(x, u)])
    (S : Seen K s₁.heap (cs.map (·.2)) a vs H) (hok : HOk P w H s₁.heap) (hsp : sp [.ref a] H (fun v _ => v = .bl true) fun _ _ _ => False) (hCX : ∀ e s', CX [] H s₁ (fun _ _ _ => False) e s' → False) :
    codeAny (model P w) callerA (.call (.ref fa) ⟨[.ref a], []⟩) (fun r s' => r = .ok (.ret (.bool true)) ∧ OldK s₁.heap s'.heap ∧ s'.os = s₁.os ∧ AllBare s'.gens) s₁ := by
  have inT : ∀ {b : Addr}, b ∈ cs.map (·.2) → ∃ p ∈ cs, p.2 = b := fun h => by
    obtain ⟨p, h1, h2⟩ := List.mem_map.mp h
    exact ⟨p, h1, h2⟩
  have tb : ∀ {b : Addr}, b ∈ cs.map (·.2) → s₁.heap.get? b = some { cls := .none, data := .fields #[] } := fun h => by
    obtain ⟨p, h1, rfl⟩ := inT h
    exact hT p h1
  -- what is neither a list nor an empty record is not tracked
  have off : ∀ {b : Addr} {o : Obj}, s₁.heap.get? b = some o → (∀ l n, o.data ≠ .seq l n) → o.data ≠ .fields #[] → H b = none := fun {b o} e h1 h2 => by
    rcases S.only b with z | z | ⟨z, _⟩
    · exact z
    · have e' := (tb z).symm.trans e
      cases e'
      exact absurd rfl h2
    · subst z
      have e' := ha.symm.trans e
      cases e'
      exact absurd rfl (h1 _ _)
  have offD : ∀ {b : Addr} {o : Obj} {es : Array DictEntry} {ep : Nat}, s₁.heap.get? b = some o → o.data = .dict es ep → H b = none := fun e d =>
    off e (fun l n z => by rw [d] at z; cases z) (fun z => by rw [d] at z; cases z)
  have low : ∀ {b : Addr} {o : Obj}, s₁.heap.get? b = some o → H b = none → (hidT s₁.heap H).get? b = some o := fun e n => hidT_get e n
  have nsL : ∀ {b : Addr} {m : Str → Option Value}, s₁.heap.Ns b m → (hidT s₁.heap H).Ns b m := fun ⟨o, es, ep, e, d, r⟩ => ⟨o, es, ep, low e (offD e d), d, r⟩
  have KL : K.In (hidT s₁.heap H) := fun b o e => low (KX b o e) (by
    rcases S.only b with z | z | ⟨z, o', xs, q⟩
    · exact z
    · obtain ⟨p, h1, rfl⟩ := inT z
      exact absurd e (by rw [nT p h1]; simp)
    · subst z
      exact absurd e (by rw [S.free (by rw [q]; simp)]; simp))
  obtain ⟨bm, ob, b1, b2, b3, b4, b5, b6⟩ := hbm
  have obB : H bm = none := off b3 (fun l n z => by rw [b6] at z; cases z) (fun z => by rw [b6] at z; cases z)
  have TB : ∀ p ∈ cs, TabB (hidT s₁.heap H) mg p.1 p.2 := fun p hp => by
    have h0 := hT p hp
    obtain ⟨oG, esG, epG, eG, dG, _⟩ := hns
    refine ⟨?_, ⟨bm, ob, b1, b2, fun q => ?_, fun q => ?_, low b3 obB, b4, b5, b6⟩, fun q => ?_⟩
    · obtain ⟨o, us, file, tf, flags, tg, inF, text, tt, e1, r1, r2, r3, rest⟩ := C p hp
      have n1 : H p.1 = none := off e1 (fun l n z => by rw [r2] at z; cases z) (fun z => by rw [r2] at z; cases z; simp at r3)
      exact ⟨o, us, file, tf, flags, tg, inF, text, tt, low e1 n1, r1, r2, r3, rest⟩
    · rw [q, eG] at b3
      cases b3
      rw [dG] at b6
      cases b6
    · rw [q, h0] at b3
      cases b3
      cases b6
    · rw [q, h0] at eG
      cases eG
      cases dG
  have hM : L2.Mod K mg (hidT s₁.heap H) := ⟨KL, nsL hns, ⟨mb, nsL hb, hbb⟩, let ⟨mc, h1, h2⟩ := hlim; ⟨mc, nsL h1, h2⟩⟩
  have e0 : Env0 P w K mg (hidT s₁.heap H) callerA [] s₁ H := ⟨rfl, hM, fun b o e => of_hidT e, Nat.le_of_eq (hidT_size _ _), trivial, fun b hb => absurd (show b ∈ ([] : List Addr) from hb) (by simp), hok, .of_eq hg⟩
  refine codeAny_mono ((F _ KL (nsL hns) TB).run callerA [] s₁ H ⟨[.ref a], []⟩ [.ref a] [.ref a] _ _ hr e0 (hbind s₁ (.ref a)) (.cons rfl .nil) hsp) fun r s' h => ?_
  match r, h with
  | .error e, h => exact (hCX e s' h).elim
  | .ok .next, h => exact False.elim h
  | .ok .brk, h => exact False.elim h
  | .ok .cont, h => exact False.elim h
  | .ok (.ret u), h =>
    obtain ⟨v, H', os, bare, un, hok', r', q⟩ := h
    have q' : v = .bl true := q
    subst q'
    obtain rfl : u = Value.bool true := r'
    have same : ∀ b o, b ∉ cs.map (·.2) → s₁.heap.get? b = some o → s'.heap.get? b = some o := fun b o nb e => by
      rcases S.only b with z | z | ⟨_, ob, xs, z⟩
      · exact un.keep b o e z (by intro z; exact absurd (show b ∈ ([] : List Addr) from z) (by simp)) (by simp)
      · exact absurd z nb
      · have e1 := (hok b _ z).1
        have e2 := (hok' b _ (un.frzs b ob _ z)).1
        rw [e] at e1
        cases e1
        exact e2
    have grew : ∀ b ∈ cs.map (·.2), ∃ more : Array Value, s'.heap.get? b = some { cls := .none, data := .fields more } := fun b hb => by
      obtain ⟨more, z⟩ := un.tbls b #[] (S.tbl b hb)
      exact ⟨_, hok' b _ z⟩
    refine ⟨rfl, ⟨fun b o e => ?_, fun b o e => ?_⟩, os, bare⟩
    · by_cases hb : b ∈ cs.map (·.2)
      · obtain ⟨p, hp, rfl⟩ := inT hb
        obtain ⟨more, hm⟩ := grew _ hb
        rw [hT p hp] at e
        cases e
        exact .inr (.inl ⟨((C p hp).tab (hT p hp)).isCodeTable, rfl, #[], more, rfl, by rw [Array.empty_append]; exact hm⟩)
      · exact .inl (same b o hb e)
    · by_cases hb : b ∈ cs.map (·.2)
      · obtain ⟨more, hm⟩ := grew b hb
        exact ⟨_, hm⟩
      · exact ⟨o, same b o hb e⟩
/-- as LawAtS, of a def that keeps its promise where no guard is around -/
def LawG (l : PySem.W.OpenLaw) (w : World) (K : PySem.W.Frag) (CX : CXT) (k n : Nat) (x : Str) (mg : Str → Option Value) (fa : Addr) (h : Heap) : Prop :=
  ∃ (fd : FuncData) (cs : List (Addr × Addr)) (sp : Sp), (∀ p ∈ cs, h.get? p.2 = some { cls := .none, data := .fields #[] }) ∧ (∀ p ∈ cs, K.lookup p.2 = none) ∧ (∀ p ∈ cs, PySem.W.CodeHd h p.1 p.2) ∧ (∀ (s : Shared) (u : Value), BindsTo s fd ⟨[u], []⟩ [(x, u)]) ∧
    (∀ (H : Hp) (a : Addr) (ns : List Int), ns.length ≤ n → (∀ p ∈ cs, H p.2 = some (.tbl #[])) → (∀ b, H b ≠ none → b ∈ cs.map (·.2) ∨ ∃ o xs, H b = some (.frz o (.lst xs))) → SqL K H a (ns.map V.int) → sp [.ref a] H (fun v _ => v = .bl true) fun _ _ _ => False) ∧
    ∀ base : Heap, K.In base → base.Ns mainGlobals mg → (∀ p ∈ cs, TabB base mg p.1 p.2) → FnG l.prog w K mg base CX k fa fd [x] sp
theorem law_callG (KX : K.In s₁.heap) (hns : s₁.heap.Ns mainGlobals mg) (hb : s₁.heap.Ns builtinsNs mb) (hbb : ∀ x : Str, x ≠ "__name__" → mb x = bootBuiltins x) (hlim : s₁.heap.NoLimit) (hg : s₁.gens = #[])
    (hT : ∀ p ∈ cs, s₁.heap.get? p.2 = some { cls := .none, data := .fields #[] }) (nT : ∀ p ∈ cs, K.lookup p.2 = none) (C : ∀ p ∈ cs, PySem.W.CodeHd s₁.heap p.1 p.2)
    (hbm : ∃ (bm : Addr) (ob : Obj), mg "__builtins__" = some (.ref bm) ∧ bm ≠ builtinsNs ∧ s₁.heap.get? bm = some ob ∧ ob.cls = .type "module" ∧ ob.dict = some builtinsNs ∧ ob.data = .plain)
    (ha : s₁.heap.get? a = some { cls := .type "list", data := .seq vs.toArray }) (hi : IntsAre vs ns) (hl : ns.length ≤ sizeLine) (hr : RmG k callerA)
    (F : ∀ base : Heap, K.In base → base.Ns mainGlobals mg → (∀ p ∈ cs, TabB base mg p.1 p.2) → FnG P w K mg base CX k fa fd [x] sp) (hbind : ∀ (s : Shared) (u : Value), BindsTo s fd ⟨[u], []⟩ [(x, u)])
    (hsp : ∀ H : Hp, (∀ p ∈ cs, H p.2 = some (.tbl #[])) → (∀ b, H b ≠ none → b ∈ cs.map (·.2) ∨ ∃ o xs, H b = some (.frz o (.lst xs))) → SqL K H a (ns.map V.int) → sp [.ref a] H (fun v _ => v = .bl true) fun _ _ _ => False)
    (hCX : ∀ H e s', CX [] H s₁ (fun _ _ _ => False) e s' → False) :
    codeAny (model P w) callerA (.call (.ref fa) ⟨[.ref a], []⟩) (fun r s' => r = .ok (.ret (.bool true)) ∧ OldK s₁.heap s'.heap ∧ s'.os = s₁.os ∧ AllBare s'.gens) s₁ := by
  have rv := vals_ints hi
  have lenV := hi.length
  have aT : a ∉ cs.map (·.2) := fun z => by
    obtain ⟨p, hp, e⟩ := List.mem_map.mp z
    have q := hT p hp
    rw [e, ha] at q
    have z' : Data.seq vs.toArray _ = Data.fields #[] := congrArg Obj.data (Option.some.inj q)
    cases z'
  have memT : ∀ p ∈ cs, p.2 ∈ cs.map (·.2) := fun p hp => List.mem_map.mpr ⟨p, hp, rfl⟩
  have isT : ∀ b ∈ cs.map (·.2), s₁.heap.get? b = some { cls := .none, data := .fields #[] } := fun b hb => by
    obtain ⟨p, hp, e⟩ := List.mem_map.mp hb
    rw [← e]
    exact hT p hp
  have go : ∀ H : Hp, Seen K s₁.heap (cs.map (·.2)) a vs H → SqL K H a (ns.map V.int) → HOk P w H s₁.heap → _ := fun H S hS hok =>
    seen_call KX hns hb hbb hlim hg hT nT C hbm ha hr F hbind S hok (hsp H (fun p hp => S.tbl _ (memT p hp)) (fun b nb => (S.only b).elim (fun z => absurd z nb) fun z => z.elim .inl fun z => .inr z.2) hS) (hCX H)
  cases hk : K.lookup a with
  | some o =>
    have e := KX a o hk
    rw [ha] at e
    cases e
    refine go (fun b => if b ∈ cs.map (·.2) then some (.tbl #[]) else none) ⟨fun b hb => if_pos hb, fun b => ?_, fun z => absurd (if_neg aT) z⟩ (.inr ⟨_, vs.toArray, _, hk, rfl, rfl, rfl, by rw [List.size_toArray, lenV]; exact hl, by simpa using rv⟩) fun b u z => ?_
    · by_cases hb : b ∈ cs.map (·.2)
      · exact .inr (.inl hb)
      · exact .inl (if_neg hb)
    · by_cases hb : b ∈ cs.map (·.2)
      · cases (if_pos hb).symm.trans z
        exact isT b hb
      · cases (if_neg hb).symm.trans z
  | none =>
    refine go (fun b => if b = a then some (.frz { cls := .type "list", data := .seq vs.toArray } (.lst (ns.map V.int))) else if b ∈ cs.map (·.2) then some (.tbl #[]) else none)
      ⟨fun b hb => (if_neg (fun z => aT (by rw [← z]; exact hb))).trans (if_pos hb), fun b => ?_, fun _ => hk⟩ (.inl (.inr ⟨{ cls := .type "list", data := .seq vs.toArray }, if_pos rfl⟩)) fun b u z => ?_
    · by_cases hb : b = a
      · exact .inr (.inr ⟨hb, _, _, if_pos hb⟩)
      · by_cases hb2 : b ∈ cs.map (·.2)
        · exact .inr (.inl hb2)
        · exact .inl ((if_neg hb).trans (if_neg hb2))
    · by_cases hb : b = a
      · cases (if_pos hb).symm.trans z
        rw [hb]
        exact ⟨ha, by rw [List.length_map]; exact hl, vs, _, rv, ha⟩
      · have z1 := (if_neg hb).symm.trans z
        by_cases hb2 : b ∈ cs.map (·.2)
        · cases (if_pos hb2).symm.trans z1
          exact isT b hb2
        · cases (if_neg hb2).symm.trans z1
theorem rmG_caller {k : Nat} (h : Room k callerA) : RmG k callerA := ⟨h, rfl⟩
/-- a def of the text: its code object, and the empty table of its own lambdas -/
def TabT (q : Program) (K : PySem.W.Frag) (h : Heap) : Prop := ∀ (x : Str) (c P : Addr) (d : DefRec), (recsOf q).find? (fun e => e.name == x) = some d → PySem.W.tabIn K x = some (c, P) → PySem.W.CodeHd h c P ∧ h.get? P = some { cls := .none, data := .fields #[] }
theorem walk_ofG {l : PySem.W.OpenLaw} {n k : Nat} {q : Program} {loose : List Str} {XP : (Str → Option Value) → Heap → Prop} {YP : World → Heap → Prop} {d : DefRec} {K : Params → PySem.W.Frag} {CX : World → CXT} {x : Str}
    (hn : l.most = some n) (hn2 : n ≤ sizeLine) (hdf : d.params.defaults = []) (hr : Room k callerA) (hY : ∀ (w : World) (h : Heap), YP w h → (K w.params).In h)
    (F : ∀ (w : World) (mg : Str → Option Value) (fa : Addr) (h : Heap), YP w h → (K w.params).In h → h.Ns mainGlobals mg → mg d.name = some (.ref fa) → TabT q (K w.params) h → LawG l w (K w.params) (CX w) k n x mg fa h)
    (hCX : ∀ (w : World) (H : Hp) (s : Shared) (e : Value) (s' : Shared), CX w [] H s (fun _ _ _ => False) e s' → False) :
    PySem.W.WalkO q loose XP YP l.row.toRowW d [] (fun f vs => PySem.call f vs) := by
  refine Att.attach_callB hn hdf fun w s₀ s₁ mg mb fa o pm cd doc a vs ns G Y ho hd hcd hmg hobj hints hlen hbits hg => ?_
  have KX := hY w _ Y
  obtain ⟨fd, cs, sp, hT, nT, C, hb, hsp, hF⟩ := F w mg fa _ Y KX G.T.g hmg fun x c P d h1 h2 => PySem.W.tab_of G.T KX h1 h2
  exact law_callG KX G.T.g G.T.b G.T.builtins G.T.nolimit hg hT nT C G.T.bmain hobj hints (Nat.le_trans hlen hn2) ⟨hr, rfl⟩ hF hb (fun H hH hO hS => hsp H a ns hlen hH hO hS) fun H e s' => hCX w H s₁ e s'
end
end PV

namespace PV
open PySem PySem.Spec PyProof.Rows L2
/-! ### the defs of the text -/
inductive Rf where
  | ok (d : D) | er (x : Xn) | no
def startE (n : Nat) (ds : List D) : En := ds.map .fz ++ List.replicate (n - ds.length) .no
def runD (n : Nat) (m : En → Rs) (ds : List D) : Rf := match m (startE n ds) with
  | .rt d _ => .ok d
  | .nx _ => .ok .non
  | .er x _ => .er x
  | _ => .no
/-- .. that is to return something new -/
def runF (n : Nat) (m : En → Rs) (ds : List D) : Rf := match m (startE n ds) with
  | .rt d _ => .ok d
  | .er x _ => .er x
  | _ => .no
/-- what is handed back: kept, or new -/
def rlQ (g : Gc) (fr : Bool) (H F' H' : Hp) (d : D) (v : V) : Prop := if fr = true then ∃ a o, v = .ref a ∧ H' a = some o ∧ F' a = none ∧ H a = none ∧ RepO g F' d o else Rep g F' d v
/-- a def's promise: the result is what f says -/
def spD (g : Gc) (fr : Bool) (n : Nat) (f : List D → Rf) : Sp := fun vs H Q E => vs.length = n ∧ ∃ F ds, WF g F H ∧ Reps g F ds vs ∧ (match f ds with
  | .ok d => ∀ v H' F', Go g F H F' H' → rlQ g fr H F' H' d v → Q v H'
  | .er x => ∀ cls dx H' F', Go g F H F' H' → RepX g F' x cls dx → E cls dx H'
  | .no => False)
section
variable {g : Gc} {F H : Hp}
theorem start_at {N : List Str} {ds : List D} {vs : List V} (r : Reps g F ds vs) (hl : vs.length ≤ N.length) : (startE N.length ds).length = (start N vs).length ∧ ∀ (i : Nat) (d : D), (startE N.length ds)[i]? = some (.fz d) → ∃ v, (start N vs)[i]? = some (some v) ∧ Rep g F d v := by
  unfold startE L2.start
  refine ⟨by simp [r.length], fun i d h => ?_⟩
  by_cases hi : i < ds.length
  · rw [List.getElem?_append_left (by simpa using hi), List.getElem?_map] at h
    cases q : ds[i]? with
    | none =>
      rw [q] at h
      cases h
    | some d' =>
      rw [q] at h
      cases h
      obtain ⟨v, h1, h2⟩ := r.get q
      refine ⟨v, ?_, h2⟩
      rw [List.getElem?_append_left (by rw [List.length_map, ← r.length]; exact hi), List.getElem?_map, h1]
      rfl
  · rw [List.getElem?_append_right (by simpa using hi), List.getElem?_replicate] at h
    split at h <;> cases h
theorem start_fz {n : Nat} {ds : List D} {i : Nat} {s : Sl} (h : (startE n ds)[i]? = some s) : s = .no ∨ ∃ d, s = .fz d := by
  unfold startE at h
  by_cases hi : i < ds.length
  · rw [List.getElem?_append_left (by simpa using hi), List.getElem?_map] at h
    cases q : ds[i]? with
    | none =>
      rw [q] at h
      cases h
    | some d' =>
      rw [q] at h
      cases h
      exact .inr ⟨_, rfl⟩
  · rw [List.getElem?_append_right (by simpa using hi), List.getElem?_replicate] at h
    split at h
    · cases h
      exact .inl rfl
    · cases h
theorem SR.start {fr : Bool} {N : List Str} {ds : List D} {vs : List V} (w : WF g F H) (r : Reps g F ds vs) (hl : vs.length ≤ N.length) : SR ⟨g, none, H, F, fr⟩ (startE N.length ds) (L2.start N vs) H F := by
  obtain ⟨h1, h2⟩ := start_at r hl
  refine ⟨Gr.refl w, fun _ h => h, fun a e => (by cases e), h1, h2, fun i d e => ?_, fun i d e => ?_, fun i j a ⟨_, d, e⟩ => ?_⟩
  · rcases start_fz e with z | ⟨_, z⟩ <;> cases z
  · rcases start_fz e with z | ⟨_, z⟩ <;> cases z
  · rcases e with e | e <;> (rcases start_fz e with z | ⟨_, z⟩ <;> cases z)
theorem SR.goes {fr : Bool} {ra : Option Addr} {env : En} {σ : L2.St} {F0 H0 : Hp} (S : SR ⟨g, ra, H0, F0, fr⟩ env σ H F) : Gr g ra F0 H0 F H ∧ ∀ b, H0 b ≠ none → H b ≠ none := ⟨S.gr, S.there⟩
end
section
variable {P : Program} {w : World} {K : PySem.W.Frag} {mg : Str → Option Value} {base : Heap}
/-- a def's wish -/
abbrev wD (E : XK) : WX := fun cls d _ H => E cls d H
theorem rlR_rep {c : Cn} {e : En} {σ : L2.St} {F H : Hp} {d : D} {v : V} (hf : c.fr = false) (h : rlR c e σ F H d v) : Rep c.toGc F d v := by
  unfold rlR at h
  rw [if_neg (by rw [hf]; exact Bool.false_ne_true)] at h
  exact h
theorem rlR_q {g : Gc} {fr : Bool} {ra : Option Addr} {H0 F0 : Hp} {e : En} {σ : L2.St} {F H : Hp} {d : D} {v : V} (h : rlR ⟨g, ra, H0, F0, fr⟩ e σ F H d v) : rlQ g fr H0 F H d v := by
  cases fr with
  | true =>
    unfold rlR at h
    rw [if_pos rfl] at h
    obtain ⟨a, o, h1, h2, h3, h4, _, _, h5⟩ := h
    unfold rlQ
    rw [if_pos rfl]
    exact ⟨a, o, h1, h2, h3, h4, h5⟩
  | false => 
    have := rlR_rep (c := ⟨g, ra, H0, F0, false⟩) rfl h
    unfold rlQ
    rw [if_neg Bool.false_ne_true]
    exact this
theorem rlQ_non {g : Gc} {H F H' : Hp} : rlQ g false H F H' .non .non := by
  unfold rlQ
  rw [if_neg Bool.false_ne_true]
  exact .non
/-- THE RULE for a def -/
theorem okD {g : Gc} {x qual : Str} {st : Stmt} {f : Addr} {fd : FuncData} {N ps : List Str} {k : Nat} {m : En → Rs} (Fn : Fun K x qual st f fd) (S : FnScope N ps (defScope st)) (hps : ps.length ≤ N.length)
    (hbody : ∀ (cdv : Value) (A : Around) (outer : List Env) (s : Shared) (H : Hp) (E : XK) (H0 F0 : Hp), fd.code = cdv → RmG k (A.deeper (envOfC qual (defScope st) s.heap.objs.size f cdv)) →
      PSs (cxOf (L2.CX P w) P w K mg base N qual (defScope st) f cdv A outer s H E) (defBody st) (tS ⟨g, none, H0, F0, false⟩ (wD E) m)) :
    FnG P w K mg base (L2.CX P w) (k + 1) f fd ps (spD g false ps.length (runD N.length m)) := by
  refine okG Fn S (fun vs H Q E h => h.1) (fun cdv A outer s H vs Q E hcv hr h => ?_)
  obtain ⟨hl, F, ds, wf, r, h⟩ := h
  refine ⟨_, hbody cdv A outer s H E H F hcv hr, startE N.length ds, F, SR.start wf r (by omega), ?_⟩
  unfold runD at h
  cases z : m (startE N.length ds) with
  | rt d e =>
    rw [z] at h
    exact fun v σ H' F' S' s' rv => h v H' F' ⟨S'.gr, S'.there⟩ (rlR_q rv)
  | nx e =>
    rw [z] at h
    exact fun σ H' F' S' s' => h .non H' F' ⟨S'.gr, S'.there⟩ rlQ_non
  | er x e =>
    rw [z] at h
    exact fun cls dx σ H' F' S' s' rx => h cls dx H' F' ⟨S'.gr, S'.there⟩ rx
  | bk e =>
    rw [z] at h
    exact h.elim
  | ct e =>
    rw [z] at h
    exact h.elim
  | no =>
    rw [z] at h
    exact h.elim
theorem okF {g : Gc} {x qual : Str} {st : Stmt} {f : Addr} {fd : FuncData} {N ps : List Str} {k : Nat} {m : En → Rs} (Fn : Fun K x qual st f fd) (S : FnScope N ps (defScope st)) (hps : ps.length ≤ N.length)
    (hbody : ∀ (cdv : Value) (A : Around) (outer : List Env) (s : Shared) (H : Hp) (E : XK) (H0 F0 : Hp), fd.code = cdv → RmG k (A.deeper (envOfC qual (defScope st) s.heap.objs.size f cdv)) →
      PSs (cxOf (L2.CX P w) P w K mg base N qual (defScope st) f cdv A outer s H E) (defBody st) (tS ⟨g, none, H0, F0, true⟩ (wD E) m)) :
    FnG P w K mg base (L2.CX P w) (k + 1) f fd ps (spD g true ps.length (runF N.length m)) := by
  refine okG Fn S (fun vs H Q E h => h.1) (fun cdv A outer s H vs Q E hcv hr h => ?_)
  obtain ⟨hl, F, ds, wf, r, h⟩ := h
  refine ⟨_, hbody cdv A outer s H E H F hcv hr, startE N.length ds, F, SR.start wf r (by omega), ?_⟩
  unfold runF at h
  cases z : m (startE N.length ds) with
  | rt d e =>
    rw [z] at h
    exact fun v σ H' F' S' s' rv => h v H' F' ⟨S'.gr, S'.there⟩ (rlR_q rv)
  | nx e =>
    rw [z] at h
    exact h.elim
  | er x e =>
    rw [z] at h
    exact fun cls dx σ H' F' S' s' rx => h cls dx H' F' ⟨S'.gr, S'.there⟩ rx
  | bk e =>
    rw [z] at h
    exact h.elim
  | ct e =>
    rw [z] at h
    exact h.elim
  | no =>
    rw [z] at h
    exact h.elim
end
/-! ### calls -/
theorem rlQ_rep {g : Gc} {H F H' : Hp} {d : D} {v : V} (h : rlQ g false H F H' d v) : Rep g F d v := by
  unfold rlQ at h
  rw [if_neg Bool.false_ne_true] at h
  exact h
theorem rlQ_fr {g : Gc} {H F H' : Hp} {d : D} {v : V} (h : rlQ g true H F H' d v) : ∃ a o, v = .ref a ∧ H' a = some o ∧ F a = none ∧ H a = none ∧ RepO g F d o := by
  unfold rlQ at h
  rw [if_pos rfl] at h
  exact h
def mCall (f : List D → Rf) (ms : List (En → R D)) : En → R D := fun env => (evS ms env).bind fun ds e => match f ds with
  | .ok d => .ok d e
  | .er x => .er x e
  | .no => .no
/-- own containers lent for the time of the call: the result holds no container -/
def mCallL (f : List D → Rf) (os : List Od) : En → R D := fun env => (evA os env).bind fun ds e => if ds.any lockO = true then .no else match f ds with
  | .ok d => if imm d = true then .ok d e else .no
  | .er x => if x.fs.isNone = true then .er x e else .no
  | .no => .no
section
variable {c : Cn} {W : WX} {X : Cx} {k : Nat} {f : Addr} {fd : FuncData} {ps : List Str} {n : Nat} {fn : List D → Rf} {x : Str} {p pos : Pos} {e : Expr} {es : List Expr} {ms : List (En → R D)} {os : List Od}
theorem call_ok {σ : L2.St} {H : Hp} {Q : VK} (hn : ms.length = n) (q : tE c W (mCall fn ms) σ H Q) : tMs c W ms σ H fun vs H1 => spD c.toGc false n fn vs H1 Q (WE W σ) := by
  obtain ⟨env, F, S, q⟩ := q
  refine tMsA ms S q fun ds e vs H1 F1 S1 s1 r1 hl h1 => ⟨by rw [r1.length_eq, hl, hn], F1, ds, S1.wf, r1, ?_⟩
  cases z : fn ds with
  | ok d =>
    rw [z] at h1
    exact fun v H' F' g' rv => h1 v H' F' (S1.go g') g'.gr.f (rlQ_rep rv)
  | er x =>
    rw [z] at h1
    exact fun cls dx H' F' g' rx => h1 cls dx H' F' (S1.go g') g'.gr.f rx
  | no =>
    rw [z] at h1
    exact h1
theorem re_call (Fo : FnG X.prog X.w X.K X.mg X.base (L2.CX X.prog X.w) k f fd ps (spD c.toGc false n fn)) (hr : RmG k X.A) (hg : Gl X x) (hm : X.mg x = some (.ref f)) (hk : PySem.W.keepIn X.K (.ref f) = true) (hb : Binds X.K fd ps []) (tk : Takes X W)
    (ha : PA X (e :: es) (tMs c W ms)) (hn : ms.length = n := by rfl) (hdb : (x == ("__debug__" : Str)) = false := by decide) (he : starEach (e :: es) X.env = (false, eval e X.env) :: starEach es X.env := by rfl) (hpl : (backTo pos (starEach es X.env)).any (·.1) = false := by rfl) :
    PE X (.Call (.Name x p) (e :: es) [] pos) (tE c W (mCall fn ms)) :=
  (pe_callG (E := WE W) Fo hr hg hm hk hb (fun σ => passAt tk σ) ha hdb he hpl).imp fun σ H Q q => call_ok hn q
theorem callF_ok {σ : L2.St} {H : Hp} {Q : VK} (hn : ms.length = n) (q : tF c W (mCall fn ms) σ H Q) : tMs c W ms σ H fun vs H1 => spD c.toGc true n fn vs H1 Q (WE W σ) := by
  obtain ⟨env, F, S, q⟩ := q
  refine tMsA ms S q fun ds e vs H1 F1 S1 s1 r1 hl h1 => ⟨by rw [r1.length_eq, hl, hn], F1, ds, S1.wf, r1, ?_⟩
  cases z : fn ds with
  | ok d =>
    rw [z] at h1
    intro v H' F' g' rv
    obtain ⟨a, o, ev, a1, a2, a3, a4⟩ := rlQ_fr rv
    exact h1 v H' F' (S1.go g') g'.gr.f ⟨a, o, ev, a1, a2, S1.h0 a3, fun z => S1.rtH a z a3, fun i h => (S1.own_there h).1 a3, a4⟩
  | er x =>
    rw [z] at h1
    exact fun cls dx H' F' g' rx => h1 cls dx H' F' (S1.go g') g'.gr.f rx
  | no =>
    rw [z] at h1
    exact h1
theorem re_callF (Fo : FnG X.prog X.w X.K X.mg X.base (L2.CX X.prog X.w) k f fd ps (spD c.toGc true n fn)) (hr : RmG k X.A) (hg : Gl X x) (hm : X.mg x = some (.ref f)) (hk : PySem.W.keepIn X.K (.ref f) = true) (hb : Binds X.K fd ps []) (tk : Takes X W)
    (ha : PA X (e :: es) (tMs c W ms)) (hn : ms.length = n := by rfl) (hdb : (x == ("__debug__" : Str)) = false := by decide) (he : starEach (e :: es) X.env = (false, eval e X.env) :: starEach es X.env := by rfl) (hpl : (backTo pos (starEach es X.env)).any (·.1) = false := by rfl) :
    PE X (.Call (.Name x p) (e :: es) [] pos) (tF c W (mCall fn ms)) :=
  (pe_callG (E := WE W) Fo hr hg hm hk hb (fun σ => passAt tk σ) ha hdb he hpl).imp fun σ H Q q => callF_ok hn q
theorem re_call0 (Fo : FnG X.prog X.w X.K X.mg X.base (L2.CX X.prog X.w) k f fd ps (spD c.toGc false 0 fn)) (hr : RmG k X.A) (hg : Gl X x) (hm : X.mg x = some (.ref f)) (hk : PySem.W.keepIn X.K (.ref f) = true) (hb : Binds X.K fd ps []) (tk : Takes X W)
    (hdb : (x == ("__debug__" : Str)) = false := by decide) : PE X (.Call (.Name x p) [] [] pos) (tE c W (mCall fn [])) := by
  refine ⟨fun pins s σ H Q I h => ?_⟩
  refine wpAny_Call_Name_kw (ld_glob I hg hm ?_ hdb)
  exact PySem.W.callWith_K0 I.kIn hk (run_fnG (E := WE W) (us := []) (vs := []) Fo hr hb (passAt tk σ) I .nil (call_ok (ms := []) rfl h))
/-- all that is tracked but the tables, frozen -/
def noTbl (H : Hp) : Hp := fun b => match H b with
  | some (.tbl _) => none
  | o => o
theorem noTbl_some {H : Hp} {b : Addr} {o : HO} (h : H b = some o) (n : ∀ ps, o ≠ .tbl ps) : noTbl H b = some o := by
  unfold noTbl
  rw [h]
  cases o <;> first | rfl | exact absurd rfl (n _)
theorem noTbl_of {H : Hp} {b : Addr} {o : HO} (h : noTbl H b = some o) : H b = some o ∧ ∀ ps, o ≠ .tbl ps := by
  unfold noTbl at h
  cases q : H b with
  | none =>
    rw [q] at h
    cases h
  | some u =>
    rw [q] at h
    cases u <;> first | (cases h; exact ⟨rfl, fun ps z => by cases z⟩) | cases h
theorem WF.all {g : Gc} {F H : Hp} (w : WF g F H) : WF g (noTbl H) H ∧ Same F (noTbl H) :=
  ⟨⟨fun b o e => (noTbl_of e).1, fun b o e t => noTbl_some e (fun ps z => by subst z; cases t), fun b ps e => (noTbl_of e).2 ps rfl, w.tab⟩, fun b o e => noTbl_some (w.sub _ _ e) (fun ps z => by subst z; exact w.nt _ _ e)⟩
theorem Rep1s.all {g : Gc} {F H : Hp} (w : WF g F H) : ∀ {ds : List D} {vs : List V}, Rep1s g F H ds vs → ds.any lockO = false → Reps g (noTbl H) ds vs
  | _, _, .nil, _ => .nil
  | _, _, .cons h t, hl => by
    rw [List.any_cons, Bool.or_eq_false_iff] at hl
    refine .cons ?_ (Rep1s.all w t hl.2)
    rcases h with h | ⟨e, h1, h⟩
    · exact h.mono w.all.2
    · subst e
      exact (h.mono w.all.2).rep hl.1 (noTbl_some h1 h.ntbl)
theorem Rep1s.length {g : Gc} {F H : Hp} : ∀ {ds : List D} {vs : List V}, Rep1s g F H ds vs → vs.length = ds.length
  | _, _, .nil => rfl
  | _, _, .cons _ t => by simp [Rep1s.length t]
theorem callL_ok {σ : L2.St} {H : Hp} {Q : VK} (hn : ∀ env e ds, evA os env = .ok ds e → ds.length = n) (q : tE c W (mCallL fn os) σ H Q) : tOds c W os σ H fun vs H1 => spD c.toGc false n fn vs H1 Q (WE W σ) := by
  obtain ⟨env, F, S, q⟩ := q
  have q2 : Okp c W σ F (rlE c) Q ((evA os env).bind fun ds e => if ds.length = n then (if ds.any lockO = true then .no else match fn ds with
    | .ok d => if imm d = true then .ok d e else .no
    | .er x => if x.fs.isNone = true then .er x e else .no
    | .no => .no) else .no) := by
    cases z : evA os env with
    | ok ds e =>
      unfold mCallL at q
      rw [z] at q
      show Okp c W σ F (rlE c) Q (if ds.length = n then _ else _)
      rw [if_pos (hn env e ds z)]
      exact q
    | er x e =>
      unfold mCallL at q
      rw [z] at q
      exact q
    | no =>
      unfold mCallL at q
      rw [z] at q
      exact q
  refine tOdsA os S q2 fun ds e vs H1 F1 S1 s1 r1 h1 => ?_
  split at h1
  · rename_i hl
    have hlk : ds.any lockO = false := by
      cases q : ds.any lockO with
      | false => rfl
      | true =>
        rw [q, if_pos rfl] at h1
        exact h1.elim
    rw [hlk, if_neg Bool.false_ne_true] at h1
    refine ⟨by rw [r1.length, hl], noTbl H1, ds, S1.wf.all.1, r1.all S1.wf hlk, ?_⟩
    -- the frozen part of ours behind the call
    have back : ∀ {H' F' : Hp}, Go c.toGc (noTbl H1) H1 F' H' → ∃ F'', Go c.toGc F1 H1 F'' H' ∧ (∀ b, H1 b = none → F'' b = F' b) ∧ ∀ a u, F' a = some u → tupy u = true → F'' a = some u := fun {H' F'} g' => by
      obtain ⟨fu, hfu⟩ : ∃ fu : Hp, ∀ b, fu b = if (H1 b).isSome = true then F1 b else F' b := ⟨fun b => if (H1 b).isSome = true then F1 b else F' b, fun _ => rfl⟩
      have at1 : ∀ b, H1 b ≠ none → fu b = F1 b := fun b hb => by
        rw [hfu, if_pos]
        cases q : H1 b with
        | none => exact absurd q hb
        | some u => rfl
      have at2 : ∀ b, H1 b = none → fu b = F' b := fun b hb => by
        rw [hfu, hb, if_neg]
        simp
      have tp : ∀ a u, F' a = some u → tupy u = true → fu a = some u := fun a u e t => by
        by_cases hb : H1 a = none
        · rw [at2 a hb]; exact e
        · rw [at1 a hb]
          have e2 := (g'.gr.new a hb).symm.trans e
          exact S1.wf.tup a u (noTbl_of e2).1 t
      refine ⟨fu, ⟨⟨⟨fun b u e => ?_, fun b u e t => ?_, fun b ps e => ?_, g'.gr.wf.tab⟩, fun b u e => ?_, g'.gr.h, at1⟩, g'.th⟩, at2, tp⟩
      · by_cases hb : H1 b = none
        · rw [at2 b hb] at e
          exact g'.gr.wf.sub _ _ e
        · rw [at1 b hb] at e
          exact g'.gr.h b u (S1.wf.sub _ _ e) (fun ps z => by subst z; exact S1.wf.nt _ _ e) (by simp)
      · exact tp b u (g'.gr.wf.tup b u e t) t
      · by_cases hb : H1 b = none
        · rw [at2 b hb] at e
          exact g'.gr.wf.nt _ _ e
        · rw [at1 b hb] at e
          exact S1.wf.nt _ _ e
      · rw [at1 b (by rw [S1.wf.sub _ _ e]; simp)]
        exact e
    cases z : fn ds with
    | ok d =>
      rw [z] at h1
      intro v H' F' g' rv
      obtain ⟨F'', g'', _, tp⟩ := back g'
      have rv := rlQ_rep rv
      have h1' : Okp c W σ F1 (rlE c) Q (if imm d = true then .ok d e else .no) := h1
      split at h1'
      · rename_i hi
        exact h1' v H' F'' (S1.go g'') g''.gr.f (rv.imm tp hi)
      · exact h1'.elim
    | er y =>
      rw [z] at h1
      intro cls dx H' F' g' rx
      obtain ⟨F'', g'', nw, tp⟩ := back g'
      have h1' : Okp c W σ F1 (rlE c) Q (if y.fs.isNone = true then .er y e else .no) := h1
      split at h1'
      · rename_i hi
        refine h1' cls dx H' F'' (S1.go g'') g''.gr.f ?_
        obtain ⟨C, e1, e2, e3⟩ := rx
        refine ⟨C, e1, e2, ?_⟩
        cases q : y.fs with
        | none =>
          rw [q] at e3
          exact e3
        | some fs =>
          rw [q] at hi
          cases hi
      · exact h1'.elim
    | no =>
      rw [z] at h1
      exact h1
  · exact h1.elim
theorem evA_len : ∀ (os : List Od) {env e : En} {ds : List D}, evA os env = .ok ds e → ds.length = os.length := by
  have fl : ∀ (ps : List Pd) (e : En) (ds : List D), fill ps e = some ds → ds.length = ps.length := by
    intro ps
    induction ps with
    | nil =>
      intro e ds h
      cases h
      rfl
    | cons p r ih =>
      intro e ds h
      cases p with
      | inl d =>
        unfold fill at h
        cases q : fill r e with
        | none =>
          rw [q] at h
          cases h
        | some ds' =>
          rw [q] at h
          cases h
          simp [ih e ds' q]
      | inr i =>
        unfold fill at h
        cases z : val e i with
        | none =>
          rw [z] at h
          cases h
        | some d =>
          rw [z] at h
          cases q : fill r e with
          | none =>
            rw [q] at h
            cases h
          | some ds' =>
            rw [q] at h
            cases h
            simp [ih e ds' q]
  have ev : ∀ (os : List Od) (env e : En) (ps : List Pd), evP os env = .ok ps e → ps.length = os.length := by
    intro os
    induction os with
    | nil =>
      intro env e ps h
      cases h
      rfl
    | cons o r ih =>
      intro env e ps h
      cases o with
      | m f =>
        have h' : ((f env).bind fun d e => (evP r e).bind fun ps e' => R.ok (.inl d :: ps) e') = .ok ps e := h
        cases q : f env with
        | ok d e1 =>
          rw [q] at h'
          have h2 : ((evP r e1).bind fun ps e' => R.ok (Sum.inl d :: ps) e') = .ok ps e := h'
          cases q2 : evP r e1 with
          | ok ps' e2 =>
            rw [q2] at h2
            cases h2
            simp [ih _ _ _ q2]
          | er x e2 =>
            rw [q2] at h2
            cases h2
          | no =>
            rw [q2] at h2
            cases h2
        | er x e1 =>
          rw [q] at h'
          cases h'
        | no =>
          rw [q] at h'
          cases h'
      | s i =>
        have h' : (match val env i with | some _ => (evP r env).bind fun ps e' => R.ok (.inr i :: ps) e' | none => R.no : R (List Pd)) = .ok ps e := h
        cases z : val env i with
        | none =>
          rw [z] at h'
          cases h'
        | some d =>
          rw [z] at h'
          have h2 : ((evP r env).bind fun ps e' => R.ok (Sum.inr i :: ps) e') = .ok ps e := h'
          cases q2 : evP r env with
          | ok ps' e2 =>
            rw [q2] at h2
            cases h2
            simp [ih _ _ _ q2]
          | er x e2 =>
            rw [q2] at h2
            cases h2
          | no =>
            rw [q2] at h2
            cases h2
  intro os env e ds h
  unfold evA at h
  cases q : evP os env with
  | ok ps e1 =>
    rw [q] at h
    have h2 : (match fill ps e1 with | some ds => R.ok ds e1 | none => R.no) = .ok ds e := h
    cases q2 : fill ps e1 with
    | none =>
      rw [q2] at h2
      cases h2
    | some ds' =>
      rw [q2] at h2
      cases h2
      rw [fl _ _ _ q2, ev _ _ _ _ q]
  | er x e1 =>
    rw [q] at h
    cases h
  | no =>
    rw [q] at h
    cases h
theorem re_callL (Fo : FnG X.prog X.w X.K X.mg X.base (L2.CX X.prog X.w) k f fd ps (spD c.toGc false n fn)) (hr : RmG k X.A) (hg : Gl X x) (hm : X.mg x = some (.ref f)) (hk : PySem.W.keepIn X.K (.ref f) = true) (hb : Binds X.K fd ps []) (tk : Takes X W)
    (ha : PA X (e :: es) (tOds c W os)) (hn : os.length = n := by rfl) (hdb : (x == ("__debug__" : Str)) = false := by decide) (he : starEach (e :: es) X.env = (false, eval e X.env) :: starEach es X.env := by rfl) (hpl : (backTo pos (starEach es X.env)).any (·.1) = false := by rfl) :
    PE X (.Call (.Name x p) (e :: es) [] pos) (tE c W (mCallL fn os)) :=
  (pe_callG (E := WE W) Fo hr hg hm hk hb (fun σ => passAt tk σ) ha hdb he hpl).imp fun σ H Q q => callL_ok (fun env e ds z => (evA_len os z).trans hn) q
end
/-! ### a def that changes what it is handed first -/
inductive Rr where
  | ok (d d0 : D) | no
def rf0 (e : En) : Option D := match (e[0]? : Option Sl) with
  | some (.rf d) => some d
  | _ => none
def runR (n : Nat) (m : En → Rs) (d0 : D) (ds : List D) : Rr := match m (.rf d0 :: startE n ds) with
  | .rt d e => (match rf0 e with
    | some d0' => .ok d d0'
    | none => .no)
  | .nx e => (match rf0 e with
    | some d0' => .ok .non d0'
    | none => .no)
  | _ => .no
def runRF (n : Nat) (m : En → Rs) (d0 : D) (ds : List D) : Rr := match m (.rf d0 :: startE n ds) with
  | .rt d e => (match rf0 e with
    | some d0' => .ok d d0'
    | none => .no)
  | _ => .no
def spR (g : Gc) (fr : Bool) (n : Nat) (f : D → List D → Rr) : Sp := fun vs H Q E => vs.length = n + 1 ∧ ∃ F a d0 o ds vs', vs = .ref a :: vs' ∧ WF g F H ∧ H a = some o ∧ F a = none ∧ RepO g F d0 o ∧ Reps g F ds vs' ∧ (match f d0 ds with
  | .ok d d0' => ∀ v H' F' o', Gr g (some a) F H F' H' → (∀ b, H b ≠ none → H' b ≠ none) → H' a = some o' → F' a = none → RepO g F' d0' o' → rlQ g fr H F' H' d v → Q v H'
  | .no => False)
section
variable {P : Program} {w : World} {K : PySem.W.Frag} {mg : Str → Option Value} {base : Heap}
theorem okR {g : Gc} {x qual : Str} {st : Stmt} {f : Addr} {fd : FuncData} {y : Str} {N ps : List Str} {k n : Nat} {m : En → Rs} (Fn : Fun K x qual st f fd) (S : FnScope (y :: N) ps (defScope st)) (hn : ps.length = n + 1) (hps : n ≤ N.length)
    (hbody : ∀ (cdv : Value) (A : Around) (outer : List Env) (s : Shared) (H : Hp) (E : XK) (ra : Option Addr) (H0 F0 : Hp), fd.code = cdv → RmG k (A.deeper (envOfC qual (defScope st) s.heap.objs.size f cdv)) →
      PSs (cxOf (L2.CX P w) P w K mg base (y :: N) qual (defScope st) f cdv A outer s H E) (defBody st) (tS ⟨g, ra, H0, F0, false⟩ (wD E) m)) :
    FnG P w K mg base (L2.CX P w) (k + 1) f fd ps (spR g false n (runR N.length m)) := by
  refine okG Fn S (fun vs H Q E h => by rw [h.1, hn]) (fun cdv A outer s H vs Q E hcv hr h => ?_)
  obtain ⟨hl, F, a, d0, o, ds, vs', rfl, wf, ha, fa, ro, r, h⟩ := h
  have hl' : vs'.length = n := by simpa using hl
  obtain ⟨h1, h2⟩ := start_at r (N := N) (by omega)
  have hs : L2.start (y :: N) (.ref a :: vs') = some (.ref a) :: L2.start N vs' := by
    unfold L2.start
    simp
  have S0 : SR ⟨g, some a, H, F, false⟩ (.rf d0 :: startE N.length ds) (L2.start (y :: N) (.ref a :: vs')) H F := by
    rw [hs]
    have no : ∀ (i : Nat) (d : D), (startE N.length ds)[i]? = some (.ow d) ∨ (startE N.length ds)[i]? = some (.rf d) → False := fun i d e => by
      rcases e with e | e <;> (rcases start_fz e with z | ⟨_, z⟩ <;> cases z)
    refine ⟨⟨wf, Same.refl _, fun b u e _ _ => e, fun _ _ => rfl⟩, fun _ h => h, fun b e => ?_, by simp [h1], fun i d e => ?_, fun i d e => ?_, fun i d e => ?_, fun i j b ⟨_, d, e⟩ ⟨_, d', e'⟩ => ?_⟩
    · cases e
      show H _ ≠ none
      rw [ha]
      simp
    · cases i with
      | zero => cases e
      | succ i => exact h2 i d e
    · cases i with
      | zero => cases e
      | succ i => exact (no i d (.inl e)).elim
    · cases i with
      | zero =>
        cases e
        exact ⟨a, o, rfl, rfl, ha, fa, ro⟩
      | succ i => exact (no i d (.inr e)).elim
    · cases i with
      | zero =>
        cases j with
        | zero => rfl
        | succ j => exact (no j d' e').elim
      | succ i => exact (no i d e).elim
  refine ⟨_, hbody cdv A outer s H E (some a) H F hcv hr, _, F, S0, ?_⟩
  have fin : ∀ {e : En} {σ : L2.St} {H' F' : Hp} {d0' : D}, SR ⟨g, some a, H, F, false⟩ e σ H' F' → rf0 e = some d0' → ∃ o', H' a = some o' ∧ F' a = none ∧ RepO g F' d0' o' := fun {e σ H' F' d0'} S' z => by
    unfold rf0 at z
    split at z
    · rename_i d' z'
      cases z
      obtain ⟨b, o', e0, e1, e2, e3, e4⟩ := S'.rf 0 _ z'
      cases e0
      exact ⟨o', e2, e3, e4⟩
    · cases z
  unfold runR at h
  cases z : m (.rf d0 :: startE N.length ds) with
  | rt d e =>
    rw [z] at h
    cases z2 : rf0 e with
    | none =>
      have h' : (match (match rf0 e with | some d0' => Rr.ok d d0' | none => .no) with
        | .ok d d0' => ∀ v H' F' o', Gr g (some a) F H F' H' → (∀ b, H b ≠ none → H' b ≠ none) → H' a = some o' → F' a = none → RepO g F' d0' o' → rlQ g false H F' H' d v → Q v H'
        | .no => False) := h
      rw [z2] at h'
      exact h'.elim
    | some d0' =>
      have h' : (match (match rf0 e with | some d0' => Rr.ok d d0' | none => .no) with
        | .ok d d0' => ∀ v H' F' o', Gr g (some a) F H F' H' → (∀ b, H b ≠ none → H' b ≠ none) → H' a = some o' → F' a = none → RepO g F' d0' o' → rlQ g false H F' H' d v → Q v H'
        | .no => False) := h
      rw [z2] at h'
      intro v σ H' F' S' s' rv
      obtain ⟨o', g1, g2, g3⟩ := fin S' z2
      exact h' v H' F' o' S'.gr S'.there g1 g2 g3 (rlR_q rv)
  | nx e =>
    rw [z] at h
    cases z2 : rf0 e with
    | none =>
      have h' : (match (match rf0 e with | some d0' => Rr.ok .non d0' | none => .no) with
        | .ok d d0' => ∀ v H' F' o', Gr g (some a) F H F' H' → (∀ b, H b ≠ none → H' b ≠ none) → H' a = some o' → F' a = none → RepO g F' d0' o' → rlQ g false H F' H' d v → Q v H'
        | .no => False) := h
      rw [z2] at h'
      exact h'.elim
    | some d0' =>
      have h' : (match (match rf0 e with | some d0' => Rr.ok .non d0' | none => .no) with
        | .ok d d0' => ∀ v H' F' o', Gr g (some a) F H F' H' → (∀ b, H b ≠ none → H' b ≠ none) → H' a = some o' → F' a = none → RepO g F' d0' o' → rlQ g false H F' H' d v → Q v H'
        | .no => False) := h
      rw [z2] at h'
      intro σ H' F' S' s'
      obtain ⟨o', g1, g2, g3⟩ := fin S' z2
      exact h' .non H' F' o' S'.gr S'.there g1 g2 g3 rlQ_non
  | er x e =>
    rw [z] at h
    exact h.elim
  | bk e =>
    rw [z] at h
    exact h.elim
  | ct e =>
    rw [z] at h
    exact h.elim
  | no =>
    rw [z] at h
    exact h.elim
theorem okRF {g : Gc} {x qual : Str} {st : Stmt} {f : Addr} {fd : FuncData} {y : Str} {N ps : List Str} {k n : Nat} {m : En → Rs} (Fn : Fun K x qual st f fd) (S : FnScope (y :: N) ps (defScope st)) (hn : ps.length = n + 1) (hps : n ≤ N.length)
    (hbody : ∀ (cdv : Value) (A : Around) (outer : List Env) (s : Shared) (H : Hp) (E : XK) (ra : Option Addr) (H0 F0 : Hp), fd.code = cdv → RmG k (A.deeper (envOfC qual (defScope st) s.heap.objs.size f cdv)) →
      PSs (cxOf (L2.CX P w) P w K mg base (y :: N) qual (defScope st) f cdv A outer s H E) (defBody st) (tS ⟨g, ra, H0, F0, true⟩ (wD E) m)) :
    FnG P w K mg base (L2.CX P w) (k + 1) f fd ps (spR g true n (runRF N.length m)) := by
  refine okG Fn S (fun vs H Q E h => by rw [h.1, hn]) (fun cdv A outer s H vs Q E hcv hr h => ?_)
  obtain ⟨hl, F, a, d0, o, ds, vs', rfl, wf, ha, fa, ro, r, h⟩ := h
  have hl' : vs'.length = n := by simpa using hl
  obtain ⟨h1, h2⟩ := start_at r (N := N) (by omega)
  have hs : L2.start (y :: N) (.ref a :: vs') = some (.ref a) :: L2.start N vs' := by
    unfold L2.start
    simp
  have S0 : SR ⟨g, some a, H, F, true⟩ (.rf d0 :: startE N.length ds) (L2.start (y :: N) (.ref a :: vs')) H F := by
    rw [hs]
    have no : ∀ (i : Nat) (d : D), (startE N.length ds)[i]? = some (.ow d) ∨ (startE N.length ds)[i]? = some (.rf d) → False := fun i d e => by
      rcases e with e | e <;> (rcases start_fz e with z | ⟨_, z⟩ <;> cases z)
    refine ⟨⟨wf, Same.refl _, fun b u e _ _ => e, fun _ _ => rfl⟩, fun _ h => h, fun b e => ?_, by simp [h1], fun i d e => ?_, fun i d e => ?_, fun i d e => ?_, fun i j b ⟨_, d, e⟩ ⟨_, d', e'⟩ => ?_⟩
    · cases e
      show H _ ≠ none
      rw [ha]
      simp
    · cases i with
      | zero => cases e
      | succ i => exact h2 i d e
    · cases i with
      | zero => cases e
      | succ i => exact (no i d (.inl e)).elim
    · cases i with
      | zero =>
        cases e
        exact ⟨a, o, rfl, rfl, ha, fa, ro⟩
      | succ i => exact (no i d (.inr e)).elim
    · cases i with
      | zero =>
        cases j with
        | zero => rfl
        | succ j => exact (no j d' e').elim
      | succ i => exact (no i d e).elim
  refine ⟨_, hbody cdv A outer s H E (some a) H F hcv hr, _, F, S0, ?_⟩
  have fin : ∀ {e : En} {σ : L2.St} {H' F' : Hp} {d0' : D}, SR ⟨g, some a, H, F, true⟩ e σ H' F' → rf0 e = some d0' → ∃ o', H' a = some o' ∧ F' a = none ∧ RepO g F' d0' o' := fun {e σ H' F' d0'} S' z => by
    unfold rf0 at z
    split at z
    · rename_i d' z'
      cases z
      obtain ⟨b, o', e0, e1, e2, e3, e4⟩ := S'.rf 0 _ z'
      cases e0
      exact ⟨o', e2, e3, e4⟩
    · cases z
  unfold runRF at h
  cases z : m (.rf d0 :: startE N.length ds) with
  | rt d e =>
    rw [z] at h
    cases z2 : rf0 e with
    | none =>
      have h' : (match (match rf0 e with | some d0' => Rr.ok d d0' | none => .no) with
        | .ok d d0' => ∀ v H' F' o', Gr g (some a) F H F' H' → (∀ b, H b ≠ none → H' b ≠ none) → H' a = some o' → F' a = none → RepO g F' d0' o' → rlQ g true H F' H' d v → Q v H'
        | .no => False) := h
      rw [z2] at h'
      exact h'.elim
    | some d0' =>
      have h' : (match (match rf0 e with | some d0' => Rr.ok d d0' | none => .no) with
        | .ok d d0' => ∀ v H' F' o', Gr g (some a) F H F' H' → (∀ b, H b ≠ none → H' b ≠ none) → H' a = some o' → F' a = none → RepO g F' d0' o' → rlQ g true H F' H' d v → Q v H'
        | .no => False) := h
      rw [z2] at h'
      intro v σ H' F' S' s' rv
      obtain ⟨o', g1, g2, g3⟩ := fin S' z2
      exact h' v H' F' o' S'.gr S'.there g1 g2 g3 (rlR_q rv)
  | nx e =>
    rw [z] at h
    exact h.elim
  | er x e =>
    rw [z] at h
    exact h.elim
  | bk e =>
    rw [z] at h
    exact h.elim
  | ct e =>
    rw [z] at h
    exact h.elim
  | no =>
    rw [z] at h
    exact h.elim
end
/-- f(x, ..): x an own container that f changes -/
def ownV (e : En) (i : Nat) : Option D := match e[i]? with
  | some (.ow d) => some d
  | some (.rf d) => some d
  | _ => none
def setV (e : En) (i : Nat) (d : D) : En := match e[i]? with
  | some (.ow _) => e.set i (.ow d)
  | some (.rf _) => e.set i (.rf d)
  | _ => e
def mCallR (f : D → List D → Rr) (i : Nat) (ms : List (En → R D)) : En → R D := fun env => match val env i with
  | none => .no
  | some _ => (evS ms env).bind fun ds e => match ownV e i with
    | some d0 => (match f d0 ds with
      | .ok d d0' => .ok d (setV e i d0')
      | .no => .no)
    | none => .no
section
variable {c : Cn} {W : WX} {X : Cx} {env : En} {σ : L2.St} {H F : Hp}
theorem SR.own_at (S : SR c env σ H F) {i : Nat} {d : D} (h : ownV env i = some d) : ∃ a o, Own env σ i a ∧ H a = some o ∧ F a = none ∧ RepO c.toGc F d o ∧ (c.H0 a = none ∨ c.ra = some a) := by
  unfold ownV at h
  split at h
  · rename_i d' z
    cases h
    obtain ⟨a, o, h1, h2, h3, h4, h5⟩ := S.ow i _ z
    exact ⟨a, o, ⟨h1, _, .inl z⟩, h2, h3, h5, .inl h4⟩
  · rename_i d' z
    cases h
    obtain ⟨a, o, h0, h1, h2, h3, h5⟩ := S.rf i _ z
    exact ⟨a, o, ⟨h1, _, .inr z⟩, h2, h3, h5, .inr h0⟩
  · cases h
theorem own_setV {env : En} {σ : L2.St} {i j : Nat} {d0' : D} {b : Addr} (h : Own (setV env i d0') σ j b) : Own env σ j b := by
  obtain ⟨g1, d, g2⟩ := h
  refine ⟨g1, ?_⟩
  unfold setV at g2
  split at g2
  · rename_i d' z
    by_cases hj : j = i
    · subst hj
      exact ⟨d', .inl z⟩
    · rw [List.getElem?_set_ne (Ne.symm hj)] at g2
      exact ⟨d, g2⟩
  · rename_i d' z
    by_cases hj : j = i
    · subst hj
      exact ⟨d', .inr z⟩
    · rw [List.getElem?_set_ne (Ne.symm hj)] at g2
      exact ⟨d, g2⟩
  · exact ⟨d, g2⟩
/-- an own container has changed, all else has grown -/
theorem SR.chg (S : SR c env σ H F) {i : Nat} {a : Addr} {d0 d0' : D} {H' F' : Hp} {o' : HO} (h : ownV env i = some d0) (ow : Own env σ i a) (gr : Gr c.toGc (some a) F H F' H') (th : ∀ b, H b ≠ none → H' b ≠ none) (h1 : H' a = some o') (h2 : F' a = none) (h3 : RepO c.toGc F' d0' o') :
    SR c (setV env i d0') σ H' F' := by
  have hi : i < env.length := by
    unfold ownV at h
    by_cases hi : i < env.length
    · exact hi
    · rw [List.getElem?_eq_none (by omega)] at h
      cases h
  have oth : ∀ j, j ≠ i → (setV env i d0')[j]? = env[j]? := fun j hj => by
    unfold setV
    split
    · exact List.getElem?_set_ne (Ne.symm hj)
    · exact List.getElem?_set_ne (Ne.symm hj)
    · rfl
  have len : (setV env i d0').length = env.length := by
    unfold setV
    split <;> simp
  obtain ⟨b, u, ob, hb1, hb2, hb3, hb4⟩ := S.own_at h
  have eb : b = a := by
    have e1 := ob.1
    rw [ow.1] at e1
    cases e1
    rfl
  subst eb
  have keep : ∀ e o, c.H0 e = some o → (∀ ps, o ≠ .tbl ps) → some e ≠ c.ra → e ≠ b := fun e o he _ hr z => by
    subst z
    rcases hb4 with z | z
    · rw [z] at he
      cases he
    · exact hr z.symm
  have self : (∃ d, env[i]? = some (.ow d) ∧ (setV env i d0')[i]? = some (.ow d0')) ∨ (∃ d, env[i]? = some (.rf d) ∧ (setV env i d0')[i]? = some (.rf d0')) := by
    unfold ownV at h
    split at h
    · rename_i d' z
      refine .inl ⟨d', z, ?_⟩
      unfold setV
      rw [z]
      exact List.getElem?_set_self hi
    · rename_i d' z
      refine .inr ⟨d', z, ?_⟩
      unfold setV
      rw [z]
      exact List.getElem?_set_self hi
    · cases h
  have own : ∀ j e, Own (setV env i d0') σ j e → Own env σ j e := fun j e ⟨g1, d, g2⟩ => by
    by_cases hj : j = i
    · subst hj
      rcases self with ⟨d', s1, s2⟩ | ⟨d', s1, s2⟩
      · exact ⟨g1, d', .inl s1⟩
      · exact ⟨g1, d', .inr s1⟩
    · rw [oth j hj] at g2
      exact ⟨g1, d, g2⟩
  refine ⟨⟨gr.wf, S.gr.f.trans gr.f, fun e o he n r => gr.h e o (S.gr.h e o he n r) n (fun z => keep e o he n r (Option.some.inj z)), fun e he => (gr.new e (S.there e he)).trans (S.gr.new e he)⟩, fun e he => th e (S.there e he), S.rt, len.trans S.len,
    fun j d e => ?_, fun j d e => ?_, fun j d e => ?_, fun j k e g1 g2 => S.apart j k e (own j e g1) (own k e g2)⟩
  · by_cases hj : j = i
    · subst hj
      rcases self with ⟨d', s1, s2⟩ | ⟨d', s1, s2⟩ <;> (rw [s2] at e; cases e)
    · rw [oth j hj] at e
      obtain ⟨v, g1, g2⟩ := S.fz j d e
      exact ⟨v, g1, g2.mono gr.f⟩
  · by_cases hj : j = i
    · subst hj
      rcases self with ⟨d', s1, s2⟩ | ⟨d', s1, s2⟩
      · rw [s2] at e
        cases e
        obtain ⟨b', u', k1, k2, k3, k4, k5⟩ := S.ow j _ s1
        rw [ow.1] at k1
        cases k1
        exact ⟨b, o', ow.1, h1, h2, k4, h3⟩
      · rw [s2] at e
        cases e
    · rw [oth j hj] at e
      obtain ⟨b', u', k1, k2, k3, k4, k5⟩ := S.ow j d e
      have nb : b' ≠ b := fun z => by
        subst z
        exact hj (S.apart j i b' ⟨k1, d, .inl e⟩ ow)
      exact ⟨b', u', k1, gr.h b' u' k2 k5.ntbl (fun z => nb (Option.some.inj z)), (gr.new b' (by rw [k2]; simp)).trans k3, k4, k5.mono gr.f⟩
  · by_cases hj : j = i
    · subst hj
      rcases self with ⟨d', s1, s2⟩ | ⟨d', s1, s2⟩
      · rw [s2] at e
        cases e
      · rw [s2] at e
        cases e
        obtain ⟨b', u', k0, k1, k2, k3, k5⟩ := S.rf j _ s1
        rw [ow.1] at k1
        cases k1
        exact ⟨b, o', k0, ow.1, h1, h2, h3⟩
    · rw [oth j hj] at e
      obtain ⟨b', u', k0, k1, k2, k3, k5⟩ := S.rf j d e
      have nb : b' ≠ b := fun z => by
        subst z
        exact hj (S.apart j i b' ⟨k1, d, .inr e⟩ ow)
      exact ⟨b', u', k0, k1, gr.h b' u' k2 k5.ntbl (fun z => nb (Option.some.inj z)), (gr.new b' (by rw [k2]; simp)).trans k3, k5.mono gr.f⟩
variable {k n : Nat} {f : Addr} {fd : FuncData} {ps : List Str} {fn : D → List D → Rr} {x : Str} {p pos : Pos} {e : Expr} {es : List Expr} {ms : List (En → R D)}
theorem callR_ok {i : Nat} {Q : VK} (hn : ms.length = n) (q : tE c W (mCallR fn i ms) σ H Q) : tCons (tVar i) (tMs c W ms) σ H fun vs H1 => spR c.toGc false n fn vs H1 Q (WE W σ) := by
  obtain ⟨env, F, S, q⟩ := q
  unfold mCallR at q
  split at q
  · exact q.elim
  · rename_i d hv
    obtain ⟨v, g1, _⟩ := S.val hv
    refine ⟨v, g1, ?_⟩
    refine tMsA ms S q fun ds e vs H1 F1 S1 s1 r1 hl h1 => ?_
    split at h1
    · rename_i d0 z
      obtain ⟨a, o, ow, k1, k2, k3, k4⟩ := S1.own_at z
      have ev : v = .ref a := by
        have e1 := ow.1
        rw [g1] at e1
        cases e1
        rfl
      subst ev
      refine ⟨by simp [r1.length_eq, hl, hn], F1, a, d0, o, ds, vs, rfl, S1.wf, k1, k2, k3, r1, ?_⟩
      cases z2 : fn d0 ds with
      | ok d d0' =>
        rw [z2] at h1
        intro v H' F' o' gr th l1 l2 l3 rv
        exact h1 v H' F' (S1.chg z ow gr th l1 l2 l3) gr.f (rlQ_rep rv)
      | no =>
        rw [z2] at h1
        exact h1
    · exact h1.elim
theorem callRF_ok {i : Nat} {Q : VK} (hn : ms.length = n) (q : tF c W (mCallR fn i ms) σ H Q) : tCons (tVar i) (tMs c W ms) σ H fun vs H1 => spR c.toGc true n fn vs H1 Q (WE W σ) := by
  obtain ⟨env, F, S, q⟩ := q
  unfold mCallR at q
  split at q
  · exact q.elim
  · rename_i d hv
    obtain ⟨v, g1, _⟩ := S.val hv
    refine ⟨v, g1, ?_⟩
    refine tMsA ms S q fun ds e vs H1 F1 S1 s1 r1 hl h1 => ?_
    split at h1
    · rename_i d0 z
      obtain ⟨a, o, ow, k1, k2, k3, k4⟩ := S1.own_at z
      have ev : v = .ref a := by
        have e1 := ow.1
        rw [g1] at e1
        cases e1
        rfl
      subst ev
      refine ⟨by simp [r1.length_eq, hl, hn], F1, a, d0, o, ds, vs, rfl, S1.wf, k1, k2, k3, r1, ?_⟩
      cases z2 : fn d0 ds with
      | ok d d0' =>
        rw [z2] at h1
        intro v H' F' o' gr th l1 l2 l3 rv
        obtain ⟨b, u, ev, a1, a2, a3, a4⟩ := rlQ_fr rv
        have S2 := S1.chg z ow gr th l1 l2 l3
        refine h1 v H' F' S2 gr.f ⟨b, u, ev, a1, a2, S1.h0 a3, fun z => S1.rtH b z a3, fun j h => ?_, a4⟩
        have hb : H1 b ≠ none := by
          have h2 : Own e σ j b := own_setV h
          exact (S1.own_there h2).1
        exact hb a3
      | no =>
        rw [z2] at h1
        exact h1
    · exact h1.elim
theorem re_callR {i : Nat} (Fo : FnG X.prog X.w X.K X.mg X.base (L2.CX X.prog X.w) k f fd ps (spR c.toGc false n fn)) (hr : RmG k X.A) (hg : Gl X x) (hm : X.mg x = some (.ref f)) (hk : PySem.W.keepIn X.K (.ref f) = true) (hb : Binds X.K fd ps []) (tk : Takes X W)
    (h0 : PE X e (tVar i)) (ha : PA X es (tMs c W ms)) (hn : ms.length = n := by rfl) (hdb : (x == ("__debug__" : Str)) = false := by decide) (he : starEach (e :: es) X.env = (false, eval e X.env) :: starEach es X.env := by rfl) (hpl : (backTo pos (starEach es X.env)).any (·.1) = false := by rfl) :
    PE X (.Call (.Name x p) (e :: es) [] pos) (tE c W (mCallR fn i ms)) :=
  (pe_callG (E := WE W) Fo hr hg hm hk hb (fun σ => passAt tk σ) (pa_cons h0 ha he) hdb he hpl).imp fun σ H Q q => callR_ok hn q
theorem re_callRF {i : Nat} (Fo : FnG X.prog X.w X.K X.mg X.base (L2.CX X.prog X.w) k f fd ps (spR c.toGc true n fn)) (hr : RmG k X.A) (hg : Gl X x) (hm : X.mg x = some (.ref f)) (hk : PySem.W.keepIn X.K (.ref f) = true) (hb : Binds X.K fd ps []) (tk : Takes X W)
    (h0 : PE X e (tVar i)) (ha : PA X es (tMs c W ms)) (hn : ms.length = n := by rfl) (hdb : (x == ("__debug__" : Str)) = false := by decide) (he : starEach (e :: es) X.env = (false, eval e X.env) :: starEach es X.env := by rfl) (hpl : (backTo pos (starEach es X.env)).any (·.1) = false := by rfl) :
    PE X (.Call (.Name x p) (e :: es) [] pos) (tF c W (mCallR fn i ms)) :=
  (pe_callG (E := WE W) Fo hr hg hm hk hb (fun σ => passAt tk σ) (pa_cons h0 ha he) hdb he hpl).imp fun σ H Q q => callRF_ok hn q
end
end PV

namespace PV
open PySem PySem.Spec PyProof.Rows L2
section
variable {c : Cn} {W : WX} {X : Cx} {env : En} {σ : L2.St} {H F : Hp}
/-- an own container is written -/
theorem SR.wr (S : SR c env σ H F) {i : Nat} {a : Addr} {o o' : HO} {d0 d0' : D} (h : ownV env i = some d0) (ow : Own env σ i a) (ho : H a = some o) (hF : F a = none) (r : RepO c.toGc F d0 o) (r' : RepO c.toGc F d0' o') : SR c (setV env i d0') σ (upd H a o') F := by
  refine S.chg h ow ⟨⟨fun b u e => ?_, fun b u e t => ?_, S.wf.nt, Tabs_put S.wf.tab ho r.ntbl r.next⟩, Same.refl _, fun b u e _ hb => ?_, fun _ _ => rfl⟩ upd_there upd_same hF r'
  · rw [upd_ne fun z => by rw [z, hF] at e; cases e]
    exact S.wf.sub _ _ e
  · by_cases hb : b = a
    · subst hb
      rw [upd_same] at e
      rw [← Option.some.inj e, r'.ntup] at t
      cases t
    · rw [upd_ne hb] at e
      exact S.wf.tup _ _ e t
  · rw [upd_ne fun z => hb (by rw [z])]
    exact e
def isLst : Option D → Bool
  | some (.lst _) => true
  | _ => false
theorem SR.tyL (S : SR c env σ H F) {i : Nat} (hK : c.K = X.K) (h : isLst (PV.val env i) = true) : ∃ v, σ[i]? = some (some v) ∧ tyV X.K "list" v H := by
  cases q : PV.val env i with
  | none =>
    rw [q] at h
    cases h
  | some d =>
    rw [q] at h
    cases d with
    | lst xs =>
      obtain ⟨v, h1, h2⟩ := S.val q
      obtain ⟨a, vs, rfl, h3, h4⟩ := h2.lst_ S.wf
      exact ⟨_, h1, .inl ⟨rfl, vs, SqL.of h3⟩⟩
    | _ => cases h
/-! ### methods of an own list -/
/-- m: the argument; k: what becomes of the list and the argument -/
def mOwn (i : Nat) (m : En → R D) (k : List D → D → Option (D × List D)) : En → R D := fun env => if isLst (val env i) = true then (m env).bind fun d e => match ownV e i with
  | some (.lst xs) => (match k xs d with
    | some (v, ys) => .ok v (setV e i (.lst ys))
    | none => .no)
  | _ => .no else .no
def kAppend (xs : List D) (d : D) : Option (D × List D) := if xs.length < lim then some (.non, xs ++ [d]) else none
def kPopAt (xs : List D) (d : D) : Option (D × List D) := match d with
  | .int i => if lim < xs.length then none else (ixN xs.length i).bind fun j => (xs[j]?).map fun v => (v, xs.eraseIdx j)
  | _ => none
def kExtend (xs : List D) (d : D) : Option (D × List D) := match d with
  | .lst ys => if xs.length + ys.length ≤ lim then some (.non, xs ++ ys) else none
  | _ => none
theorem own_ok {i : Nat} {m : En → R D} {k : List D → D → Option (D × List D)} {r : V → List V → Hp → VK → Prop} (hK : c.K = X.K)
    (hr : ∀ {F H : Hp} {a : Addr} {xs ys : List D} {vs : List V} {d v : D} {y : V} {Q : VK}, WF c.toGc F H → H a = some (.lst vs) → F a = none → Reps c.toGc F xs vs → Rep c.toGc F d y → k xs d = some (v, ys) →
      (∀ u ws, Rep c.toGc F v u → Reps c.toGc F ys ws → Q u (upd H a (.lst ws))) → r (.ref a) [y] H Q)
    {Q : VK} (q : tE c W (mOwn i m k) σ H Q) : tBM X.K "list" r (tVar i) (tMs c W [m]) σ H Q := by
  obtain ⟨env, F, S, q⟩ := q
  unfold mOwn at q
  split at q
  · rename_i hl
    obtain ⟨v, g1, g2⟩ := S.tyL hK hl
    refine ⟨v, g1, g2, ?_⟩
    refine tM_bind S q fun d e y H1 F1 S1 s1 r1 h1 => ?_
    split at h1
    · rename_i xs z
      obtain ⟨a, o, ow, k1, k2, k3, k4⟩ := S1.own_at z
      have ev : v = .ref a := by
        have e1 := ow.1
        rw [g1] at e1
        cases e1
        rfl
      subst ev
      have k3' := k3
      cases k3 with
      | lst rx =>
        split at h1
        · rename_i v' ys hk
          exact hr S1.wf k1 k2 rx r1 hk fun u ws ru rw' => h1 u _ F1 (S1.wr z ow k1 k2 k3' (.lst rw')) (Same.refl _) ru
        · exact h1.elim
    · exact h1.elim
  · exact q.elim
variable {x : Str} {p apos pos : Pos} {a e : Expr} {i : Nat} {m : En → R D}
theorem re_append (hK : c.K = X.K) (ho : PE X a (tVar i)) (he : PE X e (tE c W m)) (hbase : attributeBase a "append" X.env (eval a X.env) = eval a X.env := by rfl)
    (hfew : ((backTo pos (starEach [e] X.env)).all (fun x => !x.1) && (backToKw pos (keywordEach [] X.env)).all (fun x => x.1.isSome) && decide ([e].length + ([] : List Keyword).length + (if ([] : List Keyword).isEmpty then 0 else 1) < 30)) = true := by rfl)
    (hline : (apos.endLine == pos.line) = true := by rfl) (hs : starEach [e] X.env = (false, eval e X.env) :: starEach [] X.env := by rfl) (hplain : (backTo pos (starEach [] X.env)).any (·.1) = false := by rfl) :
    PE X (.Call (.Attribute a "append" apos) [e] [] pos) (tE c W (mOwn i m kAppend)) :=
  (pe_bm PySem.F.plainAttrs_list PySem.F.slot_list_append PySem.F.type_list_append mt_append ho (pa_cons he pa_nil hs) hbase hfew hline hs hplain).imp fun σ H Q q => own_ok (r := rAppend) hK (fun w h1 h2 r1 r2 hk kk => by
    unfold kAppend at hk
    split at hk
    · rename_i hz
      cases hk
      exact ⟨_, _, _, rfl, rfl, h1, lim_lt (by rw [← r1.length]; exact hz), kk _ _ .non (r1.append (.cons r2 .nil))⟩
    · cases hk) q
theorem Reps.erase {g : Gc} {F : Hp} : ∀ {ds : List D} {vs : List V} (j : Nat), Reps g F ds vs → Reps g F (ds.eraseIdx j) (vs.eraseIdx j)
  | _, _, _, .nil => .nil
  | _, _, 0, .cons _ t => t
  | _, _, j + 1, .cons h t => .cons h (Reps.erase j t)
theorem re_popAt (hK : c.K = X.K) (ho : PE X a (tVar i)) (he : PE X e (tE c W m)) (hbase : attributeBase a "pop" X.env (eval a X.env) = eval a X.env := by rfl)
    (hfew : ((backTo pos (starEach [e] X.env)).all (fun x => !x.1) && (backToKw pos (keywordEach [] X.env)).all (fun x => x.1.isSome) && decide ([e].length + ([] : List Keyword).length + (if ([] : List Keyword).isEmpty then 0 else 1) < 30)) = true := by rfl)
    (hline : (apos.endLine == pos.line) = true := by rfl) (hs : starEach [e] X.env = (false, eval e X.env) :: starEach [] X.env := by rfl) (hplain : (backTo pos (starEach [] X.env)).any (·.1) = false := by rfl) :
    PE X (.Call (.Attribute a "pop" apos) [e] [] pos) (tE c W (mOwn i m kPopAt)) :=
  (pe_bm PySem.F.plainAttrs_list PySem.F.slot_list_pop PySem.F.type_list_pop mt_popAt ho (pa_cons he pa_nil hs) hbase hfew hline hs hplain).imp fun σ H Q q => own_ok (r := rPopAt) hK (fun {F H a xs ys vs d v y Q} w h1 h2 r1 r2 hk kk => by
    unfold kPopAt at hk
    cases r2 with
    | int =>
      rename_i n
      have hk0 : (if lim < xs.length then none else (ixN xs.length n).bind (fun j => (xs[j]?).map fun v => (v, xs.eraseIdx j))) = some (v, ys) := hk
      split at hk0
      · cases hk0
      · rename_i hz
        have hk' : (ixN xs.length n).bind (fun j => (xs[j]?).map fun v => (v, xs.eraseIdx j)) = some (v, ys) := hk0
        cases q1 : ixN xs.length n with
        | none =>
          rw [q1] at hk'
          cases hk'
        | some j =>
          rw [q1] at hk'
          have hk2 : (xs[j]?).map (fun v => (v, xs.eraseIdx j)) = some (v, ys) := hk'
          cases q2 : xs[j]? with
          | none =>
            rw [q2] at hk2
            cases hk2
          | some u =>
            rw [q2] at hk2
            cases hk2
            obtain ⟨b1, b2, b3, b4⟩ := ixN_seq q1
            obtain ⟨w', c1, c2⟩ := r1.get q2
            have hl : xs.length ≤ 1000000 := Nat.le_of_not_lt hz
            exact ⟨a, vs, n, j, w', rfl, rfl, h1, by omega, by omega, by rw [← r1.length]; exact b1, c1, kk _ _ c2 (r1.erase j)⟩
    | _ => cases hk) q
theorem re_extend (hK : c.K = X.K) (ho : PE X a (tVar i)) (he : PE X e (tE c W m)) (hbase : attributeBase a "extend" X.env (eval a X.env) = eval a X.env := by rfl)
    (hfew : ((backTo pos (starEach [e] X.env)).all (fun x => !x.1) && (backToKw pos (keywordEach [] X.env)).all (fun x => x.1.isSome) && decide ([e].length + ([] : List Keyword).length + (if ([] : List Keyword).isEmpty then 0 else 1) < 30)) = true := by rfl)
    (hline : (apos.endLine == pos.line) = true := by rfl) (hs : starEach [e] X.env = (false, eval e X.env) :: starEach [] X.env := by rfl) (hplain : (backTo pos (starEach [] X.env)).any (·.1) = false := by rfl) :
    PE X (.Call (.Attribute a "extend" apos) [e] [] pos) (tE c W (mOwn i m kExtend)) :=
  (pe_bm PySem.F.plainAttrs_list PySem.F.slot_list_extend PySem.F.type_list_extend mt_extend ho (pa_cons he pa_nil hs) hbase hfew hline hs hplain).imp fun σ H Q q => own_ok (r := rExtend) hK (fun {F H a xs ys vs d v y Q} w h1 h2 r1 r2 hk kk => by
    unfold kExtend at hk
    cases r2 with
    | @lst b zs ws h3 r3 =>
      have hk' : (if xs.length + zs.length ≤ lim then some (D.non, xs ++ zs) else none) = some (v, ys) := hk
      split at hk'
      · rename_i hz
        cases hk'
        exact ⟨_, _, _, _, rfl, rfl, h1, w.sub _ _ h3, lim_line (by rw [← r1.length, ← r3.length]; exact hz), kk _ _ .non (r1.append r3)⟩
      · cases hk'
    | _ => cases hk) q
/-! ### x[k] = e, x an own list -/
def kSetIx (xs : List D) (k d : D) : Option (List D) := match k with
  | .int i => (ixN xs.length i).map fun j => xs.set j d
  | _ => none
def sSetIx (i : Nat) (mk me : En → R D) : En → Rs := fun env => (me env).bs fun d e => match val e i with
  | none => .no
  | some _ => (mk e).bs fun k e' => match ownV e' i with
    | some (.lst xs) => (match kSetIx xs k d with
      | some ys => .nx (setV e' i (.lst ys))
      | none => .no)
    | _ => .no
theorem Reps.set {g : Gc} {F : Hp} {d : D} {v : V} (r : Rep g F d v) : ∀ {ds : List D} {vs : List V} (j : Nat), Reps g F ds vs → Reps g F (ds.set j d) (vs.set j v)
  | _, _, _, .nil => .nil
  | _, _, 0, .cons _ t => .cons r t
  | _, _, j + 1, .cons h t => .cons h (Reps.set r j t)
theorem setIx_ok {Z : Ends} {mk me : En → R D} (q : tS c W (sSetIx i mk me) Z σ H) : tAsg (tE c W me) (gSub (tVar i) (tE c W mk) rSetL) Z σ H := by
  obtain ⟨env, F, S, q⟩ := q
  refine tM_bs S q fun d e v H1 F1 S1 s1 r1 h1 => ?_
  split at h1
  · exact h1.elim
  · rename_i d' hv
    obtain ⟨u, g1, _⟩ := S1.val hv
    refine ⟨u, g1, ?_⟩
    refine tM_bs S1 h1 fun k e2 y H2 F2 S2 s2 r2 h2 => ?_
    split at h2
    · rename_i xs z
      obtain ⟨a, o, ow, k1, k2, k3, k4⟩ := S2.own_at z
      have ev : u = .ref a := by
        have e1 := ow.1
        rw [g1] at e1
        cases e1
        rfl
      subst ev
      have k3' := k3
      cases k3 with
      | @lst _ vs rx =>
        split at h2
        · rename_i ys hk
          unfold kSetIx at hk
          cases r2 with
          | @int n =>
            have hk' : (ixN xs.length n).map (fun j => xs.set j d) = some ys := hk
            cases q1 : ixN xs.length n with
            | none =>
              rw [q1] at hk'
              cases hk'
            | some j =>
              rw [q1] at hk'
              cases hk'
              exact ⟨a, vs, n, j, rfl, rfl, k1, by rw [← rx.length]; exact q1, h2 σ _ F2 (S2.wr z ow k1 k2 k3' (.lst (rx.set (r1.mono s2) j))) (Same.refl _)⟩
          | _ => cases hk
        · exact h2.elim
    · exact h2.elim
theorem rs_setIx {idx : Expr} {mk me : En → R D} {pos' : Pos} (ho : PE X a (tVar i)) (hi : PE X idx (tE c W mk)) (he : PE X e (tE c W me))
    (ha : ∀ v, assign (.Subscript a idx pos') X.env v = (do
      let ov ← holding [v] (eval a X.env)
      let iv ← holding [v, ov] (eval idx X.env)
      standAt pos'
      holding [v, ov, iv] (setItem ov iv v)
      release [v, ov, iv] []) := by intro _; rfl)
    (hs : swapsWithSole [.Subscript a idx pos'] e pos.line X.env = pure false := by rfl) (hw : swappedStores [.Subscript a idx pos'] e X.env = pure none := by rfl)
    (h1 : (assignEach [.Subscript a idx pos'] X.env).map (·.2) = [assign (.Subscript a idx pos') X.env] := by rfl) : PS X (.Assign [.Subscript a idx pos'] e pos) (tS c W (sSetIx i mk me)) :=
  (ps_asg he (pg_sub ho hi set_list ha) hs hw h1).imp fun Z σ H q => setIx_ok q
/-! ### x op= e, ints -/
def sAug (i : Nat) (f : List D → Option D) (m : En → R D) : En → Rs := fun env => match env[i]? with
  | some (.fz x) => (m env).bs fun d e => match f [x, d] with
    | some y => if free e i = true then .nx (e.set i (.fz y)) else .no
    | none => .no
  | _ => .no
theorem rs_aug {op : Operator} {r : R2} {f : List D → Option D} {pos' : Pos} (hN : X.N.Nodup) (hi : X.N[i]? = some x) (hx : Loc X.env.scope x) (ho : OpR X (inplaceOp op) r) (hf' : OpA c.toGc (r2 r) f) (he : PE X e (tE c W m)) (hf : X.fn x = true ∨ X.env.scope.names.lookup x = some .local := by first | exact .inl rfl | exact .inr rfl) :
    PS X (.AugAssign (.Name x pos') op e pos) (tS c W (sAug i f m)) := (ps_aug hN hi hx he ho hf).imp fun Z σ H ⟨env, F, S, q⟩ => by
  unfold sAug at q
  split at q
  · rename_i d0 z
    obtain ⟨v, h1, h2⟩ := S.fz i d0 z
    refine ⟨v, h1, ?_⟩
    refine tM_bs S q fun d e y H1 F1 S1 s1 r1 h3 => ?_
    split at h3
    · rename_i y' hy
      split at h3
      · rename_i hfr
        exact hf' [d0, d] [v, y] y' F1 H1 _ S1.wf (.cons (.st (h2.mono s1)) (.cons (.st r1) .nil)) hy fun u H2 F2 g2 ru => h3 _ H2 F2 ((S1.go g2).set hfr ru) g2.gr.f
      · exact h3.elim
    · exact h3.elim
  · exact q.elim
/-! ### several targets -/
def sAsg (T : Tg) (m : En → R D) : En → Rs := fun env => (m env).bs fun d e => match bindT T d e with
  | some e' => .nx e'
  | none => .no
theorem rs_asg {tg : Expr} {T : Tg} (he : PE X e (tE c W m)) (hg : PG X tg (tG c T)) (hs : swapsWithSole [tg] e pos.line X.env = pure false := by rfl) (hw : swappedStores [tg] e X.env = pure none := by rfl)
    (h1 : (assignEach [tg] X.env).map (·.2) = [assign tg X.env] := by rfl) : PS X (.Assign [tg] e pos) (tS c W (sAsg T m)) := (ps_asg he hg hs hw h1).imp fun Z σ H ⟨env, F, S, q⟩ => by
  refine tM_bs S q fun d e v H1 F1 S1 s1 r1 h1 => ?_
  refine ⟨e, F1, d, S1, r1, ?_⟩
  cases z : bindT T d e with
  | none =>
    rw [z] at h1
    exact h1
  | some e2 =>
    rw [z] at h1
    exact fun σ' H' F' S' s' _ => h1 σ' H' F' S' s'
/-- what is stored: kept, or new -/
inductive Oe where
  | st (m : En → R D) | fr (m : En → R D)
def Oe.ev : Oe → En → R D
  | .st m => m
  | .fr m => m
def Oe.t (c : Cn) (W : WX) : Oe → TE
  | .st m => tE c W m
  | .fr m => tF c W m
def Oe.sl : Oe → D → Sl
  | .st _, d => .fz d
  | .fr _, d => .ow d
/-- a, b = e1, e2 -/
def sPar (i j : Nat) (o1 o2 : Oe) : En → Rs := fun env => (o1.ev env).bs fun d1 e1 => (o2.ev e1).bs fun d2 e2 => if free e2 i = true ∧ free e2 j = true ∧ i ≠ j then .nx ((e2.set i (o1.sl d1)).set j (o2.sl d2)) else .no
theorem own_set {e : En} {i k : Nat} {s : Sl} {v : V} {a : Addr} (hi : i < e.length) (hs : i < σ.length) (h : Own (e.set i s) (σ.set i (some v)) k a) : (k = i ∧ v = .ref a ∧ ∃ d, s = .ow d ∨ s = .rf d) ∨ (k ≠ i ∧ Own e σ k a) := by
  obtain ⟨h1, d, h2⟩ := h
  by_cases hk : k = i
  · subst hk
    rw [List.getElem?_set_self hs] at h1
    rw [List.getElem?_set_self hi] at h2
    have e1 := Option.some.inj (Option.some.inj h1)
    refine .inl ⟨rfl, e1, d, ?_⟩
    rcases h2 with h2 | h2
    · exact .inl (Option.some.inj h2)
    · exact .inr (Option.some.inj h2)
  · rw [List.getElem?_set_ne (Ne.symm hk)] at h1 h2
    exact .inr ⟨hk, h1, d, h2⟩
theorem free_lt {e : En} {i : Nat} (hf : free e i = true) : i < e.length := by
  unfold free at hf
  by_cases h : i < e.length
  · exact h
  · rw [List.getElem?_eq_none (by omega)] at hf
    cases hf
theorem free_set {e : En} {i j : Nat} {s : Sl} (hij : i ≠ j) (h : free e j = true) : free (e.set i s) j = true := by
  unfold free at h ⊢
  rw [List.getElem?_set_ne hij]
  exact h
theorem rlF_set (S : SR c env σ H F) {i : Nat} {d : D} {v w : V} {s : Sl} (hi : i < env.length) (r : rlF c env σ F H d v) (ns : ∀ a, v = .ref a → w = .ref a → (∃ d, s = .ow d ∨ s = .rf d) → False) : rlF c (env.set i s) (σ.set i (some w)) F H d v := by
  obtain ⟨a, o, ev, h1, h2, h3, hr, h4, h5⟩ := r
  refine ⟨a, o, ev, h1, h2, h3, hr, fun k hk => ?_, h5⟩
  rcases own_set hi (S.len ▸ hi) hk with ⟨_, e2, e3⟩ | ⟨_, e2⟩
  · exact ns a ev e2 e3
  · exact h4 k e2
def Oe.tk (c : Cn) (W : WX) (o : Oe) : TE := fun σ H Q => ∃ H0, o.t (c.kp H0) W σ H Q
theorem par_ok {Z : Ends} {i j : Nat} {o1 o2 : Oe} (q : tS c W (sPar i j o1 o2) Z σ H) : tPar i j (tCons (o1.t c W) (tCons (o2.tk c W) tNil)) Z σ H := by
  obtain ⟨env, F, S, q⟩ := q
  unfold sPar at q
  cases o1 with
  | st m1 =>
    refine tM_bs S q fun d1 e1 v1 H1 F1 S1 s1 r1 h1 => ?_
    cases o2 with
    | st m2 =>
      refine ⟨c.H0, tM_bs S1 h1 fun d2 e2 v2 H2 F2 S2 s2 r2 h2 => ?_⟩
      split at h2
      · rename_i hf
        obtain ⟨f1, f2, f3⟩ := hf
        exact ⟨v1, v2, rfl, h2 _ H2 F2 ((S2.set f1 (r1.mono s2)).set (free_set f3 f2) r2) (Same.refl _)⟩
      · exact h2.elim
    | fr m2 =>
      refine ⟨c.H0, tM_bs S1 h1 fun d2 e2 v2 H2 F2 S2 s2 r2 h2 => ?_⟩
      split at h2
      · rename_i hf
        obtain ⟨f1, f2, f3⟩ := hf
        exact ⟨v1, v2, rfl, h2 _ H2 F2 ((S2.set f1 (r1.mono s2)).setO (free_set f3 f2) (rlF_set S2 (free_lt f1) r2 fun a _ _ ⟨d, z⟩ => by rcases z with z | z <;> cases z)) (Same.refl _)⟩
      · exact h2.elim
  | fr m1 =>
    refine tM_bs S q fun d1 e1 v1 H1 F1 S1 s1 r1 h1 => ?_
    obtain ⟨a1, u1, ev, b1, b2, b3, hr1, b4, b5⟩ := r1
    subst ev
    have f01 : c.F0 a1 = none := S1.gr.f.free b2
    have K1 := S1.keep b1 b2 b3 b4
    have back : ∀ {e : En} {H2 F2 : Hp}, SR (c.kp (upd c.H0 a1 u1)) e σ H2 F2 → Same F1 F2 → SR c e σ H2 F2 ∧ rlF c e σ F2 H2 d1 (.ref a1) := fun {e H2 F2} S2 s2 => by
      obtain ⟨k1, k2, k3⟩ := S2.kept b5.ntbl hr1 f01
      exact ⟨S2.unkeep b3 hr1, a1, u1, rfl, k1, k2, b3, hr1, k3, b5.mono s2⟩
    cases o2 with
    | st m2 =>
      refine ⟨upd c.H0 a1 u1, e1, F1, K1, ?_⟩
      cases z : m2 e1 with
      | ok d2 e2 =>
        have h1' : OkS c W F1 Z ((m2 e1).bs fun d2 e2 => if free e2 i = true ∧ free e2 j = true ∧ i ≠ j then .nx ((e2.set i (.ow d1)).set j (.fz d2)) else .no) := h1
        rw [z] at h1'
        have h2 : OkS c W F1 Z (if free e2 i = true ∧ free e2 j = true ∧ i ≠ j then .nx ((e2.set i (.ow d1)).set j (.fz d2)) else .no) := h1'
        intro v2 H2 F2 S2 s2 r2
        obtain ⟨S3, rl⟩ := back S2 s2
        split at h2
        · rename_i hf
          obtain ⟨f1, f2, f3⟩ := hf
          exact ⟨.ref a1, v2, rfl, h2 _ H2 F2 ((S3.setO f1 rl).set (free_set f3 f2) r2) s2⟩
        · exact h2.elim
      | er x e2 =>
        have h1' : OkS c W F1 Z ((m2 e1).bs fun d2 e2 => if free e2 i = true ∧ free e2 j = true ∧ i ≠ j then .nx ((e2.set i (.ow d1)).set j (.fz d2)) else .no) := h1
        rw [z] at h1'
        intro cls dx H2 F2 S2 s2 rx
        exact h1' cls dx σ H2 F2 (back S2 s2).1 s2 rx
      | no =>
        have h1' : OkS c W F1 Z ((m2 e1).bs fun d2 e2 => if free e2 i = true ∧ free e2 j = true ∧ i ≠ j then .nx ((e2.set i (.ow d1)).set j (.fz d2)) else .no) := h1
        rw [z] at h1'
        exact h1'.elim
    | fr m2 =>
      refine ⟨upd c.H0 a1 u1, e1, F1, K1, ?_⟩
      cases z : m2 e1 with
      | ok d2 e2 =>
        have h1' : OkS c W F1 Z ((m2 e1).bs fun d2 e2 => if free e2 i = true ∧ free e2 j = true ∧ i ≠ j then .nx ((e2.set i (.ow d1)).set j (.ow d2)) else .no) := h1
        rw [z] at h1'
        have h2 : OkS c W F1 Z (if free e2 i = true ∧ free e2 j = true ∧ i ≠ j then .nx ((e2.set i (.ow d1)).set j (.ow d2)) else .no) := h1'
        intro v2 H2 F2 S2 s2 r2
        obtain ⟨S3, rl⟩ := back S2 s2
        obtain ⟨a2, u2, ev2, q1, q2, q3, q4, q5, q6⟩ := r2
        have n21 : a2 ≠ a1 := fun z => by
          subst z
          have q3' : upd c.H0 a2 u1 a2 = none := q3
          rw [upd_same] at q3'
          cases q3'
        have q3' : c.H0 a2 = none := by
          have q3' : upd c.H0 a1 u1 a2 = none := q3
          rw [upd_ne n21] at q3'
          exact q3'
        split at h2
        · rename_i hf
          obtain ⟨f1, f2, f3⟩ := hf
          refine ⟨.ref a1, v2, rfl, h2 _ H2 F2 ((S3.setO f1 rl).setO (free_set f3 f2) (rlF_set S3 (free_lt f1) ⟨a2, u2, ev2, q1, q2, q3', q4, q5, q6⟩ fun a e1 e2 _ => ?_)) s2⟩
          rw [ev2] at e1
          cases e1
          cases e2
          exact n21 rfl
        · exact h2.elim
      | er x e2 =>
        have h1' : OkS c W F1 Z ((m2 e1).bs fun d2 e2 => if free e2 i = true ∧ free e2 j = true ∧ i ≠ j then .nx ((e2.set i (.ow d1)).set j (.ow d2)) else .no) := h1
        rw [z] at h1'
        intro cls dx H2 F2 S2 s2 rx
        exact h1' cls dx σ H2 F2 (back S2 s2).1 s2 rx
      | no =>
        have h1' : OkS c W F1 Z ((m2 e1).bs fun d2 e2 => if free e2 i = true ∧ free e2 j = true ∧ i ≠ j then .nx ((e2.set i (.ow d1)).set j (.ow d2)) else .no) := h1
        rw [z] at h1'
        exact h1'.elim
theorem PEk {b : Expr} {o : Oe} (h : ∀ H0, PE X b (o.t (c.kp H0) W)) : PE X b (o.tk c W) := ⟨fun pins s σ H Q I ⟨H0, q⟩ => (h H0).run pins s σ H Q I q⟩
theorem rs_par {i j : Nat} {x y : Str} {a b : Expr} {o1 o2 : Oe} {px py pt : Pos} {kt k2 pt2} (hc : X.calm = true) (hN : X.N.Nodup) (hi : X.N[i]? = some x) (hj : X.N[j]? = some y) (hij : i ≠ j)
    (hx : X.env.scope.names.lookup x = some .local) (hy : X.env.scope.names.lookup y = some .local) (ha : PE X a (o1.t c W)) (hb : ∀ H0, PE X b (o2.t (c.kp H0) W)) (hs1 : starEach [a, b] X.env = (false, eval a X.env) :: starEach [b] X.env := by rfl) (hs2 : starEach [b] X.env = (false, eval b X.env) :: starEach [] X.env := by rfl)
    (hw : swappedStores [.Tuple [.Name x px, .Name y py] kt pt] (.Tuple [a, b] k2 pt2) X.env = pure (some [x, y]) := by rfl)
    (hs : swapsWithSole [.Tuple [.Name x px, .Name y py] kt pt] (.Tuple [a, b] k2 pt2) pos.line X.env = pure false := by rfl) :
    PS X (.Assign [.Tuple [.Name x px, .Name y py] kt pt] (.Tuple [a, b] k2 pt2) pos) (tS c W (sPar i j o1 o2)) :=
  (ps_par hc hN hi hj hij hx hy (pa_cons ha (pa_cons (PEk hb) pa_nil hs2) hs1) hw hs).imp fun Z σ H q => par_ok q
/-! ### what is never reached -/
def sNo : En → Rs := fun _ => .no
theorem rs_no {st : Stmt} : PS X st (tS c W sNo) := ps_never.imp fun Z σ H ⟨_, _, _, q⟩ => q
/-! ### slices -/
def cutD (xs : List D) (lo hi : Option Int) : List D := (xs.drop (HT.sIx xs.length 0 lo)).take (HT.sIx xs.length xs.length hi - HT.sIx xs.length 0 lo)
theorem Reps.cut {g : Gc} {F : Hp} {ds : List D} {vs : List V} (lo hi : Option Int) (r : Reps g F ds vs) : Reps g F (cutD ds lo hi) (cutV vs lo hi) := by
  unfold cutD cutV
  rw [r.length]
  exact r.slice _ _
theorem cut_all {α : Type} {xs : List α} {lo hi : Option Int} (h : HT.sIx xs.length 0 lo = 0 ∧ HT.sIx xs.length xs.length hi = xs.length) : (xs.drop (HT.sIx xs.length 0 lo)).take (HT.sIx xs.length xs.length hi - HT.sIx xs.length 0 lo) = xs := by
  rw [h.1, h.2, List.drop_zero, Nat.sub_zero]
  exact List.take_of_length_le (Nat.le_refl _)
/-- by values: the base, the ends -/
def oSl (lo hi : Option Int) : D → Option D
  | .tup xs => some (.tup (cutD xs lo hi))
  | .lst xs => some (.lst (cutD xs lo hi))
  | _ => none
def oSlF (lo hi : Option Int) : D → Option D
  | .lst xs => some (.lst (cutD xs lo hi))
  | _ => none
def rSlX (K : PySem.W.Frag) : V → Option Int → Option Int → Hp → VK → Prop := fun x lo hi H Q => rSlA K x lo hi H Q ∨ rSlL K x lo hi H Q
theorem sl_x : SlR X (rSlX X.K) := sl_tupA.or sl_list
/-- an end: none, or computed -/
def evO : Option (En → R D) → En → R (Option Int)
  | none, e => .ok none e
  | some m, e => (m e).bind fun d e' => match d with
    | .int i => .ok (some i) e'
    | _ => .no
def mSl (o : Od) (lo hi : Option (En → R D)) : En → R D := fun env => match o with
  | .m f => (f env).bind fun d e => (evO lo e).bind fun l e1 => (evO hi e1).bind fun h e2 => match oSl l h d with
    | some y => .ok y e2
    | none => .no
  | .s i => match val env i with
    | none => .no
    | some _ => (evO lo env).bind fun l e1 => (evO hi e1).bind fun h e2 => match (val e2 i).bind (oSl l h) with
      | some y => .ok y e2
      | none => .no
end
end PV

namespace PV
open PySem PySem.Spec PyProof.Rows L2
section
variable {c : Cn} {W : WX} {X : Cx} {env : En} {σ : L2.St} {H F : Hp}
/-! ### slices -/
inductive PoOk (X : Cx) (c : Cn) (W : WX) : Option Expr → Option (En → R D) → Prop
  | none : PoOk X c W none none
  | some {e m} : PE X e (tE c W m) → PoOk X c W (some e) (some m)
def tO (c : Cn) (W : WX) : Option (En → R D) → TO
  | none => tNoPart
  | some m => tPart (tE c W m)
theorem PoOk.po {e : Option Expr} {m : Option (En → R D)} (h : PoOk X c W e m) : PO X e (tO c W m) := by
  cases h with
  | none => exact po_none
  | some h => exact po_some h
theorem evO_ok {α β : Type} {rl : Rl α β} {Q : β → Hp → Prop} {m : Option (En → R D)} {f : Option Int → En → R α} {K : Option Int → Hp → Prop} (S : SR c env σ H F) (h : Okp c W σ F rl Q ((evO m env).bind f))
    (k : ∀ o e H1 F1, SR c e σ H1 F1 → Same F F1 → Okp c W σ F1 rl Q (f o e) → K o H1) : tO c W m σ H K := by
  cases m with
  | none => exact k none env H F S (Same.refl _) h
  | some m =>
    have e : (evO (some m) env).bind f = (m env).bind fun d e' => (match d with | .int i => R.ok (some i) e' | _ => .no : R (Option Int)).bind f := by
      unfold evO
      rw [R.bind_assoc] <;> rfl
    rw [e] at h
    refine tM_bind (rl := rlE c) S h fun d e' v H1 F1 S1 s1 r1 h1 => ?_
    cases r1 with
    | int => exact ⟨_, rfl, k _ e' H1 F1 S1 s1 h1⟩
    | _ => exact h1.elim
theorem sl_of {d y : D} {x : V} {lo hi : Option Int} {Q : VK} (w : WF c.toGc F H) (hK : c.K = X.K) (r : Rep1 c.toGc F H d x) (e : oSl lo hi d = some y) (k : ∀ v H' F', Go c.toGc F H F' H' → Rep c.toGc F' y v → Q v H') : rSlX X.K x lo hi H Q := by
  unfold oSl at e
  split at e
  · rename_i xs
    cases e
    obtain ⟨a, vs, rfl, h1, h2, h3⟩ := r.tup_ w
    rw [← hK]
    refine .inl ⟨a, vs, rfl, h1, fun hw => ?_, fun hw p n => ?_⟩
    · rw [← h3.length] at hw
      have ec : cutD xs lo hi = xs := cut_all hw
      rw [ec] at k
      exact k _ H F (Go.refl w) (.tup h2 h3)
    · have g2 := Go.frz w n (o := .tup (cutV vs lo hi)) (fun ps z => by cases z)
      exact k _ _ _ g2 (.tup (SqT.of upd_same) ((h3.cut lo hi).mono g2.gr.f))
  · rename_i xs
    cases e
    obtain ⟨a, vs, rfl, h1, h3⟩ := r.lst_ w
    refine .inr ⟨a, vs, rfl, SqL.of h1, fun p n => ?_⟩
    have g2 := Go.frz w n (o := .lst (cutV vs lo hi)) (fun ps z => by cases z)
    exact k _ _ _ g2 (.lst upd_same ((h3.cut lo hi).mono g2.gr.f))
  · cases e
theorem sl_ok {o : Od} {lo hi : Option (En → R D)} (hK : c.K = X.K) {Q : VK} (q : tE c W (mSl o lo hi) σ H Q) : tSl (rSlX X.K) (o.t c W) (tO c W lo) (tO c W hi) σ H Q := by
  obtain ⟨env, F, S, q⟩ := q
  unfold mSl at q
  cases o with
  | m f =>
    refine tM_bind S q fun d e v H1 F1 S1 s1 r1 h1 => ?_
    refine evO_ok S1 h1 fun l e1 H2 F2 S2 s2 h2 => ?_
    refine evO_ok S2 h2 fun h e2 H3 F3 S3 s3 h3 => ?_
    split at h3
    · rename_i y hy
      exact sl_of S3.wf hK (.st ((r1.mono s2).mono s3)) hy fun u H4 F4 g4 ru => h3 u H4 F4 (S3.go g4) g4.gr.f ru
    · exact h3.elim
  | s i =>
    have q' : Okp c W σ F (rlE c) Q (match val env i with
      | none => .no
      | some _ => (evO lo env).bind fun l e1 => (evO hi e1).bind fun h e2 => match (val e2 i).bind (oSl l h) with
        | some y => .ok y e2
        | none => .no) := q
    split at q'
    · exact q'.elim
    · rename_i d hv
      obtain ⟨v, g1, _⟩ := S.val hv
      refine ⟨v, g1, ?_⟩
      refine evO_ok S q' fun l e1 H2 F2 S2 s2 h2 => ?_
      refine evO_ok S2 h2 fun h e2 H3 F3 S3 s3 h3 => ?_
      split at h3
      · rename_i y hy
        cases z : val e2 i with
        | none =>
          rw [z] at hy
          cases hy
        | some d' =>
          rw [z] at hy
          obtain ⟨v', g3, g4⟩ := S3.val z
          rw [g1] at g3
          cases g3
          exact sl_of S3.wf hK g4 hy fun u H4 F4 g4 ru => h3 u H4 F4 (S3.go g4) g4.gr.f ru
      · exact h3.elim
theorem re_sl {e : Expr} {o : Od} {lo hi : Option Expr} {ml mh : Option (En → R D)} {p2 pos : Pos} (hK : c.K = X.K) (he : PE X e (o.t c W)) (hl : PoOk X c W lo ml) (hh : PoOk X c W hi mh) : PE X (.Subscript e (.Slice lo hi none p2) pos) (tE c W (mSl o ml mh)) :=
  (pe_slice sl_x he hl.po hh.po).imp fun σ H Q q => sl_ok hK q
/-! ### what is walked -/
def iRange1 : List D → Option (List D)
  | [.int n] => if -1000000 ≤ n ∧ n ≤ 1000000 then some ((List.range n.toNat).map fun k => .int (k : Nat)) else none
  | _ => none
def iRange2 : List D → Option (List D)
  | [.int a, .int b] => if (-1000000 ≤ a ∧ a ≤ 1000000) ∧ -1000000 ≤ b ∧ b ≤ 1000000 then some ((List.range (b - a).toNat).map fun k => .int (a + (k : Nat))) else none
  | _ => none
def mIt (f : List D → Option (List D)) (ms : List (En → R D)) : En → R (List D) := fun env => (evS ms env).bind fun ds e => match f ds with
  | some xs => .ok xs e
  | none => .no
theorem itS_rng {g : Gc} {F : Hp} (lo : Int) (n : Nat) : ItS g F (Itr lo n) ((List.range n).map fun k => D.int (lo + (k : Nat))) := by
  refine ⟨fun i d F' H' e s w => ?_, fun F' H' s w => ?_⟩
  · rw [List.getElem?_map] at e
    cases q : (List.range n)[i]? with
    | none =>
      rw [q] at e
      cases e
    | some k =>
      rw [q] at e
      cases e
      obtain ⟨hk, ek⟩ := List.getElem?_eq_some_iff.mp q
      rw [List.length_range] at hk
      have : k = i := by rw [← ek]; simp
      subst this
      refine ⟨hk, fun x H'' ⟨e1, e2⟩ => ?_⟩
      subst e1 e2
      exact ⟨F', Go.refl w, .int⟩
  · show n ≤ _
    simp
/-- a walk by values -/
def OpI (g : Gc) (r : List V → Hp → (It → Hp → Prop) → Prop) (f : List D → Option (List D)) : Prop := ∀ (ds : List D) (vs : List V) (xs : List D) (F H : Hp) (Q : It → Hp → Prop), WF g F H → Reps g F ds vs → f ds = some xs →
  (∀ J H' F', Go g F H F' H' → ItS g F' J xs → Q J H') → r vs H Q
theorem tIt_ok {r : List V → Hp → (It → Hp → Prop) → Prop} {f : List D → Option (List D)} {ms : List (En → R D)} (ho : OpI c.toGc r f) {Q : It → Hp → Prop} (h : tI c W (mIt f ms) σ H Q) : tMs c W ms σ H fun vs H1 => r vs H1 Q := by
  obtain ⟨env, F, S, h⟩ := h
  refine tMsA ms S h fun ds e vs H1 F1 S1 s1 r1 _ h1 => ?_
  cases q : f ds with
  | none =>
    rw [q] at h1
    exact h1.elim
  | some d =>
    rw [q] at h1
    exact ho ds vs d F1 H1 Q S1.wf r1 q fun J H2 F2 g2 rv => h1 J H2 F2 (S1.go g2) g2.gr.f rv
theorem oi_range1 {g : Gc} : OpI g (fun vs H1 R => ∃ j : Int, vs = [.int j] ∧ -(2 ^ 62) ≤ j ∧ j < 2 ^ 62 ∧ R (Itr 0 j.toNat) H1) iRange1 := fun ds vs xs F H Q w R e k => by
  unfold iRange1 at e
  split at e
  · rename_i n
    split at e
    · rename_i hz
      cases e
      obtain rfl : vs = [.int n] := by
        cases R with
        | cons a b =>
          cases a
          cases b
          rfl
      refine ⟨n, rfl, by omega, by omega, k _ H F (Go.refl w) ?_⟩
      have := itS_rng (g := g) (F := F) 0 n.toNat
      simpa using this
    · cases e
  · cases e
theorem oi_range2 {g : Gc} : OpI g (fun vs H1 R => ∃ i j : Int, vs = [.int i, .int j] ∧ (-(2 ^ 62) ≤ i ∧ i < 2 ^ 62 ∧ -(2 ^ 62) ≤ j ∧ j < 2 ^ 62) ∧ R (Itr i (j - i).toNat) H1) iRange2 := fun ds vs xs F H Q w R e k => by
  unfold iRange2 at e
  split at e
  · rename_i a b
    split at e
    · rename_i hz
      cases e
      obtain rfl : vs = [.int a, .int b] := by
        cases R with
        | cons x y =>
          cases y with
          | cons z t =>
            cases x
            cases z
            cases t
            rfl
      exact ⟨a, b, rfl, ⟨by omega, by omega, by omega, by omega⟩, k _ H F (Go.refl w) (itS_rng a (b - a).toNat)⟩
    · cases e
  · cases e
theorem ri_range1 {tg a : Expr} {m : En → R D} {p pos : Pos} (hg : Gl X "range") (hm : X.mg "range" = none) (ha : PE X a (tE c W m)) (hs0 : starEach [a] X.env = (false, eval a X.env) :: starEach [] X.env := by rfl) (hs : starEach [a] X.env = [(false, eval a X.env)] := by rfl) : PI X tg (.Call (.Name "range" p) [a] [] pos) (tI c W (mIt iRange1 [m])) :=
  (pi_range1 hg hm (pa_cons ha pa_nil hs0) hs).imp fun σ H R q => tIt_ok (ms := [m]) oi_range1 q
theorem ri_range2 {tg a b : Expr} {m1 m2 : En → R D} {p pos : Pos} (hg : Gl X "range") (hm : X.mg "range" = none) (ha : PE X a (tE c W m1)) (hb : PE X b (tE c W m2)) (hs0 : starEach [a, b] X.env = (false, eval a X.env) :: starEach [b] X.env := by rfl) (hs1 : starEach [b] X.env = (false, eval b X.env) :: starEach [] X.env := by rfl)
    (hs : starEach [a, b] X.env = [(false, eval a X.env), (false, eval b X.env)] := by rfl) (hs2 : starEach [b] X.env = [(false, eval b X.env)] := by rfl) : PI X tg (.Call (.Name "range" p) [a, b] [] pos) (tI c W (mIt iRange2 [m1, m2])) :=
  (pi_range2 hg hm (pa_cons ha (pa_cons hb pa_nil hs1) hs0) hs hs2).imp fun σ H R q => tIt_ok (ms := [m1, m2]) oi_range2 q
theorem _root_.L2.PI.or {X : Cx} {tg e : Expr} {t t' : TI} (h : PI X tg e t) (h' : PI X tg e t') : PI X tg e (fun σ H R => t σ H R ∨ t' σ H R) := ⟨fun pins s σ H R I q => q.elim (h.run pins s σ H R I) (h'.run pins s σ H R I)⟩
/-- a list or a tuple that is kept -/
def iSeq (m : En → R D) : En → R (List D) := fun env => (m env).bind fun d e => match seqD d with
  | some xs => .ok xs e
  | none => .no
theorem itS_lst {g : Gc} {F : Hp} {a : Addr} {vs : List V} {ds : List D} (h : F a = some (.lst vs)) (r : Reps g F ds vs) : ItS g F (Itl g.K a) ds := by
  refine ⟨fun i d F' H' e s w => ?_, fun F' H' s w => ⟨vs, SqL.of (w.sub _ _ (s _ _ h)), by rw [r.length]; exact Nat.le_refl _⟩⟩
  obtain ⟨v, hv, rv⟩ := r.get e
  have hs : SqL g.K H' a vs := SqL.of (w.sub _ _ (s _ _ h))
  refine ⟨⟨vs, v, hs, hv⟩, fun x H'' y => ?_⟩
  obtain ⟨e1, e2⟩ := y
  subst e1
  have := e2 vs hs
  rw [hv] at this
  cases this
  exact ⟨F', Go.refl w, rv.mono s⟩
theorem itS_sq {g : Gc} {F : Hp} {a : Addr} {vs : List V} {ds : List D} (h : SqL g.K F a vs) (r : Reps g F ds vs) : ItS g F (Itl g.K a) ds := by
  refine ⟨fun i d F' H' e s w => ?_, fun F' H' s w => ⟨vs, w.sub.seq (s.seq h), by rw [r.length]; exact Nat.le_refl _⟩⟩
  obtain ⟨v, hv, rv⟩ := r.get e
  have hs : SqL g.K H' a vs := w.sub.seq (s.seq h)
  refine ⟨⟨vs, v, hs, hv⟩, fun x H'' y => ?_⟩
  obtain ⟨e1, e2⟩ := y
  subst e1
  have := e2 vs hs
  rw [hv] at this
  cases this
  exact ⟨F', Go.refl w, rv.mono s⟩
theorem itS_tup {g : Gc} {F : Hp} {a : Addr} {vs : List V} {ds : List D} (h : SqT g.K F a vs) (r : Reps g F ds vs) : ItS g F (Itt g.K a) ds := by
  refine ⟨fun i d F' H' e s w => ?_, fun F' H' s w => ⟨vs, sqT_mono w.sub (sqT_mono s h), by rw [r.length]; exact Nat.le_refl _⟩⟩
  obtain ⟨v, hv, rv⟩ := r.get e
  have hs : SqT g.K H' a vs := sqT_mono w.sub (sqT_mono s h)
  refine ⟨⟨vs, v, hs, hv⟩, fun x H'' y => ?_⟩
  obtain ⟨e1, e2⟩ := y
  subst e1
  have := e2 vs hs
  rw [hv] at this
  cases this
  exact ⟨F', Go.refl w, rv.mono s⟩
theorem seq_ok {m : En → R D} (hK : c.K = X.K) {Q : It → Hp → Prop} (q : tI c W (iSeq m) σ H Q) : iList X.K (tE c W m) σ H Q ∨ iTup X.K (tE c W m) σ H Q := by
  obtain ⟨env, F, S, q⟩ := q
  rw [← hK]
  cases z : m env with
  | ok d e1 =>
    have q' : Okp c W σ F (rlI c) Q (match seqD d with | some xs => .ok xs e1 | none => .no) := by
      unfold iSeq at q
      rw [z] at q
      exact q
    cases d with
    | lst xs =>
      refine .inl ⟨env, F, S, ?_⟩
      rw [z]
      intro v H1 F1 S1 s1 rv
      cases rv with
      | @lst a _ vs h r =>
        exact ⟨a, rfl, ⟨vs, SqL.of (S1.wf.sub _ _ h)⟩, q' _ H1 F1 S1 s1 (itS_lst h r)⟩
    | ro xs =>
      refine .inl ⟨env, F, S, ?_⟩
      rw [z]
      intro v H1 F1 S1 s1 rv
      cases rv with
      | @ro a _ vs h r =>
        exact ⟨a, rfl, ⟨vs, S1.wf.sub.seq h⟩, q' _ H1 F1 S1 s1 (itS_sq h r)⟩
    | tup xs =>
      refine .inr ⟨env, F, S, ?_⟩
      rw [z]
      intro v H1 F1 S1 s1 rv
      cases rv with
      | @tup a _ vs h r =>
        exact ⟨a, rfl, ⟨vs, sqT_mono S1.wf.sub h⟩, q' _ H1 F1 S1 s1 (itS_tup h r)⟩
    | _ => exact q'.elim
  | er x e1 =>
    refine .inl ⟨env, F, S, ?_⟩
    unfold iSeq at q
    rw [z] at q ⊢
    exact q
  | no =>
    unfold iSeq at q
    rw [z] at q
    exact q.elim
theorem ri_seq {tg e : Expr} {m : En → R D} (hK : c.K = X.K) (he : PE X e (tE c W m)) : PI X tg e (tI c W (iSeq m)) := ((pi_list he).or (pi_tup he)).imp fun σ H Q q => seq_ok hK q
/-! ### zip of two lists, of two tuples -/
def zipD : List D → List D → List D
  | x :: xs, y :: ys => .tup [x, y] :: zipD xs ys
  | _, _ => []
theorem zipD_get : ∀ {xs ys : List D} {i : Nat} {d : D}, (zipD xs ys)[i]? = some d → ∃ x y, xs[i]? = some x ∧ ys[i]? = some y ∧ d = .tup [x, y]
  | [], _, _, _, h => by unfold zipD at h; simp at h
  | _ :: _, [], _, _, h => by unfold zipD at h; simp at h
  | x :: xs, y :: ys, 0, d, h => by
    unfold zipD at h
    exact ⟨x, y, rfl, rfl, (Option.some.inj h).symm⟩
  | x :: xs, y :: ys, i + 1, d, h => by
    unfold zipD at h
    exact zipD_get (xs := xs) (ys := ys) (i := i) h
theorem zipD_len : ∀ (xs ys : List D), xs.length ≤ (zipD xs ys).length ∨ ys.length ≤ (zipD xs ys).length
  | [], _ => .inl (Nat.zero_le _)
  | _ :: _, [] => .inr (Nat.zero_le _)
  | x :: xs, y :: ys => by
    unfold zipD
    rcases zipD_len xs ys with h | h
    · exact .inl (Nat.succ_le_succ h)
    · exact .inr (Nat.succ_le_succ h)
def iZip2 : List D → Option (List D)
  | [.tup xs, .tup ys] => some (zipD xs ys)
  | [.lst xs, .lst ys] => some (zipD xs ys)
  | _ => none
theorem pair_new {g : Gc} {F H : Hp} {x y : D} {v w : V} {T : Addr} (wf : WF g F H) (n : H T = none) (rx : Rep g F x v) (ry : Rep g F y w) : ∃ F'', Go g F H F'' (upd H T (.tup [v, w])) ∧ Rep g F'' (.tup [x, y]) (.ref T) := by
  have g2 := Go.frz wf n (o := .tup [v, w]) (fun ps z => by cases z)
  exact ⟨_, g2, .tup (SqT.of upd_same) (.cons (rx.mono g2.gr.f) (.cons (ry.mono g2.gr.f) .nil))⟩
theorem oi_zip {g : Gc} : OpI g (fun vs H1 R => ∃ a b xs ys, vs = [.ref a, .ref b] ∧ ((SqL g.K H1 a xs ∧ SqL g.K H1 b ys ∧ R (Itz g.K a b) H1) ∨ (SqT g.K H1 a xs ∧ SqT g.K H1 b ys ∧ R (RZ.ItzT g.K a b) H1))) iZip2 := fun ds vs zs F H Q w R e k => by
  unfold iZip2 at e
  split at e
  · rename_i xs ys
    cases e
    match vs, R with
    | _, .cons (@Rep.tup _ _ a _ ws fa ra) (.cons (@Rep.tup _ _ b _ us fb rb) .nil) =>
      refine ⟨a, b, ws, us, rfl, .inr ⟨sqT_mono w.sub fa, sqT_mono w.sub fb, k _ H F (Go.refl w) ⟨fun i d F' H' e s wf => ?_, fun F' H' s wf => ?_⟩⟩⟩
      · obtain ⟨x, y, ex, ey, rfl⟩ := zipD_get e
        obtain ⟨v, hv, rv⟩ := ra.get ex
        obtain ⟨u, hu, ru⟩ := rb.get ey
        have qa : SqT g.K H' a ws := sqT_mono wf.sub (sqT_mono s fa)
        have qb : SqT g.K H' b us := sqT_mono wf.sub (sqT_mono s fb)
        refine ⟨⟨ws, us, v, u, qa, qb, hv, hu⟩, fun z H'' ⟨T, v', u', e1, n, e2, q1, q2⟩ => ?_⟩
        have e3 := q1 ws qa
        rw [hv] at e3
        cases e3
        have e4 := q2 us qb
        rw [hu] at e4
        cases e4
        subst e1 e2
        exact pair_new wf n (rv.mono s) (ru.mono s)
      · have qa : SqT g.K H' a ws := sqT_mono wf.sub (sqT_mono s fa)
        have qb : SqT g.K H' b us := sqT_mono wf.sub (sqT_mono s fb)
        refine ⟨ws, us, qa, qb, ?_⟩
        rw [← ra.length, ← rb.length]
        exact zipD_len xs ys
  · rename_i xs ys
    cases e
    match vs, R with
    | _, .cons (@Rep.lst _ _ a _ ws fa ra) (.cons (@Rep.lst _ _ b _ us fb rb) .nil) =>
      refine ⟨a, b, ws, us, rfl, .inl ⟨SqL.of (w.sub _ _ fa), SqL.of (w.sub _ _ fb), k _ H F (Go.refl w) ⟨fun i d F' H' e s wf => ?_, fun F' H' s wf => ?_⟩⟩⟩
      · obtain ⟨x, y, ex, ey, rfl⟩ := zipD_get e
        obtain ⟨v, hv, rv⟩ := ra.get ex
        obtain ⟨u, hu, ru⟩ := rb.get ey
        have qa : SqL g.K H' a ws := SqL.of (wf.sub _ _ (s _ _ fa))
        have qb : SqL g.K H' b us := SqL.of (wf.sub _ _ (s _ _ fb))
        refine ⟨⟨ws, us, v, u, qa, qb, hv, hu⟩, fun z H'' ⟨T, v', u', e1, n, e2, q1, q2⟩ => ?_⟩
        have e3 := q1 ws qa
        rw [hv] at e3
        cases e3
        have e4 := q2 us qb
        rw [hu] at e4
        cases e4
        subst e1 e2
        exact pair_new wf n (rv.mono s) (ru.mono s)
      · have qa : SqL g.K H' a ws := SqL.of (wf.sub _ _ (s _ _ fa))
        have qb : SqL g.K H' b us := SqL.of (wf.sub _ _ (s _ _ fb))
        refine ⟨ws, us, qa, qb, ?_⟩
        rw [← ra.length, ← rb.length]
        exact zipD_len xs ys
  · cases e
theorem ri_zip {a b : Expr} {m1 m2 : En → R D} {elts : List Expr} {kk : Nat} {p pos tpos : Pos} (hK : c.K = X.K) (hg : Gl X "zip") (hm : X.mg "zip" = none) (ha : PE X a (tE c W m1)) (hb : PE X b (tE c W m2))
    (hs0 : starEach [a, b] X.env = (false, eval a X.env) :: starEach [b] X.env := by rfl) (hs1 : starEach [b] X.env = (false, eval b X.env) :: starEach [] X.env := by rfl) (hpl : (backTo pos (starEach [b] X.env)).any (·.1) = false := by rfl) :
    PI X (.Tuple elts kk tpos) (.Call (.Name "zip" p) [a, b] [] pos) (tI c W (mIt iZip2 [m1, m2])) :=
  (RZ.pi_zipA hg hm (pa_cons ha (pa_cons hb pa_nil hs1) hs0) hs0 hpl).imp fun σ H R q => by
    rw [← hK]
    exact tIt_ok (ms := [m1, m2]) oi_zip q
/-! ### isinstance, a built-in type -/
def tyN : D → Option String
  | .non => some "NoneType"
  | .bl _ => some "bool"
  | .int _ => some "int"
  | .str _ => some "str"
  | .tup _ => some "tuple"
  | .lst _ => some "list"
  | .dik _ => some "dict"
  | _ => none
def subN (a n : String) : Bool := a == n || (a == "bool" && n == "int")
def mIsi (n : String) (m : En → R D) : En → R D := fun env => (m env).bind fun d e => match tyN d with
  | some a => if ["bool", "int", "str", "tuple", "list", "dict"].contains n = true then .ok (.bl (subN a n)) e else .no
  | none => .no
theorem kit_of {K : PySem.W.Frag} {d : D} {a n : String} (h : tyN d = some a) (hn : ["bool", "int", "str", "tuple", "list", "dict"].contains n = true) : PySem.W.kitOne K (.type a) (.type n) = some (subN a n) := by
  have ha : a = "NoneType" ∨ a = "bool" ∨ a = "int" ∨ a = "str" ∨ a = "tuple" ∨ a = "list" ∨ a = "dict" := by
    cases d <;> first | (cases h; simp) | cases h
  have hn' : n = "bool" ∨ n = "int" ∨ n = "str" ∨ n = "tuple" ∨ n = "list" ∨ n = "dict" := by simpa using hn
  refine kit_ty ?_
  rcases ha with rfl | rfl | rfl | rfl | rfl | rfl | rfl <;> rcases hn' with rfl | rfl | rfl | rfl | rfl | rfl <;> decide +kernel
theorem ty_of {g : Gc} {F H : Hp} {d : D} {v : V} {a : String} (w : WF g F H) (r : Rep g F d v) (h : tyN d = some a) : TyX g.K H v (.type a) := by
  cases r with
  | non => cases h; exact .base .non
  | bl => cases h; exact .base (.bl _)
  | int => cases h; exact .base (.int _)
  | str => cases h; exact .base (.str _)
  | tup q _ =>
    cases h
    rcases sqT_mono w.sub q with (q | ⟨o, q⟩) | ⟨o, its, n, q, cl, _⟩
    · exact .base (.tup q)
    · exact .fTuple q
    · exact .kTuple q cl
  | lst q _ => cases h; exact .base (.lst (w.sub _ _ q))
  | dik q _ => cases h; exact .fDict (w.sub _ _ q)
  | _ => cases h
theorem re_isi {e : Expr} {x : Str} {nm : String} {m : En → R D} {p p2 pos : Pos} (hK : c.K = X.K) (hg : Gl X "isinstance") (hm : X.mg "isinstance" = none) (hv : bootBuiltins "isinstance" = some (.builtin "isinstance")) (hg2 : Gl X x) (hm2 : X.mg x = none) (hv2 : bootBuiltins x = some (.type nm)) (he : PE X e (tE c W m))
    (hx : x ≠ "__name__" := by decide) (hdx : (x == ("__debug__" : Str)) = false := by decide) (hs0 : starEach [e, .Name x p2] X.env = (false, eval e X.env) :: starEach [.Name x p2] X.env := by rfl) (hs1 : starEach [.Name x p2] X.env = (false, eval (.Name x p2) X.env) :: starEach [] X.env := by rfl)
    (hpl : (backTo pos (starEach [.Name x p2] X.env)).any (·.1) = false := by rfl) : PE X (.Call (.Name "isinstance" p) [e, .Name x p2] [] pos) (tE c W (mIsi nm m)) :=
  (pe_callB call_isi hg hm hv (pa_cons he (pa_cons (pe_bltn (v := .ty nm) hg2 hm2 hv2 rfl hx hdx) pa_nil hs1) hs0) (by decide) (by decide) hs0 hpl).imp fun σ H Q ⟨env, F, S, q⟩ => by
    unfold mIsi at q
    refine tM_bind S q fun d e v H1 F1 S1 s1 r1 h1 => ?_
    split at h1
    · rename_i a ha
      split at h1
      · rename_i hn
        refine ⟨v, .ty nm, .type a, .type nm, subN a nm, rfl, .ty nm, ?_, kit_of ha hn, h1 _ H1 F1 S1 (Same.refl _) .bl⟩
        rw [← hK]
        exact ty_of S1.wf r1 ha
      · exact h1.elim
    · exact h1.elim
/-! ### list(range(..)), tuple(range(..)) -/
theorem rg_vals (a b : Int) : Reps c.toGc F ((List.range (b - a).toNat).map fun k => D.int (a + (k : Nat))) (rgV a b) := by
  unfold rgV
  generalize (b - a).toNat = n
  have : ∀ l : List Nat, Reps c.toGc F (l.map fun k => D.int (a + (k : Nat))) (l.map fun k => V.int (a + (k : Nat))) := by
    intro l
    induction l with
    | nil => exact .nil
    | cons x r ih => exact .cons .int ih
  exact this _
def oRngL (k : List D → D) : List D → Option D := fun ds => (iRange1 ds).map k
theorem rng1_ok {m : En → R D} {k : List D → D} {σ : L2.St} {H : Hp} {Q : VK} (q : tE c W (mOp (oRngL k) [.m m]) σ H Q) {K : Int → Int → Hp → Prop}
    (hk : ∀ n e H1 F1, SR c e σ H1 F1 → RgOk 0 n → (∀ v H2 F2, SR c e σ H2 F2 → Same F1 F2 → Rep c.toGc F2 (k ((List.range n.toNat).map fun i => .int (i : Nat))) v → Q v H2) → K 0 n H1) : tRg1 (tE c W m) σ H K := by
  obtain ⟨env, F, S, q⟩ := q
  have q' : Okp c W σ F (rlE c) Q ((m env).bind fun d e => match oRngL k [d] with | some y => .ok y e | none => .no) := by
    have e : mOp (oRngL k) [.m m] env = (m env).bind fun d e => match oRngL k [d] with | some y => .ok y e | none => .no := by
      unfold mOp evA evP
      cases m env with
      | ok d e => rfl
      | er x e => rfl
      | no => rfl
    rw [← e]
    exact q
  refine tM_bind (rl := rlE c) S q' fun d e v H1 F1 S1 s1 r1 h1 => ?_
  split at h1
  · rename_i y hy
    unfold oRngL iRange1 at hy
    cases r1 with
    | @int n =>
      have hy' : (if -1000000 ≤ n ∧ n ≤ 1000000 then some ((List.range n.toNat).map fun i => D.int (i : Nat)) else none).map k = some y := hy
      split at hy'
      · rename_i hz
        cases hy'
        exact ⟨n, rfl, hk n e H1 F1 S1 ⟨by omega, by omega, by omega, by omega, by omega⟩ fun v H2 F2 S2 s2 rv => h1 v H2 F2 S2 s2 rv⟩
      · cases hy'
    | _ => cases hy
  · exact h1.elim
theorem re_listRg {a : Expr} {m : En → R D} {p p2 pos pos2 : Pos} (hc : X.calm = true) (hg : Gl X "list") (hm : X.mg "list" = none) (hg2 : Gl X "range") (hm2 : X.mg "range" = none) (ha : PE X a (tE c W m)) (na : starEach [a] X.env = (false, eval a X.env) :: starEach [] X.env := by rfl)
    (nb : starEach [.Call (.Name "range" p2) [a] [] pos2] X.env = (false, eval (.Call (.Name "range" p2) [a] [] pos2) X.env) :: starEach [] X.env := by rfl) : PE X (.Call (.Name "list" p) [.Call (.Name "range" p2) [a] [] pos2] [] pos) (tE c W (mOp (oRngL .lst) [.m m])) :=
  (pe_listRg hc hg hm (prg_1 hg2 hm2 ha na) nb).imp fun σ H Q q => rng1_ok q fun n e H1 F1 S1 ho kk => ⟨ho, fun p np => by
    have g2 := Go.frz S1.wf np (o := .lst (rgV 0 n)) (fun ps z => by cases z)
    have rv := rg_vals (c := c) (F := upd F1 p (.lst (rgV 0 n))) 0 n
    simp only [Int.sub_zero, Int.zero_add] at rv
    exact kk _ _ _ (S1.go g2) g2.gr.f (.lst upd_same rv)⟩
theorem re_tupRg {a : Expr} {m : En → R D} {p p2 pos pos2 : Pos} (hc : X.calm = true) (hg : Gl X "tuple") (hm : X.mg "tuple" = none) (hg2 : Gl X "range") (hm2 : X.mg "range" = none) (ha : PE X a (tE c W m)) (na : starEach [a] X.env = (false, eval a X.env) :: starEach [] X.env := by rfl)
    (nb : starEach [.Call (.Name "range" p2) [a] [] pos2] X.env = (false, eval (.Call (.Name "range" p2) [a] [] pos2) X.env) :: starEach [] X.env := by rfl) : PE X (.Call (.Name "tuple" p) [.Call (.Name "range" p2) [a] [] pos2] [] pos) (tE c W (mOp (oRngL .tup) [.m m])) :=
  (pe_tupRg hc hg hm (prg_1 hg2 hm2 ha na) nb).imp fun σ H Q q => rng1_ok q fun n e H1 F1 S1 ho kk => ⟨ho, fun p np => by
    have g2 := Go.frz S1.wf np (o := .tup (rgV 0 n)) (fun ps z => by cases z)
    have rv := rg_vals (c := c) (F := upd F1 p (.tup (rgV 0 n))) 0 n
    simp only [Int.sub_zero, Int.zero_add] at rv
    exact kk _ _ _ (S1.go g2) g2.gr.f (.tup (SqT.of upd_same) rv)⟩
/-- n.bit_length() -/
theorem re_bits {a : Expr} {o : Od} {apos pos : Pos} (ha : PE X a (o.t c W)) (hbase : attributeBase a "bit_length" X.env (eval a X.env) = eval a X.env := by rfl) (hline : (apos.endLine == pos.line) = true := by rfl) : PE X (.Call (.Attribute a "bit_length" apos) [] [] pos) (tE c W (mOp oBits [o])) :=
  (pe_bits ha hbase hline).imp fun σ H Q q => tOp_ok (os := [o]) (f := oBits) (r := r1 fun x H Q => ∃ i, x = .int i ∧ Q (.int (Builtin.Int.intBits i : Nat)) H) (fun ds vs d F H Q w R e k => by
    unfold oBits o1I at e
    split at e
    · rename_i i
      cases e
      obtain ⟨x, rfl, h1⟩ := R.one
      exact ⟨i, h1.int_, k _ H F (Go.refl w) .int⟩
    · cases e) q
end
end PV

/-! ### t[::-1] of a tuple -/
namespace HT
open PySem PyProof.Rows L2 HT
section
variable {prog : Program} {w : World} {A : Around} {E : Value → Shared → Prop} {s : Shared}
theorem pv_adjust (n : Nat) : Builtin.Slice.sliceAdjust none none (-1) (n : Int) = ((n : Int) - 1, -1) := by
  unfold Builtin.Slice.sliceAdjust
  simp
theorem pv_places (n : Nat) : Builtin.Slice.slicePlaces ((n : Int) - 1) (-1) (-1) = n := by
  unfold Builtin.Slice.slicePlaces
  have h1 : ¬ ((-1 : Int) > 0) := by decide
  simp only [h1, if_false]
  by_cases h : (n : Int) - 1 > -1
  · simp only [h, if_true]
    have e : ((n : Int) - 1 - -1 - 1) / (- -1) = (n : Int) - 1 := by
      rw [show (- -1 : Int) = 1 by decide, Int.ediv_one]
      omega
    rw [e]
    omega
  · simp only [h, if_false]
    omega
theorem pv_applied {sl : Addr} {vl vu vs : Value} {n : Nat} {Q : Int × Int × Nat → Shared → Prop} (hs : s.heap.IsSliceOf sl vl vu vs) (pl : IsPart vl none) (pu : IsPart vu none) (ps : IsPart vs (some (-1)))
    (h : Q ((n : Int) - 1, -1, n) s) : wpAny (model prog w) A (Builtin.Slice.sliceApplied (.ref sl) (pure (n : Int))) Q E s := by
  obtain ⟨os, hos, hcs, hds⟩ := id hs
  unfold Builtin.Slice.sliceApplied Builtin.Slice.sliceFields
  refine wpAny_bind (wpAny_bind (wpAny_field hos hds (x := vl) rfl (wpAny_bind (wpAny_field hos hds (x := vu) rfl (wpAny_bind (wpAny_field hos hds (x := vs) rfl (wpAny_pure ?_)))))))
  refine wpAny_bind (slicePart_ ps ?_)
  show wpAny _ _ (if ((-1 : Int) == 0) = true then _ else _) _ _ s
  rw [if_neg (by decide)]
  refine wpAny_bind (slicePart_ pl (wpAny_bind (slicePart_ pu (wpAny_bind (wpAny_pure ?_)))))
  show wpAny _ _ (match Builtin.Slice.sliceAdjust none none (-1) (n : Int) with | (lo, hi) => pure (lo, (-1 : Int), Builtin.Slice.slicePlaces lo hi (-1))) _ _ s
  rw [pv_adjust n]
  show wpAny _ _ (pure ((n : Int) - 1, (-1 : Int), Builtin.Slice.slicePlaces ((n : Int) - 1) (-1) (-1))) _ _ s
  rw [pv_places]
  exact wpAny_pure h
theorem pv_fm {α β : Type} {f g : α → Option β} : ∀ l : List α, (∀ x ∈ l, f x = g x) → l.filterMap f = l.filterMap g
  | [], _ => rfl
  | a :: l, h => by
    rw [List.filterMap_cons, List.filterMap_cons, h a (List.mem_cons_self ..), pv_fm l fun x hx => h x (List.mem_cons_of_mem _ hx)]
theorem pv_pick (xs : Array Value) : ((List.range xs.size).filterMap fun (m : Nat) => xs[((xs.size : Int) - 1 + (m : Int) * -1).toNat]?).toArray = xs.toList.reverse.toArray := by
  have e : (List.range xs.size).filterMap (fun (m : Nat) => xs[((xs.size : Int) - 1 + (m : Int) * -1).toNat]?) = ((List.range xs.size).map fun k => xs.size - 1 - k).filterMap (xs[·]?) := by
    rw [List.filterMap_map]
    refine pv_fm _ fun m hm => ?_
    have := List.mem_range.mp hm
    show xs[((xs.size : Int) - 1 + (m : Int) * -1).toNat]? = xs[xs.size - 1 - m]?
    congr 1
    omega
  rw [e, PySem.W.krv_range, List.filterMap_reverse, PySem.W.krv_all]
theorem pv_rev {t sl : Addr} {items : Array Value} {vl vu vs : Value} {Q : Value → Shared → Prop} (ht : IsTup s.heap t items) (hs : s.heap.IsSliceOf sl vl vu vs) (pl : IsPart vl none) (pu : IsPart vu none) (ps : IsPart vs (some (-1)))
    (h : Q (.ref s.heap.objs.size) { s with heap := s.heap.push { cls := .type "tuple", data := .seq items.toList.reverse.toArray } })
    (hsz : items.size ≤ sizeLine) : wpAny (model prog w) A (getItem (.ref t) (.ref sl)) Q E s := by
  have htake : sizeOk (.seq items.toList.reverse.toArray) := by
    show items.toList.reverse.toArray.size ≤ sizeLine
    rw [List.size_toArray, List.length_reverse, Array.length_toList]
    exact hsz
  obtain ⟨os, hos, hcs, hds⟩ := id hs
  have hTs : s.TypeIs (.ref sl) "slice" := ⟨os, hos, hcs⟩
  unfold getItem
  try with_reducible refine wpAny_holding ?_
  first | refine wpAny_bind (wpAny_pure ?_) | skip
  refine wpAny_bind (wpAny_sequenceKey ht.typeIs (by decide) ?_)
  refine wpAny_bind (wpAny_callSpecial?_slot (name := Str.ofString "__getitem__") ht.typeIs PyProof.Rows.slot_tuple_getitem
    (wpAny_call_entry PyProof.Rows.slot_tuple_getitem ht.typeIs entry_tuple_getitem ?_ (args_tuple_getitem _ _)))
  show wpAny _ _ (Builtin.Tuple.tupleItemsOf (.ref t) >>= _) _ _ s
  refine wpAny_bind (tupleItemsOf_ ht ?_)
  refine wpAny_bind (wpAny_typeOf hTs ?_)
  rw [if_pos (by decide)]
  refine wpAny_bind (pv_applied hs pl pu ps ?_)
  show wpAny _ _ (if (((items.size : Int) - 1) == 0 && (-1 : Int) == 1 && items.size == items.size) = true then _ else _) _ _ s
  rw [if_neg (by rw [show ((-1 : Int) == 1) = false from by decide, Bool.and_false, Bool.false_and]; exact Bool.false_ne_true), pv_pick]
  first
    | exact wpAny_bind (m := Builtin.Tuple.tupleExact _) (wpAny_newObj_type (wpAny_pure ⟨_, rfl, wpAny_pure h⟩) htake)
    | exact wpAny_bind (m := Builtin.Tuple.tupleExact _) (wpAny_newObj_type (wpAny_bind (wpAny_pure (wpAny_pure ⟨_, rfl, wpAny_pure h⟩))) htake)
    | exact wpAny_bind (wpAny_bind (m := Builtin.Tuple.tupleExact _) (wpAny_newObj_type (wpAny_pure (wpAny_pure ⟨_, rfl, wpAny_pure h⟩)) htake))
    | exact wpAny_bind (wpAny_bind (m := Builtin.Tuple.tupleExact _) (wpAny_newObj_type (wpAny_pure ⟨_, rfl, wpAny_pure h⟩) htake))
end
end HT
namespace PV
open PySem PySem.Spec PyProof.Rows L2
section
variable {X : Cx} {e : Expr} {te : TE} {k : Nat} {p1 p2 p3 pos : Pos}
def tRevT (K : PySem.W.Frag) (te : TE) : TE := fun σ H Q => te σ H fun x H1 => ∃ a xs, x = .ref a ∧ SqT K H1 a xs ∧ ∀ p, H1 p = none → Q (.ref p) (upd H1 p (.tup xs.reverse))
theorem pe_revT (he : PE X e te) : PE X (.Subscript e (.Slice none none (some (.UnaryOp .USub (.Constant (.int 1) k p1) p2)) p3) pos) (tRevT X.K te) := by
  refine ⟨fun pins s σ H Q I h => ?_⟩
  refine Subscript_ (thn (he.run pins s σ H _ I h) fun v s1 ⟨x, H1, I1, r1, q1⟩ => ?_)
  obtain ⟨a, xs, ex, hx, q⟩ := q1
  subst ex
  cases r1
  have hst : PO X (some (.UnaryOp .USub (.Constant (.int 1) k p1) p2)) (tPart (tUn (rU fun i => .int (-i)) (tC (.int 1)))) := po_some (pe_un un_neg pe_int)
  refine wpAny_Slice (thn (po_none.run pins s1 σ H1 (fun o H2 => o = none ∧ H2 = H1) I1 ⟨rfl, rfl⟩) fun vl s2 ⟨l, H2, I2, pl, el, e2⟩ => ?_)
  subst el e2
  refine thn (po_none.run pins s2 σ H2 (fun o H3 => o = none ∧ H3 = H2) I2 ⟨rfl, rfl⟩) fun vu s3 ⟨u, H3, I3, pu, eu, e3⟩ => ?_
  subst eu e3
  refine thn (hst.run pins s3 σ H3 (fun o H4 => o = some (-1) ∧ H4 = H3) I3 ⟨1, rfl, -1, rfl, rfl, rfl⟩) fun vs s4 ⟨o, H4, I4, ps, eo, e4⟩ => ?_
  subst eo e4
  have I5 : Inv X pins σ H4 { s4 with heap := s4.heap.push { cls := .type "slice", data := .fields #[vl, vu, vs] } } := I4.kept (t' := s4.toks) fun b ob q => Heap.get?_push_of_some _ q
  obtain ⟨its, r, ht, hz⟩ := I5.tuple hx
  have hlen := r.length
  show wpAny (model X.prog X.w) X.A (subscriptTail e (.Slice none none (some (.UnaryOp .USub (.Constant (.int 1) k p1) p2)) p3) (.ref a) (.ref s4.heap.objs.size)) (EP X pins σ Q) X.xe { s4 with heap := s4.heap.push { cls := .type "slice", data := .fields #[vl, vu, vs] } }
  refine tail_any (ops := [.ref a, .ref s4.heap.objs.size]) ht.typeIs PyProof.Rows.slot_tuple_getitem.lookup ?_ (by with_unfolding_all rfl)
  refine HT.pv_rev ht (Heap.IsSliceOf.new _ vl vu vs) pl pu ps ?_ (by rw [List.size_toArray]; omega)
  refine ⟨.ref _, _, I5.laid (t' := s4.toks) (o := .tup xs.reverse) (fun b ob q => Heap.get?_push_of_some _ q) (Nat.le_refl _) ?_, rfl, q _ (I5.hok.fresh (Nat.le_refl _))⟩
  exact ⟨by rw [List.length_reverse]; exact hz, _, r.reverse, IsTup.new _ _⟩
end
theorem _root_.L2.PE.or {X : Cx} {e : Expr} {t t' : TE} (h : PE X e t) (h' : PE X e t') : PE X e (fun σ H Q => t σ H Q ∨ t' σ H Q) := ⟨fun pins s σ H Q I q => by
  rcases q with q | q
  · exact h.run pins s σ H Q I q
  · exact h'.run pins s σ H Q I q⟩
theorem _root_.L2.PS.or {X : Cx} {e : Stmt} {t t' : TS} (h : PS X e t) (h' : PS X e t') : PS X e (fun D σ H => t D σ H ∨ t' D σ H) := ⟨fun pins s σ H D I q => by
  rcases q with q | q
  · exact h.run pins s σ H D I q
  · exact h'.run pins s σ H D I q⟩
section
variable {c : Cn} {W : WX} {X : Cx} {env : En} {σ : L2.St} {H F : Hp}
/-- by cases of what the operands are -/
theorem mOp_or {f f1 f2 : List D → Option D} (hf : ∀ ds, f ds = f1 ds ∨ f ds = f2 ds) {os : List Od} {Q : VK} (q : tE c W (mOp f os) σ H Q) : tE c W (mOp f1 os) σ H Q ∨ tE c W (mOp f2 os) σ H Q := by
  obtain ⟨env, F, S, q⟩ := q
  unfold mOp at q
  cases z : evA os env with
  | ok ds e =>
    rw [z] at q
    have q' : Okp c W σ F (rlE c) Q (match f ds with | some d => R.ok d e | none => .no) := q
    rcases hf ds with h | h
    · rw [h] at q'
      refine .inl ⟨env, F, S, ?_⟩
      unfold mOp
      rw [z]
      exact q'
    · rw [h] at q'
      refine .inr ⟨env, F, S, ?_⟩
      unfold mOp
      rw [z]
      exact q'
  | er x e =>
    rw [z] at q
    refine .inl ⟨env, F, S, ?_⟩
    unfold mOp
    rw [z]
    exact q
  | no =>
    rw [z] at q
    exact q.elim
theorem Reps.rev {g : Gc} {F : Hp} : ∀ {ds : List D} {vs : List V}, Reps g F ds vs → Reps g F ds.reverse vs.reverse
  | _, _, .nil => .nil
  | _, _, .cons h t => by
    rw [List.reverse_cons, List.reverse_cons]
    exact (Reps.rev t).append (.cons h .nil)
def oRevT : List D → Option D
  | [.tup xs] => some (.tup xs.reverse)
  | _ => none
def oRevL : List D → Option D
  | [d] => (lstD d).map fun xs => .lst xs.reverse
  | _ => none
/-- x[::-1] -/
def oRev : List D → Option D
  | [.tup xs] => some (.tup xs.reverse)
  | ds => oRevL ds
theorem re_rev {e : Expr} {o : Od} {k : Nat} {p1 p2 p3 pos : Pos} (hK : c.K = X.K) (he : PE X e (o.t c W)) : PE X (.Subscript e (.Slice none none (some (.UnaryOp .USub (.Constant (.int 1) k p1) p2)) p3) pos) (tE c W (mOp oRev [o])) :=
  ((pe_revT he).or (pe_revL he)).imp fun σ H Q q => by
    rw [← hK]
    have q := mOp_or (f1 := oRevT) (f2 := oRevL) (fun ds => by
      unfold oRev
      split
      · exact .inl rfl
      · exact .inr rfl) q
    rcases q with q | q
    · refine .inl (tOp_ok (os := [o]) (r := r1 fun x H1 Q => ∃ a xs, x = .ref a ∧ SqT c.K H1 a xs ∧ ∀ p, H1 p = none → Q (.ref p) (upd H1 p (.tup xs.reverse))) (fun ds vs d F H Q w R e k => ?_) q)
      unfold oRevT at e
      split at e
      · rename_i xs
        cases e
        obtain ⟨x, rfl, h1⟩ := R.one
        obtain ⟨a, vs, rfl, h2, h3, h4⟩ := h1.tup_ w
        refine ⟨a, vs, rfl, h2, fun p n => ?_⟩
        have g2 := Go.frz w n (o := .tup vs.reverse) (fun ps z => by cases z)
        exact k _ _ _ g2 (.tup (SqT.of upd_same) (h4.rev.mono g2.gr.f))
      · cases e
    · refine .inr (tOp_ok (os := [o]) (r := r1 fun x H1 Q => ∃ a xs, x = .ref a ∧ SqL c.K H1 a xs ∧ ∀ p, H1 p = none → Q (.ref p) (upd H1 p (.lst xs.reverse))) (fun ds vs d F H Q w R e k => ?_) q)
      unfold oRevL at e
      split at e
      · rename_i d1
        obtain ⟨x, rfl, h1⟩ := R.one
        cases q1 : lstD d1 with
        | none =>
          rw [q1] at e
          cases e
        | some xs =>
          rw [q1] at e
          cases e
          obtain ⟨a, vs, rfl, h2, h4⟩ := h1.list_ w q1
          refine ⟨a, vs, rfl, h2, fun p n => ?_⟩
          have g2 := Go.frz w n (o := .lst vs.reverse) (fun ps z => by cases z)
          exact k _ _ _ g2 (.lst upd_same (h4.rev.mono g2.gr.f))
      · cases e
/-! ### an own container given up: taken, or frozen -/
theorem SR.drop (S : SR c env σ H F) {i : Nat} (hi : i < env.length) : SR c (env.set i .no) σ H F := by
  have own : ∀ j b, Own (env.set i .no) σ j b → j ≠ i ∧ Own env σ j b := fun j b ⟨g1, d, g2⟩ => by
    by_cases hj : j = i
    · subst hj
      rw [List.getElem?_set_self hi] at g2
      rcases g2 with g2 | g2 <;> cases g2
    · rw [List.getElem?_set_ne (Ne.symm hj)] at g2
      exact ⟨hj, g1, d, g2⟩
  refine ⟨S.gr, S.there, S.rt, by simpa using S.len, fun j d e => ?_, fun j d e => ?_, fun j d e => ?_, fun j k b g1 g2 => S.apart j k b (own j b g1).2 (own k b g2).2⟩
  · by_cases hj : j = i
    · subst hj
      rw [List.getElem?_set_self hi] at e
      cases e
    · rw [List.getElem?_set_ne (Ne.symm hj)] at e
      exact S.fz j d e
  · by_cases hj : j = i
    · subst hj
      rw [List.getElem?_set_self hi] at e
      cases e
    · rw [List.getElem?_set_ne (Ne.symm hj)] at e
      exact S.ow j d e
  · by_cases hj : j = i
    · subst hj
      rw [List.getElem?_set_self hi] at e
      cases e
    · rw [List.getElem?_set_ne (Ne.symm hj)] at e
      exact S.rf j d e
theorem SR.drop_own (S : SR c env σ H F) {i : Nat} {d : D} {a : Addr} (hd : env[i]? = some (.ow d)) (ha : σ[i]? = some (some (.ref a))) : ∀ j, ¬ Own (env.set i .no) σ j a := fun j ⟨g1, d', g2⟩ => by
  have hi : i < env.length := by
    by_cases h : i < env.length
    · exact h
    · rw [List.getElem?_eq_none (by omega)] at hd
      cases hd
  by_cases hj : j = i
  · subst hj
    rw [List.getElem?_set_self hi] at g2
    rcases g2 with g2 | g2 <;> cases g2
  · rw [List.getElem?_set_ne (Ne.symm hj)] at g2
    exact hj (S.apart j i a ⟨g1, d', g2⟩ ⟨ha, d, .inl hd⟩)
def mTake (i : Nat) : En → R D := fun env => match env[i]? with
  | some (.ow d) => .ok d (env.set i .no)
  | _ => .no
theorem lt_of_get {e : En} {i : Nat} {s : Sl} (h : e[i]? = some s) : i < e.length := by
  by_cases hi : i < e.length
  · exact hi
  · rw [List.getElem?_eq_none (by omega)] at h
    cases h
theorem re_take {i : Nat} {e : Expr} (h : PE X e (tVar i)) : PE X e (tF c W (mTake i)) := h.imp fun σ H Q ⟨env, F, S, q⟩ => by
  unfold mTake at q
  split at q
  · rename_i d z
    obtain ⟨a, o, h1, h2, h3, h4, h5⟩ := S.ow i d z
    refine ⟨_, h1, q _ H F (S.drop (lt_of_get z)) (Same.refl _) ⟨a, o, rfl, h2, h3, h4, fun z => S.rt a z h4, S.drop_own z h1, h5⟩⟩
  · exact q.elim
/-- from here on the own container is kept as it stands -/
def sFz (i : Nat) (m : En → Rs) : En → Rs := fun env => match env[i]? with
  | some (.ow d) => m (env.set i (.fz d))
  | some (.fz _) => m env
  | _ => .no
theorem set_self {σ : L2.St} {i : Nat} {x : Option V} (h : σ[i]? = some x) : σ.set i x = σ := by
  apply List.ext_getElem?
  intro j
  by_cases hj : j = i
  · subst hj
    have : j < σ.length := by
      by_cases hi : j < σ.length
      · exact hi
      · rw [List.getElem?_eq_none (by omega)] at h
        cases h
    rw [List.getElem?_set_self this, h]
  · rw [List.getElem?_set_ne (Ne.symm hj)]
theorem rss_fz {i : Nat} {sts : List Stmt} {m : En → Rs} (h : PSs X sts (tS c W m)) : PSs X sts (tS c W (sFz i m)) := ⟨fun pins s σ H Z I q => by
  obtain ⟨env, F, S, q⟩ := q
  unfold sFz at q
  split at q
  · rename_i d z
    obtain ⟨a, o, h1, h2, h3, h4, h5⟩ := S.ow i d z
    have hi := lt_of_get z
    have S1 := S.drop hi
    have no := S.drop_own z h1
    have fr : free (env.set i .no) i = true := by
      unfold free
      rw [List.getElem?_set_self hi]
    cases hl : lockO d with
    | false =>
      obtain ⟨S2, s2⟩ := S1.freeze h2 h3 h4 no h5
      have S3 := S2.set fr ((h5.mono s2).rep hl upd_same)
      rw [set_self h1, List.set_set] at S3
      exact h.run pins s σ H Z I ⟨_, _, S3, OkS.mono q s2⟩
    | true =>
      obtain ⟨od, I2⟩ := I.lock h2 h5.mut
      obtain ⟨S2, s2⟩ := S1.lock (od := od) h2 h3 h4 no h5
      have S3 := S2.set fr ((h5.mono s2).repL hl upd_same)
      rw [set_self h1, List.set_set] at S3
      exact h.run pins s σ _ Z I2 ⟨_, _, S3, OkS.mono q s2⟩
  · exact h.run pins s σ H Z I ⟨env, F, S, q⟩
  · exact q.elim⟩
end
end PV

namespace PV
open PySem PySem.Spec PyProof.Rows L2
/-! ### strictly ascending lists -/
def insU (x : Int) : List Int → List Int
  | [] => [x]
  | y :: r => if x < y then x :: y :: r else if x = y then y :: r else y :: insU x r
def srtU : List Int → List Int
  | [] => []
  | x :: r => insU x (srtU r)
theorem insU_mem (x k : Int) : ∀ l : List Int, k ∈ insU x l ↔ k = x ∨ k ∈ l
  | [] => by unfold insU; simp
  | y :: r => by
    unfold insU
    split
    · simp
    · split
      · rename_i h
        subst h
        simp
      · rw [List.mem_cons, insU_mem x k r, List.mem_cons]
        constructor
        · rintro (h | h | h)
          · exact .inr (.inl h)
          · exact .inl h
          · exact .inr (.inr h)
        · rintro (h | h | h)
          · exact .inr (.inl h)
          · exact .inl h
          · exact .inr (.inr h)
theorem insU_srt (x : Int) : ∀ {l : List Int}, l.Pairwise (· < ·) → (insU x l).Pairwise (· < ·)
  | [], _ => by unfold insU; simp
  | y :: r, h => by
    unfold insU
    rw [List.pairwise_cons] at h
    split
    · rename_i hx
      refine List.pairwise_cons.mpr ⟨fun z hz => ?_, List.pairwise_cons.mpr h⟩
      rcases List.mem_cons.mp hz with e | hz
      · rw [e]; exact hx
      · exact Int.lt_trans hx (h.1 z hz)
    · split
      · exact List.pairwise_cons.mpr h
      · rename_i hx hn
        refine List.pairwise_cons.mpr ⟨fun z hz => ?_, insU_srt x h.2⟩
        rcases (insU_mem x z r).mp hz with e | hz
        · rw [e]; omega
        · exact h.1 z hz
theorem srtU_mem (k : Int) : ∀ l : List Int, k ∈ srtU l ↔ k ∈ l
  | [] => by unfold srtU; simp
  | x :: r => by
    unfold srtU
    rw [insU_mem, srtU_mem k r, List.mem_cons]
theorem srtU_srt : ∀ l : List Int, (srtU l).Pairwise (· < ·)
  | [] => by unfold srtU; exact .nil
  | x :: r => by
    unfold srtU
    exact insU_srt x (srtU_srt r)
theorem srt_uniq : ∀ {a b : List Int}, a.Pairwise (· < ·) → b.Pairwise (· < ·) → (∀ k, k ∈ a ↔ k ∈ b) → a = b
  | [], [], _, _, _ => rfl
  | [], y :: s, _, _, h => absurd ((h y).mpr (List.mem_cons_self ..)) (by simp)
  | x :: r, [], _, _, h => absurd ((h x).mp (List.mem_cons_self ..)) (by simp)
  | x :: r, y :: s, ha, hb, h => by
    rw [List.pairwise_cons] at ha hb
    have e : x = y := by
      rcases List.mem_cons.mp ((h x).mp (List.mem_cons_self ..)) with e | e
      · exact e
      · rcases List.mem_cons.mp ((h y).mpr (List.mem_cons_self ..)) with e2 | e2
        · exact e2.symm
        · have h1 := hb.1 x e
          have h2 := ha.1 y e2
          omega
    subst e
    congr 1
    refine srt_uniq ha.2 hb.2 fun k => ?_
    constructor
    · intro hk
      rcases List.mem_cons.mp ((h k).mp (List.mem_cons_of_mem _ hk)) with e | e
      · have := ha.1 k hk
        omega
      · exact e
    · intro hk
      rcases List.mem_cons.mp ((h k).mpr (List.mem_cons_of_mem _ hk)) with e | e
      · have := hb.1 k hk
        omega
      · exact e
theorem srtU_self {l : List Int} : srtU l = l ↔ l.Pairwise (· < ·) := ⟨fun h => h ▸ srtU_srt l, fun h => srt_uniq (srtU_srt l) h (fun k => srtU_mem k l)⟩
/-! ### sorted(set(x)), x a tuple of ints, fewer than 64 -/
section
variable {X : Cx}
def rSetI (K : PySem.W.Frag) (w : World) : List V → Hp → VK → Prop := fun xs H Q => ∃ (p : Addr) (ns : List Int), xs = [.ref p] ∧ SqT K H p (ns.map V.int) ∧ ns.length ≤ 1000 ∧
  ∀ (a : Addr) (n : Nat), H a = none → n ≤ ns.length → Q (.ref a) (upd H a (SetO w a (fun j => decide (j ∈ ns)) n))
theorem cr_setI (hc : X.calm = true) : CallR X (.type "set") (rSetI X.K X.w) := by
  intro pins s σ H xs us Q I r h
  obtain ⟨p, ns, rfl, hq, hl, q⟩ := h
  rw [Vals.ref1 r]
  obtain ⟨its, rv, pt, hz⟩ := I.tuple hq
  have hi : IntsAre its.toArray.toList ns := ints_of_vals rv
  refine call_set_tupI ns (I.ok.hd hc) (show s.heap.IsTuple p its.toArray from pt) hi (by unfold scanBound; omega) fun h' tk n R1 hn k => ?_
  exact ⟨.ref s.heap.objs.size, _, I.laid (t' := tk) k (Nat.le_refl _) (setO_new R1), rfl, q _ n (I.hok.fresh (Nat.le_refl _)) hn⟩
end
section
variable {c : Cn} {W : WX} {X : Cx} {env : En} {σ : L2.St} {H F : Hp}
def oSrtSet : List D → Option D
  | [.tup xs] => (intsD xs).bind fun ns => if ns.length < 64 then some (.lst ((srtU ns).map D.int)) else none
  | _ => none
theorem re_srtSet {e : Expr} {o : Od} {p p2 pos pos2 : Pos} (hK : c.K = X.K) (hc : X.calm = true) (hg : Gl X "sorted") (hm : X.mg "sorted" = none) (hg2 : Gl X "set") (hm2 : X.mg "set" = none) (he : PE X e (o.t c W))
    (h1 : starEach [.Call (.Name "set" p2) [e] [] pos2] X.env = (false, eval (.Call (.Name "set" p2) [e] [] pos2) X.env) :: starEach [] X.env := by rfl) (h2 : starEach [e] X.env = (false, eval e X.env) :: starEach [] X.env := by rfl)
    (hpl : (backTo pos (starEach [] X.env)).any (·.1) = false := by rfl) (hpl2 : (backTo pos2 (starEach [] X.env)).any (·.1) = false := by rfl) :
    PE X (.Call (.Name "sorted" p) [.Call (.Name "set" p2) [e] [] pos2] [] pos) (tF c W (mOp oSrtSet [o])) :=
  (pe_callB (cr_sortedSet hc) hg hm PyProof.Rows.boot_sorted (pa_cons (pe_callTy (cr_setI hc) hg2 hm2 PyProof.Rows.boot_set (pa_cons he pa_nil h2) (by decide) (by decide) h2 hpl2) pa_nil h1) (by decide) (by decide) h1 hpl).imp fun σ H Q q => by
    rw [← hK]
    obtain ⟨env, F, S, q⟩ := q
    show tOds c W [o] σ H fun vs H1 => rSetI c.K X.w vs H1 (fun y H2 => rSortedSet X.w [y] H2 Q)
    refine tOdsA (os := [o]) S q fun ds e vs H1 F1 S1 s1 r1 h1 => ?_
    unfold oSrtSet at h1
    split at h1
    · rename_i d q1
      split at q1
      · rename_i xs
        cases q2 : intsD xs with
        | none =>
          rw [q2] at q1
          cases q1
        | some ns =>
          rw [q2] at q1
          have q3 : (if ns.length < 64 then some (D.lst ((srtU ns).map D.int)) else none) = some d := q1
          split at q3
          · rename_i hl
            cases q3
            obtain ⟨x, rfl, h2⟩ := r1.one
            obtain ⟨a, vs, rfl, h3, h4, h5⟩ := h2.tup_ S1.wf
            rw [h5.ints q2] at h3
            refine ⟨a, ns, rfl, h3, by omega, fun b n nb hn => ?_⟩
            refine ⟨b, _, n, rfl, upd_same, by omega, fun ms p hp hm hn2 np => ?_⟩
            have e : ms = srtU ns := srt_uniq hp (srtU_srt ns) fun k => by rw [hm k, srtU_mem]; simp
            subst e
            have S2 := S1.fresh (o := SetO X.w b (fun j => decide (j ∈ ns)) n) nb rfl
            exact h1 _ _ F1 (S2.fresh np rfl) (Same.refl _) (S2.newF np (.lst (Reps.ofInts _)))
          · cases q3
      · cases q1
    · exact h1.elim
/-! ### comprehensions kept as they are, on one line -/
theorem tE_tF {m : En → R D} {Q : VK} (hl : ∀ env d e, m env = .ok d e → lockO d = false) (q : tE c W m σ H Q) : tF c W m σ H Q := by
  obtain ⟨env, F, S, q⟩ := q
  refine ⟨env, F, S, ?_⟩
  cases z : m env with
  | ok d e1 =>
    rw [z] at q
    intro v H1 F1 S1 s1 ⟨a, o, ev, h1, h2, h3, _, h4, h5⟩
    subst ev
    obtain ⟨S2, s2⟩ := S1.freeze h1 h2 h3 h4 h5
    exact q _ H1 _ S2 (s1.trans s2) ((h5.mono s2).rep (hl _ _ _ z) upd_same)
  | er x e1 =>
    rw [z] at q
    exact q
  | no =>
    rw [z] at q
    exact q
theorem mLc_lst {mi : En → R (List D)} {T : Tg} {t : En → R Bool} {m : En → R D} {vs : List Nat} (env : En) (d : D) (e : En) (h : mLc mi T t m vs env = .ok d e) : lockO d = false := by
  unfold mLc at h
  cases z : mi env with
  | ok ds e1 =>
    rw [z] at h
    have h' : (if ds.length ≤ lim then (lcL T t m vs ds (wipeE e1 vs)).bind fun ys e' => R.ok (D.lst ys) (backE e1 e' vs) else .no) = .ok d e := h
    split at h'
    · cases z2 : lcL T t m vs ds (wipeE e1 vs) with
      | ok ys e2 =>
        rw [z2] at h'
        cases h'
        rfl
      | er x e2 =>
        rw [z2] at h'
        cases h'
      | no =>
        rw [z2] at h'
        cases h'
    · cases h'
  | er x e1 =>
    rw [z] at h
    cases h
  | no =>
    rw [z] at h
    cases h
theorem rs_lcZ {i : Nat} {y : Str} {py : Pos} {elt tg iter : Expr} {ifs : List Expr} {scope : Scope} {pos spos : Pos} {mi : En → R (List PV.D)} {T : Tg} {t : En → R Bool} {m : En → R PV.D} {own : List (Str × Nat)} (hc : X.calm = true) (hN : X.N.Nodup) (hy : X.N[i]? = some y) (hyl : X.env.scope.names.lookup y = some .local)
    (hsw : swapsWith (.ListComp elt [⟨tg, iter, ifs, 0⟩] scope pos) (some (.Name y py)) spos.line X.env = pure true) (ok : BlkOk X.N X.env.scope scope own) (hT : okT (own.map (·.2)) T = true) (hi : PI X tg iter (tI c W mi))
    (hg : ∀ (s : Shared) (H : Hp) (C : Addr) (cl : List (Str × Addr)) (fp : List Addr), PG (X.blk s H scope (compEnvC scope cl C X.env) fp) tg (tGx c T)) (ht : ∀ (s : Shared) (H : Hp) (C : Addr) (cl : List (Str × Addr)) (fp : List Addr), PTs (X.blk s H scope (compEnvC scope cl C X.env) fp) ifs (tTx c t))
    (he : ∀ (s : Shared) (H : Hp) (C : Addr) (cl : List (Str × Addr)) (fp : List Addr), PE (X.blk s H scope (compEnvC scope cl C X.env) fp) elt (tEx c m)) (hs : ∀ x, foldedSetIterable iter X.env x = pure x := by intro _; rfl) :
    PS X (.Assign [.Name y py] (.ListComp elt [⟨tg, iter, ifs, 0⟩] scope pos) spos) (tS c W (sSet i (mLc mi T t m (own.map (·.2))))) := (ps_setLc hc hN hy hyl hsw hi ok hg ht he hs).imp fun Z σ H q =>
  lc_ok hT (tE_tF mLc_lst (set_ok q))
end
end PV

namespace PV
open PySem PySem.Spec PyProof.Rows L2
/-! ### dicts by data -/
def keyD : D → Option Key
  | .int i => some (.inl i)
  | .str s => some (.inr s)
  | _ => none
def dKey : Key → D
  | .inl i => .int i
  | .inr s => .str s
def valD (kvs : List (Key × D)) (k : Key) : Option D := match kvs with
  | [] => none
  | (j, d) :: r => if j = k then some d else valD r k
def hasD (kvs : List (Key × D)) (k : Key) : Bool := (valD kvs k).isSome
def putD (kvs : List (Key × D)) (k : Key) (d : D) : List (Key × D) := if (valD kvs k).isSome = true then kvs.map (fun kv => if kv.1 = k then (kv.1, d) else kv) else kvs ++ [(k, d)]
section
variable {g : Gc} {F H : Hp}
theorem RepK.val (k : Key) : ∀ {kvs : List (Key × D)} {vs : List (Key × V)}, RepK g F kvs vs → (∀ d, valD kvs k = some d → ∃ v, valV vs k = some v ∧ Rep g F d v) ∧ (valD kvs k = none → valV vs k = none)
  | _, _, .nil => ⟨fun d e => (by unfold valD at e; cases e), fun _ => rfl⟩
  | _, _, @RepK.cons _ _ j x xs v vs h t => by
    obtain ⟨h1, h2⟩ := RepK.val k t
    by_cases e : j = k
    · refine ⟨fun d z => ?_, fun z => ?_⟩
      · unfold valD at z
        rw [if_pos e] at z
        cases z
        exact ⟨v, valV_pos e, h⟩
      · unfold valD at z
        rw [if_pos e] at z
        cases z
    · refine ⟨fun d z => ?_, fun z => ?_⟩
      · unfold valD at z
        rw [if_neg e] at z
        rw [valV_neg (p := (j, v)) e]
        exact h1 d z
      · unfold valD at z
        rw [if_neg e] at z
        rw [valV_neg (p := (j, v)) e]
        exact h2 z
theorem RepK.some_eq {k : Key} {kvs : List (Key × D)} {vs : List (Key × V)} (r : RepK g F kvs vs) : (valV vs k).isSome = (valD kvs k).isSome := by
  obtain ⟨h1, h2⟩ := r.val k
  cases q : valD kvs k with
  | none =>
    rw [h2 q]
    rfl
  | some d =>
    obtain ⟨v, e, _⟩ := h1 d q
    rw [e]
    rfl
theorem RepK.put {k : Key} {d : D} {v : V} (rv : Rep g F d v) {kvs : List (Key × D)} {vs : List (Key × V)} (r : RepK g F kvs vs) : RepK g F (putD kvs k d) (putK vs k v) := by
  have mp : ∀ {kvs : List (Key × D)} {vs : List (Key × V)}, RepK g F kvs vs → RepK g F (kvs.map fun kv => if kv.1 = k then (kv.1, d) else kv) (vs.map fun kv => if kv.1 = k then (kv.1, v) else kv) := by
    intro kvs
    induction kvs with
    | nil =>
      intro vs r
      cases r
      exact .nil
    | cons p kvs ih =>
      intro vs r
      cases r with
      | @cons j x _ u us h t =>
        rw [List.map_cons, List.map_cons]
        by_cases e : j = k
        · rw [if_pos e, if_pos e]
          exact .cons rv (ih t)
        · rw [if_neg e, if_neg e]
          exact .cons h (ih t)
  have ap : ∀ {kvs : List (Key × D)} {vs : List (Key × V)}, RepK g F kvs vs → RepK g F (kvs ++ [(k, d)]) (vs ++ [(k, v)]) := by
    intro kvs
    induction kvs with
    | nil =>
      intro vs r
      cases r
      exact .cons rv .nil
    | cons p kvs ih =>
      intro vs r
      cases r with
      | cons h t => exact .cons h (ih t)
  unfold putD putK
  rw [valV_any, r.some_eq]
  split
  · exact mp r
  · exact ap r
theorem keyD_ok {d : D} {k : Key} {v : V} (e : keyD d = some k) (h : Rep1 g F H d v) : v = kV k := by
  unfold keyD at e
  split at e
  · cases e
    rw [h.int_]
    rfl
  · cases e
    rw [h.str_]
    rfl
  · cases e
theorem dKey_ok {k : Key} : Rep g F (dKey k) (kV k) := by
  cases k with
  | inl i => exact .int
  | inr s => exact .str
end
/-! ### x[k] of all kinds -/
def oDIx : List D → Option D
  | [.dik kvs, k] => (keyD k).bind (valD kvs)
  | _ => none
def oIxx : List D → Option D
  | [.dik kvs, k] => (keyD k).bind (valD kvs)
  | ds => oIx ds
section
variable {c : Cn} {W : WX} {X : Cx} {env : En} {σ : L2.St} {H F : Hp}
theorem re_ixx {a b : Expr} {o1 o2 : Od} {pos : Pos} (hK : c.K = X.K) (hu : X.A.units + 64 < cLine) (ha : PE X a (o1.t c W)) (hb : PE X b (o2.t c W)) (hs : PlainIx b) (hs2 : NoSl b) : PE X (.Subscript a b pos) (tE c W (mOp oIxx [o1, o2])) :=
  ((pe_dget (by omega) ha hb hs2).or (pe_ix ix_seq ha hb hs)).imp fun σ H Q q => by
    have q := mOp_or (f1 := oDIx) (f2 := oIx) (fun ds => by
      unfold oIxx
      split
      · exact .inl rfl
      · exact .inr rfl) q
    rcases q with q | q
    · refine .inl (tOp_ok (os := [o1, o2]) (r := r2 fun x y H2 Q => ∃ a v, x = .ref a ∧ DGet H2 a y (some v) ∧ Q v H2) (fun ds vs d F H Q w R e k => ?_) q)
      unfold oDIx at e
      split at e
      · rename_i kvs kd
        obtain ⟨x, y, rfl, h1, h2⟩ := R.two
        cases q1 : keyD kd with
        | none =>
          rw [q1] at e
          cases e
        | some ky =>
          rw [q1] at e
          obtain ⟨a, vs, rfl, h3, h4⟩ := h1.dik_ w
          obtain ⟨v, h5, h6⟩ := (h4.val ky).1 d e
          exact ⟨a, v, rfl, .inl ⟨vs, ky, h3, keyD_ok q1 h2, h5.symm⟩, k v H F (Go.refl w) h6⟩
      · cases e
    · exact .inr (tOp_ok (r := r2 (rIx X.K)) (by rw [← hK]; exact oa_ix) q)
/-! ### in -/
def rDIn (neg : Bool) : R2 := fun y x H Q => ∃ a o, x = .ref a ∧ DGet H a y o ∧ Q (.bl (if neg then !o.isSome else o.isSome)) H
theorem or_din (hu : X.A.units + 64 < cLine) : OpR X (compareOp .In) (rDIn false) := by
  intro pins s σ H y x u v Q I ry rx h
  obtain ⟨a, o, rfl, g, q⟩ := h
  cases rx
  exact d_in (by omega) I g ry fun s3 I3 => ⟨.bl o.isSome, H, I3, rfl, q⟩
theorem or_dnotin (hu : X.A.units + 64 < cLine) : OpR X (compareOp .NotIn) (rDIn true) := by
  intro pins s σ H y x u v Q I ry rx h
  obtain ⟨a, o, rfl, g, q⟩ := h
  cases rx
  exact d_notIn (by omega) I g ry fun s3 I3 => ⟨.bl (!o.isSome), H, I3, rfl, q⟩
def rInX (K : PySem.W.Frag) (neg : Bool) : R2 := fun x y H Q => rIn K neg x y H Q ∨ rDIn neg x y H Q
def inX (neg : Bool) : List D → Option D
  | [k, .dik kvs] => (keyD k).map fun k => .bl (if neg then !(valD kvs k).isSome else (valD kvs k).isSome)
  | ds => inD neg ds
theorem oa_inX {g : Gc} (neg : Bool) : OpA g (r2 (rInX g.K neg)) (inX neg) := fun ds vs d F H Q w R e k => by
  unfold inX at e
  split at e
  · rename_i kd kvs
    obtain ⟨x, y, rfl, h1, h2⟩ := R.two
    cases q1 : keyD kd with
    | none =>
      rw [q1] at e
      cases e
    | some ky =>
      rw [q1] at e
      cases e
      obtain ⟨a, vs, rfl, h3, h4⟩ := h2.dik_ w
      refine .inr ⟨a, valV vs ky, rfl, .inl ⟨vs, ky, h3, keyD_ok q1 h1, rfl⟩, ?_⟩
      rw [h4.some_eq]
      exact k _ H F (Go.refl w) .bl
  · have h := oa_in (g := g) neg ds vs d F H Q w R e k
    match vs, h with
    | [x, y], h => exact .inl h
/-! ### d.get(k, x) -/
def mGet (o : Od) (ms : List (En → R D)) (f : List (Key × D) → List D → Option D) : En → R D := fun env => match o with
  | .m h => (h env).bind fun d e => (match d with
    | .dik kvs => (evS ms e).bind fun ds e' => (match f kvs ds with
        | some y => .ok y e'
        | none => .no)
    | _ => .no)
  | .s i => match val env i with
    | some (.dik _) => (evS ms env).bind fun ds e' => (match val e' i with
      | some (.dik kvs) => (match f kvs ds with
        | some y => .ok y e'
        | none => .no)
      | _ => .no)
    | _ => .no
theorem get_ok {o : Od} {ms : List (En → R D)} {f : List (Key × D) → List D → Option D} {r : Addr → List V → Hp → VK → Prop}
    (hr : ∀ {F H : Hp} {a : Addr} {kvs : List (Key × D)} {vs : List (Key × V)} {ds : List D} {ys : List V} {y : D} {Q : VK}, WF c.toGc F H → Rd H a (.dK vs) → RepK c.toGc F kvs vs → Reps c.toGc F ds ys → f kvs ds = some y →
      (∀ v, Rep c.toGc F y v → Q v H) → r a ys H Q)
    {Q : VK} (q : tE c W (mGet o ms f) σ H Q) : o.t c W σ H fun x H1 => ∃ a, x = .ref a ∧ IsD H1 a ∧ tMs c W ms σ H1 fun ys H2 => r a ys H2 Q := by
  obtain ⟨env, F, S, q⟩ := q
  unfold mGet at q
  cases o with
  | m h =>
    refine tM_bind S q fun d e v H1 F1 S1 s1 r1 h1 => ?_
    split at h1
    · rename_i kvs
      cases r1 with
      | @dik a od _ vs ha rk =>
        refine ⟨a, rfl, .inl ⟨vs, .inr ⟨od, S1.wf.sub _ _ ha⟩⟩, ?_⟩
        refine tMsA ms S1 h1 fun ds e' ys H2 F2 S2 s2 r2 hl h2 => ?_
        split at h2
        · rename_i y hy
          exact hr S2.wf (.inr ⟨od, S2.wf.sub _ _ (s2 _ _ ha)⟩) (rk.mono s2) r2 hy fun v rv => h2 v H2 F2 S2 (Same.refl _) rv
        · exact h2.elim
    · exact h1.elim
  | s i =>
    have q : Okp c W σ F (rlE c) Q (match val env i with
    | some (.dik _) => (evS ms env).bind fun ds e' => (match val e' i with
      | some (.dik kvs) => (match f kvs ds with
        | some y => .ok y e'
        | none => .no)
      | _ => .no)
    | _ => .no) := q
    split at q
    · rename_i kvs0 hv
      obtain ⟨v, g1, g2⟩ := S.val hv
      obtain ⟨a, vs0, rfl, g3, _⟩ := g2.dik_ S.wf
      refine ⟨_, g1, a, rfl, .inl ⟨vs0, g3⟩, ?_⟩
      refine tMsA ms S q fun ds e' ys H2 F2 S2 s2 r2 hl h2 => ?_
      split at h2
      · rename_i kvs hv2
        split at h2
        · rename_i y hy
          obtain ⟨v2, k1, k2⟩ := S2.val hv2
          obtain ⟨b, vs, rfl, k3, k4⟩ := k2.dik_ S2.wf
          rw [g1] at k1
          cases k1
          exact hr S2.wf k3 k4 r2 hy fun v rv => h2 v H2 F2 S2 (Same.refl _) rv
        · exact h2.elim
      · exact h2.elim
    · exact q.elim
def fGet2 (kvs : List (Key × D)) : List D → Option D
  | [k, x] => (keyD k).map fun k => (valD kvs k).getD x
  | _ => none
def fGet1 (kvs : List (Key × D)) : List D → Option D
  | [k] => (keyD k).map fun k => (valD kvs k).getD .non
  | _ => none
theorem valD_get {g : Gc} {F : Hp} {kvs : List (Key × D)} {vs : List (Key × V)} {k : Key} {x : D} {y : V} (r : RepK g F kvs vs) (rx : Rep g F x y) : Rep g F ((valD kvs k).getD x) ((valV vs k).getD y) := by
  obtain ⟨h1, h2⟩ := r.val k
  cases q : valD kvs k with
  | none =>
    rw [h2 q]
    exact rx
  | some d =>
    obtain ⟨v, e, rv⟩ := h1 d q
    rw [e]
    exact rv
theorem re_get2 {o e f : Expr} {od : Od} {m1 m2 : En → R D} {apos cpos : Pos} (hu : X.A.units + 64 < cLine) (ho : PE X o (od.t c W)) (he : PE X e (tE c W m1)) (hf : PE X f (tE c W m2)) (m : M2 X o "get" apos e f cpos := by exact ⟨rfl, rfl, rfl, rfl⟩) :
    PE X (.Call (.Attribute o "get" apos) [e, f] [] cpos) (tE c W (mGet od [m1, m2] fGet2)) := (pe_dget2 (by omega) ho he hf m).imp fun σ H Q q =>
  get_ok (r := fun a ys H2 Q => match ys with
    | [y, z] => ∃ o, DGet H2 a y o ∧ Q (o.getD z) H2
    | _ => False) (fun {F H a kvs vs ds ys y Q} w h1 h2 h3 h4 k => by
    unfold fGet2 at h4
    split at h4
    · rename_i kd x
      cases q1 : keyD kd with
      | none =>
        rw [q1] at h4
        cases h4
      | some ky =>
        rw [q1] at h4
        cases h4
        match ys, h3 with
        | [u, z], .cons r1 (.cons r2 .nil) => exact ⟨valV vs ky, .inl ⟨vs, ky, h1, keyD_ok q1 (.st r1 : Rep1 _ F H _ _), rfl⟩, k _ (valD_get h2 r2)⟩
    · cases h4) q
theorem re_get1 {o e : Expr} {od : Od} {m1 : En → R D} {apos cpos : Pos} (hu : X.A.units + 64 < cLine) (ho : PE X o (od.t c W)) (he : PE X e (tE c W m1)) (m : M1 X o "get" apos e cpos := by exact ⟨rfl, rfl, rfl, rfl⟩) :
    PE X (.Call (.Attribute o "get" apos) [e] [] cpos) (tE c W (mGet od [m1] fGet1)) := (pe_dget1 (by omega) ho he m).imp fun σ H Q q =>
  get_ok (r := fun a ys H2 Q => match ys with
    | [y] => ∃ o, DGet H2 a y o ∧ Q (o.getD .non) H2
    | _ => False) (fun {F H a kvs vs ds ys y Q} w h1 h2 h3 h4 k => by
    unfold fGet1 at h4
    split at h4
    · rename_i kd
      cases q1 : keyD kd with
      | none =>
        rw [q1] at h4
        cases h4
      | some ky =>
        rw [q1] at h4
        cases h4
        match ys, h3 with
        | [u], .cons r1 .nil => exact ⟨valV vs ky, .inl ⟨vs, ky, h1, keyD_ok q1 (.st r1 : Rep1 _ F H _ _), rfl⟩, k _ (valD_get h2 .non)⟩
    · cases h4) q
/-! ### {} -/
theorem re_dnew {pos : Pos} : PE X (.Dict [] [] pos) (tF c W (mK (.dik []))) := pe_dnewK.imp fun σ H Q ⟨env, F, S, q⟩ => fun p n => q _ _ F (S.fresh n rfl) (Same.refl _) (S.newF n (.dik .nil))
theorem re_dnewT {pos : Pos} : PE X (.Dict [] [] pos) (tF c W (mK (.dit []))) := pe_dnewT.imp fun σ H Q ⟨env, F, S, q⟩ => fun p n => q _ _ F (S.fresh n rfl) (Same.refl _) (S.newF n (.dit .nil))
/-! ### x[k] = e, x an own list or dict -/
def kSub (x k d : D) : Option D := match x with
  | .lst xs => (kSetIx xs k d).map .lst
  | .dik kvs => if kvs.length < lim then (keyD k).map fun k => .dik (putD kvs k d) else none
  | _ => none
def sSub (i : Nat) (mk me : En → R D) : En → Rs := fun env => (me env).bs fun d e => match val e i with
  | none => .no
  | some _ => (mk e).bs fun k e' => match ownV e' i with
    | some x => (match kSub x k d with
      | some y => .nx (setV e' i y)
      | none => .no)
    | none => .no
/-- .. a dict -/
def sSubD (i : Nat) (mk me : En → R D) : En → Rs := fun env => (me env).bs fun d e => match val e i with
  | none => .no
  | some _ => (mk e).bs fun k e' => match ownV e' i with
    | some (.dik kvs) => (match kSub (.dik kvs) k d with
      | some y => .nx (setV e' i y)
      | none => .no)
    | _ => .no
theorem subD_ok {Z : Ends} {i : Nat} {mk me : En → R D} (q : tS c W (sSubD i mk me) Z σ H) : sDPut (tVar i) (tE c W mk) (tE c W me) Z σ H := by
  obtain ⟨env, F, S, q⟩ := q
  refine tM_bs S q fun d e v H1 F1 S1 s1 r1 h1 => ?_
  split at h1
  · exact h1.elim
  · rename_i d' hv
    obtain ⟨u, g1, _⟩ := S1.val hv
    refine ⟨u, g1, ?_⟩
    refine tM_bs S1 h1 fun k e2 y H2 F2 S2 s2 r2 h2 => ?_
    split at h2
    · rename_i kvs z
      obtain ⟨a, o, ow, k1, k2, k3, k4⟩ := S2.own_at z
      have ev : u = .ref a := by
        have e1 := ow.1
        rw [g1] at e1
        cases e1
        rfl
      subst ev
      have k3' := k3
      cases k3 with
      | @dik _ vs rx =>
        split at h2
        · rename_i ys hk
          unfold kSub at hk
          have hk' : (if kvs.length < lim then (keyD k).map fun k => D.dik (putD kvs k d) else none) = some ys := hk
          split at hk'
          · rename_i hl
            cases q1 : keyD k with
            | none =>
              rw [q1] at hk'
              cases hk'
            | some ky =>
              rw [q1] at hk'
              cases hk'
              exact ⟨a, _, rfl, .inl ⟨vs, ky, k1, keyD_ok q1 (.st r2 : Rep1 _ F2 H2 _ _), lim_lt (by rw [← rx.length]; exact hl), rfl⟩, h2 σ _ F2 (S2.wr z ow k1 k2 k3' (.dik (rx.put (r1.mono s2)))) (Same.refl _)⟩
          · cases hk'
        · exact h2.elim
    · exact h2.elim
theorem sub_or {i : Nat} {mk me : En → R D} (env : En) : sSub i mk me env = sSetIx i mk me env ∨ sSub i mk me env = sSubD i mk me env := by
  unfold sSub sSetIx sSubD
  cases me env with
  | ok d e =>
    show (match val e i with | none => Rs.no | some _ => _) = (match val e i with | none => Rs.no | some _ => _) ∨ (match val e i with | none => Rs.no | some _ => _) = (match val e i with | none => Rs.no | some _ => _)
    cases val e i with
    | none => exact .inl rfl
    | some _ =>
      cases mk e with
      | ok k e' =>
        show (match ownV e' i with | some x => _ | none => Rs.no) = (match ownV e' i with | some (.lst xs) => _ | _ => Rs.no) ∨ (match ownV e' i with | some x => _ | none => Rs.no) = (match ownV e' i with | some (.dik xs) => _ | _ => Rs.no)
        cases ownV e' i with
        | none => exact .inl rfl
        | some x =>
          cases x with
          | lst xs =>
            refine .inl ?_
            unfold kSub
            show (match (kSetIx xs k d).map D.lst with | some y => Rs.nx (setV e' i y) | none => Rs.no) = (match kSetIx xs k d with | some ys => Rs.nx (setV e' i (D.lst ys)) | none => Rs.no)
            cases kSetIx xs k d <;> rfl
          | dik kvs => exact .inr rfl
          | _ => exact .inl rfl
      | er x e => exact .inl rfl
      | no => exact .inl rfl
  | er x e => exact .inl rfl
  | no => exact .inl rfl
theorem rs_sub {i : Nat} {a e idx : Expr} {mk me : En → R D} {pos pos' : Pos} (hu : X.A.units + 64 < cLine) (ho : PE X a (tVar i)) (hi : PE X idx (tE c W mk)) (he : PE X e (tE c W me))
    (ha : ∀ v, assign (.Subscript a idx pos') X.env v = (do
      let ov ← holding [v] (eval a X.env)
      let iv ← holding [v, ov] (eval idx X.env)
      standAt pos'
      holding [v, ov, iv] (setItem ov iv v)
      release [v, ov, iv] []) := by intro _; rfl)
    (hs : swapsWithSole [.Subscript a idx pos'] e pos.line X.env = pure false := by rfl) (hw : swappedStores [.Subscript a idx pos'] e X.env = pure none := by rfl)
    (h1 : (assignEach [.Subscript a idx pos'] X.env).map (·.2) = [assign (.Subscript a idx pos') X.env] := by rfl) (hs2 : swapsWith e (some (.Subscript a idx pos')) pos.line X.env = pure false := by rfl) : PS X (.Assign [.Subscript a idx pos'] e pos) (tS c W (sSub i mk me)) :=
  ((rs_setIx (c := c) (W := W) ho hi he ha hs hw h1).or (ps_dput (by omega) ho hi he hs2)).imp fun Z σ H ⟨env, F, S, q⟩ => by
    rcases sub_or (i := i) (mk := mk) (me := me) env with h | h
    · rw [h] at q
      exact .inl ⟨env, F, S, q⟩
    · rw [h] at q
      exact .inr (subD_ok ⟨env, F, S, q⟩)
end
end PV

namespace PV
open PySem PySem.Spec PyProof.Rows L2
section
variable {c : Cn} {W : WX} {X : Cx} {env : En} {σ : L2.St} {H F : Hp}
/-! ### what is walked: a list, a tuple, a kept dict, a text -/
def itD : D → Option (List D)
  | .dik kvs => some (kvs.map fun kv => dKey kv.1)
  | .str z => if z.length ≤ lim then some (z.cps.toList.map fun ch => .str ⟨#[ch]⟩) else none
  | d => seqD d
def iAny (m : En → R D) : En → R (List D) := fun env => (m env).bind fun d e => match itD d with
  | some xs => .ok xs e
  | none => .no
theorem RepK.get {g : Gc} {F : Hp} : ∀ {kvs : List (Key × D)} {vs : List (Key × V)} {i : Nat} {k : Key} {d : D}, RepK g F kvs vs → kvs[i]? = some (k, d) → ∃ v, vs[i]? = some (k, v) ∧ Rep g F d v
  | _, _, _, _, _, .nil, e => by simp at e
  | _, _, 0, _, _, .cons h t, e => by
    cases Option.some.inj e
    exact ⟨_, rfl, h⟩
  | _, _, i + 1, _, _, .cons h t, e => RepK.get (i := i) t e
theorem itS_keys {g : Gc} {F : Hp} {a : Addr} {o : Obj} {kvs : List (Key × D)} {vs : List (Key × V)} (h : F a = some (.frz o (.dK vs))) (r : RepK g F kvs vs) : ItS g F (Itk a o vs) (kvs.map fun kv => dKey kv.1) := by
  refine ⟨fun i d F' H' e s w => ?_, fun F' H' s w => ⟨w.sub _ _ (s _ _ h), by rw [List.length_map, r.length]; exact Nat.le_refl _⟩⟩
  rw [List.getElem?_map] at e
  cases q : kvs[i]? with
  | none =>
    rw [q] at e
    cases e
  | some kv =>
    obtain ⟨k, x⟩ := kv
    rw [q] at e
    cases e
    obtain ⟨v, hv, rv⟩ := r.get q
    refine ⟨⟨w.sub _ _ (s _ _ h), (List.getElem?_eq_some_iff.mp hv).1⟩, fun x H'' y => ?_⟩
    obtain ⟨e1, k2, v2, e2, e3⟩ := y
    subst e1 e3
    rw [hv] at e2
    cases e2
    exact ⟨F', Go.refl w, dKey_ok⟩
theorem itS_str {g : Gc} {F : Hp} {z : Str} : ItS g F (Its z) (z.cps.toList.map fun ch => .str ⟨#[ch]⟩) := by
  refine ⟨fun i d F' H' e s w => ?_, fun F' H' s w => ?_⟩
  · rw [List.getElem?_map, Array.getElem?_toList] at e
    cases q : z.cps[i]? with
    | none =>
      rw [q] at e
      cases e
    | some ch =>
      rw [q] at e
      cases e
      refine ⟨(Array.getElem?_eq_some_iff.mp q).1, fun x H'' ⟨e1, c2, e2, e3⟩ => ?_⟩
      subst e1 e3
      rw [q] at e2
      cases e2
      exact ⟨F', Go.refl w, .str⟩
  · show z.cps.size ≤ _
    simp
theorem any_ok {m : En → R D} (hK : c.K = X.K) {Q : It → Hp → Prop} (q : tI c W (iAny m) σ H Q) : ((iList X.K (tE c W m) σ H Q ∨ iTup X.K (tE c W m) σ H Q) ∨ iKeys (tE c W m) σ H Q) ∨ iStr (tE c W m) σ H Q := by
  obtain ⟨env, F, S, q⟩ := q
  cases z : m env with
  | ok d e1 =>
    have q' : Okp c W σ F (rlI c) Q (match itD d with | some xs => .ok xs e1 | none => .no) := by
      unfold iAny at q
      rw [z] at q
      exact q
    cases d with
    | dik kvs =>
      refine .inl (.inr ⟨env, F, S, ?_⟩)
      rw [z]
      intro v H1 F1 S1 s1 rv
      cases rv with
      | @dik a o _ vs h r =>
        exact ⟨a, o, rfl, .inl ⟨vs, S1.wf.sub _ _ h, q' _ H1 F1 S1 s1 (itS_keys h r)⟩⟩
    | str x =>
      refine .inr ⟨env, F, S, ?_⟩
      rw [z]
      intro v H1 F1 S1 s1 rv
      cases rv
      have q2 : Okp c W σ F (rlI c) Q (match (if x.length ≤ lim then some (x.cps.toList.map fun ch => D.str ⟨#[ch]⟩) else none) with | some xs => .ok xs e1 | none => .no) := q'
      split at q2
      · rename_i xs hx
        split at hx
        · cases hx
          exact ⟨x, rfl, q2 _ H1 F1 S1 s1 itS_str⟩
        · cases hx
      · exact q2.elim
    | _ =>
      refine .inl (.inl (seq_ok (c := c) (W := W) hK ⟨env, F, S, ?_⟩))
      unfold iSeq
      rw [z]
      exact q'
  | er x e1 =>
    refine .inl (.inl (seq_ok (c := c) (W := W) hK ⟨env, F, S, ?_⟩))
    unfold iSeq
    unfold iAny at q
    rw [z] at q ⊢
    exact q
  | no =>
    unfold iAny at q
    rw [z] at q
    exact q.elim
theorem ri_any {tg e : Expr} {m : En → R D} (hK : c.K = X.K) (he : PE X e (tE c W m)) : PI X tg e (tI c W (iAny m)) := ((((pi_list he).or (pi_tup he)).or (pi_keys he)).or (pi_str he)).imp fun σ H Q q => any_ok hK q
end
end PV

namespace PV
open PySem PySem.Spec PyProof.Rows L2
theorem tk0 {X : Cx} : Takes X W0 := fun u s' ⟨_, _, _, _, _, _, _, _, _, _, _, _, _, _, _, _, w⟩ => w.elim
/-! ### names of built-ins -/
theorem bt_len : bootBuiltins "len" = some (.builtin "len") := by decide +kernel
theorem bt_sum : bootBuiltins "sum" = some (.builtin "sum") := by decide +kernel
theorem bt_all : bootBuiltins "all" = some (.builtin "all") := by decide +kernel
theorem bt_any : bootBuiltins "any" = some (.builtin "any") := by decide +kernel
theorem bt_abs : bootBuiltins "abs" = some (.builtin "abs") := by decide +kernel
theorem bt_max : bootBuiltins "max" = some (.builtin "max") := by decide +kernel
theorem bt_min : bootBuiltins "min" = some (.builtin "min") := by decide +kernel
theorem bt_sorted : bootBuiltins "sorted" = some (.builtin "sorted") := by decide +kernel
theorem bt_isinstance : bootBuiltins "isinstance" = some (.builtin "isinstance") := by decide +kernel
theorem bt_int : bootBuiltins "int" = some (.type "int") := by decide +kernel
theorem bt_bool : bootBuiltins "bool" = some (.type "bool") := by decide +kernel
theorem bt_str : bootBuiltins "str" = some (.type "str") := by decide +kernel
theorem bt_tuple : bootBuiltins "tuple" = some (.type "tuple") := by decide +kernel
theorem bt_list : bootBuiltins "list" = some (.type "list") := by decide +kernel
theorem bt_dict : bootBuiltins "dict" = some (.type "dict") := by decide +kernel
section
variable {c : Cn} {W : WX} {X : Cx} {env : En} {σ : L2.St} {H F : Hp}
theorem op_inX (hu : X.A.units + 64 < cLine) : OpR X (compareOp .In) (rInX X.K false) := op_in_seq.or (or_din hu)
theorem op_notinX (hu : X.A.units + 64 < cLine) : OpR X (compareOp .NotIn) (rInX X.K true) := op_notIn_seq.or (or_dnotin hu)
/-! ### in place -/
abbrev oAddI : List D → Option D := o2I (fun _ _ => true) fun i j => .int (i + j)
theorem oa_addI {g : Gc} : OpA g (r2 (rI0 fun i j => .int (i + j))) oAddI := oa_rI0 fun _ _ _ => .int
/-- a + b, a * b: a new list -/
theorem re_opF {op : Operator} {r : R2} {f : List D → Option D} {a b : Expr} {o1 o2 : Od} {pos : Pos} (ho : OpR X (binaryOp op) r) (hf : OpF c.toGc (r2 r) f) (ha : PE X a (o1.t c W)) (hb : PE X b (o2.t c W)) : PE X (.BinOp a op b pos) (tF c W (mOp f [o1, o2])) :=
  (pe_op ho ha hb).imp fun _ _ _ q => tOpF_ok hf q
/-! ### the law's end -/
def spLaw (K : PySem.W.Frag) : Sp := fun vs H Q _ => ∃ (a : Addr) (ns : List Int), vs = [.ref a] ∧ SqL K H a (ns.map V.int) ∧ ns.length ≤ 63 ∧ ∀ H', Q (.bl true) H'
theorem law_of {K : PySem.W.Frag} {mg : Str → Option Value} {f : List D → Rf} (h : ∀ ns : List Int, ns.length ≤ 63 → f [.ro (ns.map D.int)] = .ok (.bl true)) (vs : List V) (H : Hp) (Q : VK) (E : XK) (q : spLaw K vs H Q E) : spD ⟨K, mg, []⟩ false 1 f vs H Q E := by
  obtain ⟨a, ns, rfl, hS, hl, k⟩ := q
  refine ⟨rfl, noTbl H, [.ro (ns.map D.int)], ⟨fun b o e => (noTbl_of e).1, fun b o e t => noTbl_some e (fun ps z => by subst z; cases t), fun b ps e => (noTbl_of e).2 ps rfl, fun p hp => nomatch hp⟩, .cons (.ro ?_ (Reps.ofInts ns)) .nil, ?_⟩
  · rcases hS with (hS | ⟨o, hS⟩) | hS
    · exact .inl (.inl (noTbl_some hS fun ps z => by cases z))
    · exact .inl (.inr ⟨o, noTbl_some hS fun ps z => by cases z⟩)
    · exact .inr hS
  · rw [h ns hl]
    intro v H' F' g' rv
    have rv := rlQ_rep rv
    cases rv
    exact k H'
theorem cx_no {P : Program} {w : World} {H : Hp} {s : Shared} {e : Value} {s' : Shared} (h : L2.CX P w [] H s (fun _ _ _ => False) e s') : False := by
  obtain ⟨_, _, _, _, _, _, _, _, _, _, _, _, q⟩ := h
  exact q
end
end PV

namespace PV
open PySem PySem.Spec PyProof.Rows L2
section
variable {c : Cn} {W : WX} {X : Cx} {env : En} {σ : L2.St} {H F : Hp}
/-! ### several values at once, kept or new, into names (no swapped stores) -/
def RO (c : Cn) (e : En) (σ : L2.St) (F H : Hp) : Oe → D → V → Prop
  | .st _, d, v => Rep c.toGc F d v
  | .fr _, d, v => rlF c e σ F H d v
def noFr (v : V) : List Oe → List V → Prop
  | .fr _ :: os, w :: vs => w ≠ v ∧ noFr v os vs
  | .st _ :: os, _ :: vs => noFr v os vs
  | _, _ => True
inductive ROs (c : Cn) (e : En) (σ : L2.St) (F H : Hp) : List Oe → List D → List V → Prop
  | nil : ROs c e σ F H [] [] []
  | cons {o os d ds v vs} : RO c e σ F H o d v → ROs c e σ F H os ds vs → (∀ m, o = .fr m → noFr v os vs) → ROs c e σ F H (o :: os) (d :: ds) (v :: vs)
def evOe : List Oe → En → R (List D)
  | [], e => .ok [] e
  | o :: r, e => (o.ev e).bind fun d e1 => (evOe r e1).bind fun ds e2 => .ok (d :: ds) e2
def tOesK (c : Cn) (W : WX) : List Oe → TA
  | [] => tNil
  | o :: r => tCons (o.tk c W) (tOesK c W r)
theorem tOesK_kp (c : Cn) (W : WX) (H0 : Hp) : ∀ os : List Oe, tOesK (c.kp H0) W os = tOesK c W os
  | [] => rfl
  | o :: r => by
    show tCons (o.tk (c.kp H0) W) (tOesK (c.kp H0) W r) = _
    rw [tOesK_kp c W H0 r]
    rfl
theorem ROs.of_kp {e : En} {a : Addr} {u : HO} (h0 : c.H0 a = none) : ∀ {os : List Oe} {ds : List D} {vs : List V}, ROs (c.kp (upd c.H0 a u)) e σ F H os ds vs → ROs c e σ F H os ds vs ∧ noFr (.ref a) os vs
  | _, _, _, .nil => ⟨.nil, trivial⟩
  | _, _, _, @ROs.cons _ _ _ _ _ o os d ds v vs h t n => by
    obtain ⟨t1, t2⟩ := ROs.of_kp h0 t
    cases o with
    | st m => exact ⟨.cons h t1 (fun _ z => by cases z), t2⟩
    | fr m =>
      obtain ⟨b, w, ev, q1, q2, q3, q4, q5, q6⟩ := h
      have nb : b ≠ a := fun z => by
        subst z
        have q3' : upd c.H0 b u b = none := q3
        rw [upd_same] at q3'
        cases q3'
      have q3' : c.H0 b = none := by
        have q3' : upd c.H0 a u b = none := q3
        rw [upd_ne nb] at q3'
        exact q3'
      refine ⟨.cons ⟨b, w, ev, q1, q2, q3', q4, q5, q6⟩ t1 n, ?_, t2⟩
      intro z
      rw [ev] at z
      cases z
      exact nb rfl
theorem oes_ok : ∀ (os : List Oe) {c : Cn} {env : En} {H F : Hp} {K : List V → Hp → Prop} (S : SR c env σ H F)
    (h : ∀ ds e vs H1 F1, evOe os env = .ok ds e → SR c e σ H1 F1 → Same F F1 → ROs c e σ F1 H1 os ds vs → K vs H1) (hno : evOe os env ≠ .no)
    (her : ∀ x e, evOe os env = .er x e → ∀ cls dx H' F', SR c e σ H' F' → Same F F' → RepX c.toGc F' x cls dx → W cls dx σ H'), tOesK c W os σ H K
  | [], c, env, H, F, K, S, h, hno, her => h [] env [] H F rfl S (Same.refl _) .nil
  | o :: r, c, env, H, F, K, S, h, hno, her => by
    have e0 : evOe (o :: r) env = (o.ev env).bind fun d e1 => (evOe r e1).bind fun ds e2 => .ok (d :: ds) e2 := rfl
    rw [e0] at h hno her
    cases o with
    | st m =>
      refine ⟨c.H0, env, F, S, ?_⟩
      show Okp c W σ F (rlE c) _ (m env)
      change ∀ ds e vs H1 F1, (m env).bind _ = _ → _ at h
      change (m env).bind _ ≠ _ at hno
      change ∀ x e, (m env).bind _ = _ → _ at her
      cases z : m env with
      | ok d e1 =>
        rw [z] at h hno her
        intro v H1 F1 S1 s1 r1
        refine oes_ok r S1 (fun ds e vs H2 F2 z2 S2 s2 ro => h (d :: ds) e (v :: vs) H2 F2 ?_ S2 (s1.trans s2) (.cons (show Rep c.toGc F2 d v from Rep.mono s2 r1) ro fun _ z => by cases z)) (fun z2 => hno ?_) (fun x e z2 cls dx H' F' S' s' rx => her x e ?_ cls dx H' F' S' (s1.trans s') rx)
        · show (evOe r e1).bind _ = _
          rw [z2]
          rfl
        · show (evOe r e1).bind _ = _
          rw [z2]
          rfl
        · show (evOe r e1).bind _ = _
          rw [z2]
          rfl
      | er x e1 =>
        rw [z] at her
        exact her x e1 rfl
      | no =>
        rw [z] at hno
        exact absurd rfl hno
    | fr m =>
      refine ⟨c.H0, env, F, S, ?_⟩
      show Okp c W σ F (rlF c) _ (m env)
      change ∀ ds e vs H1 F1, (m env).bind _ = _ → _ at h
      change (m env).bind _ ≠ _ at hno
      change ∀ x e, (m env).bind _ = _ → _ at her
      cases z : m env with
      | ok d e1 =>
        rw [z] at h hno her
        intro v H1 F1 S1 s1 r1
        obtain ⟨a1, u1, ev, b1, b2, b3, hr1, b4, b5⟩ := r1
        subst ev
        have f01 : c.F0 a1 = none := S1.gr.f.free b2
        have K1 := S1.keep b1 b2 b3 b4
        have back : ∀ {e : En} {H2 F2 : Hp}, SR (c.kp (upd c.H0 a1 u1)) e σ H2 F2 → Same F1 F2 → SR c e σ H2 F2 ∧ rlF c e σ F2 H2 d (.ref a1) := fun {e H2 F2} S2 s2 => by
          obtain ⟨k1, k2, k3⟩ := S2.kept b5.ntbl hr1 f01
          exact ⟨S2.unkeep b3 hr1, a1, u1, rfl, k1, k2, b3, hr1, k3, b5.mono s2⟩
        have hh := oes_ok (K := fun vs H2 => K (.ref a1 :: vs) H2) r K1 (fun ds e vs H2 F2 z2 S2 s2 ro => by
          obtain ⟨S3, rl⟩ := back S2 s2
          obtain ⟨ro1, ro2⟩ := ro.of_kp b3
          refine h (d :: ds) e (.ref a1 :: vs) H2 F2 ?_ S3 (s1.trans s2) (.cons rl ro1 fun _ _ => ro2)
          show (evOe r e1).bind _ = _
          rw [z2]
          rfl) (fun z2 => hno (by
          show (evOe r e1).bind _ = _
          rw [z2]
          rfl)) (fun x e z2 cls dx H' F' S' s' rx => her x e (by
          show (evOe r e1).bind _ = _
          rw [z2]
          rfl) cls dx H' F' (back S' s').1 (s1.trans s') rx)
        rw [tOesK_kp] at hh
        exact hh
      | er x e1 =>
        rw [z] at her
        exact her x e1 rfl
      | no =>
        rw [z] at hno
        exact absurd rfl hno
/-! the names -/
def setsV : L2.St → List Nat → List V → L2.St
  | σ, i :: is, v :: vs => setsV (σ.set i (some v)) is vs
  | σ, _, _ => σ
def gNs (is : List Nat) : TGs := fun vs σ H Q => vs.length = is.length ∧ Q (setsV σ is vs) H
theorem rgn_nil : PGs X [] (gNs []) := pgs_nil.imp fun v σ H Q ⟨h1, h2⟩ => by
  cases v with
  | nil => exact ⟨rfl, h2⟩
  | cons a b => cases h1
theorem rgn_cons {i : Nat} {is : List Nat} {x : Str} {pos : Pos} {es : List Expr} (hN : X.N.Nodup) (hi : X.N[i]? = some x) (hx : Loc X.env.scope x) (h2 : PGs X es (gNs is)) (hf : X.fn x = true ∨ X.env.scope.names.lookup x = some .local := by first | exact .inl rfl | exact .inr rfl)
    (hs : (assignEach (.Name x pos :: es) X.env).map (·.2) = assign (.Name x pos) X.env :: (assignEach es X.env).map (·.2) := by rfl) : PGs X (.Name x pos :: es) (gNs (i :: is)) := (pgs_cons (pg_name hN hi hx hf) h2 hs).imp fun vs σ H Q ⟨h1, h2⟩ => by
  cases vs with
  | nil => cases h1
  | cons v vs => exact ⟨v, vs, rfl, Nat.succ.inj h1, h2⟩
def okIs (e : En) : List Nat → Bool
  | [] => true
  | i :: r => free e i && !r.contains i && okIs e r
def setAll : En → List Nat → List Oe → List D → En
  | e, i :: is, o :: os, d :: ds => setAll (e.set i (o.sl d)) is os ds
  | e, _, _, _ => e
def sMul (is : List Nat) (os : List Oe) : En → Rs := fun env => (evOe os env).bs fun ds e => if okIs e is = true ∧ is.length = os.length then .nx (setAll e is os ds) else .no
theorem ROs.len {e : En} : ∀ {os : List Oe} {ds : List D} {vs : List V}, ROs c e σ F H os ds vs → vs.length = os.length
  | _, _, _, .nil => rfl
  | _, _, _, .cons _ t _ => by simp [ROs.len t]
theorem okIs_set {e : En} {i : Nat} {s : Sl} : ∀ {is : List Nat}, i ∉ is → okIs e is = true → okIs (e.set i s) is = true
  | [], _, _ => rfl
  | j :: r, h, k => by
    unfold okIs at k ⊢
    rw [Bool.and_eq_true, Bool.and_eq_true] at k ⊢
    rw [List.mem_cons, not_or] at h
    exact ⟨⟨free_set h.1 k.1.1, k.1.2⟩, okIs_set h.2 k.2⟩
theorem RO.set {e : En} (S : SR c e σ H F) {i : Nat} {o o' : Oe} {d d' : D} {v w : V} (hi : i < e.length) (h : RO c e σ F H o' d' w) (hn : (∃ m, o = .fr m) → ∀ m, o' = .fr m → w ≠ v) : RO c (e.set i (o.sl d)) (σ.set i (some v)) F H o' d' w := by
  cases o' with
  | st m => exact h
  | fr m =>
    refine rlF_set S hi h fun a e1 e2 ⟨d2, e3⟩ => ?_
    have : ∃ m, o = .fr m := by
      cases o with
      | st m => rcases e3 with z | z <;> cases z
      | fr m => exact ⟨m, rfl⟩
    exact hn this m rfl (e1.trans e2.symm)
theorem ROs.set {e : En} (S : SR c e σ H F) {i : Nat} {o : Oe} {d : D} {v : V} (hi : i < e.length) : ∀ {os : List Oe} {ds : List D} {vs : List V}, ROs c e σ F H os ds vs → ((∃ m, o = .fr m) → noFr v os vs) → ROs c (e.set i (o.sl d)) (σ.set i (some v)) F H os ds vs
  | _, _, _, .nil, _ => .nil
  | _, _, _, @ROs.cons _ _ _ _ _ o' os d' ds w vs h t n, k => by
    refine .cons (RO.set S hi h fun z m e2 => ?_) (ROs.set S hi t fun z => ?_) n
    · have := k z
      subst e2
      exact this.1
    · have := k z
      cases o' with
      | st m => exact this
      | fr m => exact this.2
theorem setAll_ok : ∀ (is : List Nat) {os : List Oe} {ds : List D} {vs : List V} {e : En} {σ : L2.St}, SR c e σ H F → ROs c e σ F H os ds vs → okIs e is = true → is.length = os.length → SR c (setAll e is os ds) (setsV σ is vs) H F
  | [], _, _, _, e, σ, S, r, _, hl => by
    cases r with
    | nil => exact S
    | cons _ _ _ => cases hl
  | i :: is, _, _, _, e, σ, S, .nil, _, hl => by cases hl
  | i :: is, _, _, _, e, σ, S, @ROs.cons _ _ _ _ _ o os d ds v vs h t n, hk, hl => by
    unfold okIs at hk
    rw [Bool.and_eq_true, Bool.and_eq_true] at hk
    have hi := free_lt hk.1.1
    have nin : i ∉ is := by
      have := hk.1.2
      simpa using this
    have S1 : SR c (e.set i (o.sl d)) (σ.set i (some v)) H F := by
      cases o with
      | st m => exact S.set hk.1.1 h
      | fr m => exact S.setO hk.1.1 h
    exact setAll_ok is S1 (t.set S hi fun ⟨m, z⟩ => n m z) (okIs_set nin hk.2) (Nat.succ.inj hl)
theorem RO.new {e : En} {p : Addr} {u : HO} (n : H p = none) (nt : ∀ ps, u ≠ .tbl ps) {o : Oe} {d : D} {v : V} (h : RO c e σ F H o d v) (hF : F p = none) : RO c e σ (upd F p u) (upd H p u) o d v := by
  cases o with
  | st m => exact (show Rep c.toGc F d v from h).mono (Same_upd hF)
  | fr m =>
    obtain ⟨a, w, ev, q1, q2, q3, q4, q5, q6⟩ := h
    have na : a ≠ p := fun z => by
      subst z
      rw [n] at q1
      cases q1
    exact ⟨a, w, ev, by rw [upd_ne na]; exact q1, by rw [upd_ne na]; exact q2, q3, q4, q5, q6.mono (Same_upd hF)⟩
theorem ROs.new {e : En} {p : Addr} {u : HO} (n : H p = none) (nt : ∀ ps, u ≠ .tbl ps) (hF : F p = none) : ∀ {os : List Oe} {ds : List D} {vs : List V}, ROs c e σ F H os ds vs → ROs c e σ (upd F p u) (upd H p u) os ds vs
  | _, _, _, .nil => .nil
  | _, _, _, .cons h t k => .cons (RO.new n nt h hF) (ROs.new n nt hF t) k
theorem mul_ok {Z : Ends} {is : List Nat} {os : List Oe} (hK : c.K = X.K) (hl : os.length ≤ lim) (q : tS c W (sMul is os) Z σ H) : tAsg (tTup (tOesK c W os)) (gTup X.K is.length (gNs is)) Z σ H := by
  obtain ⟨env, F, S, q⟩ := q
  unfold sMul at q
  refine oes_ok os S (fun ds e vs H1 F1 z S1 s1 ro => ?_) (fun z => ?_) (fun x e z cls dx H' F' S' s' rx => ?_)
  · rw [z] at q
    have q : OkS c W F Z (if okIs e is = true ∧ is.length = os.length then .nx (setAll e is os ds) else .no) := q
    split at q
    · rename_i hk
      refine ⟨lim_line (by rw [ro.len]; exact hl), fun p n => ?_⟩
      have g2 := Go.frz S1.wf n (o := .tup vs) (fun ps z => by cases z)
      have hF := S1.wf.sub.free n
      refine ⟨p, vs, rfl, SqT.of upd_same, by rw [ro.len, hk.2], by rw [ro.len, hk.2], ?_⟩
      exact q _ _ _ (setAll_ok is (S1.go g2) (ro.new n (fun ps z => by cases z) hF) hk.1 hk.2) (s1.trans g2.gr.f)
    · exact q.elim
  · rw [z] at q
    exact q.elim
  · rw [z] at q
    exact q cls dx σ H' F' S' s' rx
theorem rok_nil : PA X [] (tOesK c W []) := pa_nil
theorem rok_cons {e : Expr} {es : List Expr} {o : Oe} {os : List Oe} (ha : ∀ H0, PE X e (o.t (c.kp H0) W)) (hr : PA X es (tOesK c W os)) (hs : starEach (e :: es) X.env = (false, eval e X.env) :: starEach es X.env := by rfl) : PA X (e :: es) (tOesK c W (o :: os)) := pa_cons (PEk ha) hr hs
theorem rs_mul {is : List Nat} {os : List Oe} {ts es : List Expr} {k1 k2 : Nat} {p1 p2 pos : Pos} (hK : c.K = X.K) (hc : X.calm = true) (ha : PA X es (tOesK c W os)) (hg : PGs X ts (gNs is)) (hl : os.length ≤ lim := by decide) (hst : (assignEach ts X.env).findIdx? (·.1) = none := by rfl) (hlen : (assignEach ts X.env).length = is.length := by rfl)
    (hs : swapsWithSole [.Tuple ts k1 p1] (.Tuple es k2 p2) pos.line X.env = pure false := by rfl) (hw : swappedStores [.Tuple ts k1 p1] (.Tuple es k2 p2) X.env = pure none := by rfl)
    (h1 : (assignEach [.Tuple ts k1 p1] X.env).map (·.2) = [assign (.Tuple ts k1 p1) X.env] := by rfl) : PS X (.Assign [.Tuple ts k1 p1] (.Tuple es k2 p2) pos) (tS c W (sMul is os)) :=
  (ps_asg (pe_tup ha) (pg_tup (n := is.length) hc hg hlen hst) hs hw h1).imp fun Z σ H q => mul_ok hK hl q
end
end PV

/-! ### enumerate of a tuple -/
namespace PV
open PySem PySem.Spec PyProof.Rows L2
theorem enum_new1 {v : Value} {o : Obj} {H : Heap → Prop} (B : Begins v o H) :
    Meets (Builtin.«enumerate.__new__» ⟨[.type "enumerate", v], []⟩) (fun _ R s => H s.heap ∧
      R (.ok (.ret (.ref (s.heap.push o).objs.size))) { s with heap := (s.heap.push o).push { cls := .type "enumerate", data := .fields #[.none, .bool false, .ref s.heap.objs.size, rawInt 0, .none, .none] } }) :=
  .of_wp fun prog w A R s h => by
    obtain ⟨hp, g, d, tk, os⟩ := s
    obtain ⟨h1, h⟩ := h
    have hsub := sub_enumerate
    have q1 : ∀ {A' : Around} {E : Value → Shared → Prop} {Q : Value → Shared → Prop}, Q (.ref hp.objs.size) ⟨hp.push o, g, d, tk, os⟩ → wpAny (model prog w) A' (pyIter v) Q E ⟨hp, g, d, tk, os⟩ :=
      fun q => B.iter prog w _ _ ⟨hp, g, d, tk, os⟩ _ h1 q
    wp_walk using q1
    refine wpAny_stack_any fun st => wpAny_pure ?_
    split
    · rename_i c _ _ _ _ _
      cases (c == Value.type "enumerate")
      · wp_walk using q1
        exact ⟨_, rfl, h⟩
      · wp_walk using q1
        exact ⟨_, rfl, h⟩
    · wp_walk using q1
      exact ⟨_, rfl, h⟩
section
variable {prog : Program} {w : World} {A : Around} {E : Value → Shared → Prop} {s : Shared}
theorem enum_tup {l : Addr} {items : Array Value} {Q : Value → Shared → Prop} (hL : s.heap.IsTuple l items)
    (h : ∀ h', IsEnum h' (s.heap.objs.size + 1) s.heap.objs.size 0 .none → h'.IsTupleIter s.heap.objs.size l 0 →
      (∀ b o, s.heap.get? b = some o → h'.get? b = some o) → Q (.ref (s.heap.objs.size + 1)) { s with heap := h' }) :
    wpAny (model prog w) A (call (.type "enumerate") [.ref l]) Q E s := by
  refine callType_new F.called_enumerate (by decide) (F.typeCall_enumerate_1 _) (F.newCall_enumerate_1 _) (fun obj => F.args_object_init_2 obj _) F.entry_enumerate_new
    (enum_new1 (begins_tuple l items)) ⟨hL, ?_⟩
  have hz : (s.heap.push { cls := .type "tuple_iterator", data := .fields #[.ref l, .int 0 0] }).objs.size = s.heap.objs.size + 1 := Heap.size_push ..
  show _ ∧ _
  rw [hz]
  have he : IsEnum ((s.heap.push { cls := .type "tuple_iterator", data := .fields #[.ref l, .int 0 0] }).push
      { cls := .type "enumerate", data := .fields #[.none, .bool false, .ref s.heap.objs.size, rawInt 0, .none, .none] }) (s.heap.objs.size + 1) s.heap.objs.size 0 .none := by
    have := Heap.get?_push_size (s.heap.push { cls := .type "tuple_iterator", data := .fields #[.ref l, .int 0 0] })
      (o := { cls := .type "enumerate", data := .fields #[.none, .bool false, .ref s.heap.objs.size, rawInt 0, .none, .none] }) rfl
    rw [hz] at this
    exact this
  exact ⟨⟨_, he, rfl⟩, h _ he ⟨_, Heap.get?_push_of_some _ (Heap.get?_push_size _ rfl), rfl, rfl⟩ fun b o x => Heap.get?_push_of_some _ (Heap.get?_push_of_some _ x)⟩
end
/-- the tuple at a, each item in a new pair -/
def IteT (K : PySem.W.Frag) (a : Addr) : It :=
  ⟨fun i H => ∃ (xs : List V) (x : V), SqT K H a xs ∧ xs[i]? = some x, fun i H v H' => ∃ T x, v = .ref T ∧ H T = none ∧ H' = upd H T (.tup [.int (i : Nat), x]) ∧ ∀ xs, SqT K H a xs → xs[i]? = some x, fun i H => ∃ xs : List V, SqT K H a xs ∧ xs.length = i⟩
theorem turn_enumT {P : Program} {w : World} {K : PySem.W.Frag} {elts : List Expr} {kk : Nat} {tpos : Pos} (a e it : Addr) (ne : a ≠ it) (nae : a ≠ e) :
    Turn P w K (.Tuple elts kk tpos) (IteT K a) [e, it] e (fun i h => (∃ old, IsEnum h e it ((i : Nat) : Int) old) ∧ h.IsTupleIter it a i ∧ e ≠ it) where
  mem := by simp
  obj := fun i h st b hb => by
    obtain ⟨⟨old, he⟩, ⟨o, ho, hc, hd⟩, _⟩ := st
    have e' : b = e ∨ b = it := by simpa using hb
    rcases e' with z | z
    · rw [z]; exact ⟨_, he, fun v q => nomatch q⟩
    · rw [z]; exact ⟨o, ho, fun v q => by rw [hd] at q; cases q⟩
  keep := fun i h h' st k => let ⟨⟨old, he⟩, hi, hne⟩ := st; ⟨⟨old, k e (by simp) _ he⟩, hi.at fun o q => k it (by simp) o q, hne⟩
  item := by
    intro X hP hw hK hc i pins s σ H E I hf st hg
    subst hP hw hK
    obtain ⟨⟨old, he⟩, hit, hne⟩ := st
    obtain ⟨xs, x, hq, hx⟩ := hg
    obtain ⟨its, rv, p, hz⟩ := I.tuple hq
    obtain ⟨u, hu, ru⟩ := rv.get hx
    have hel : e < s.heap.objs.size := Heap.lt_size he
    have hil : it < s.heap.objs.size := by obtain ⟨_, q, _⟩ := hit; exact Heap.lt_size q
    have hlt : i < its.toArray.size := by
      have := (List.getElem?_eq_some_iff.mp hu).1
      simpa using this
    refine wpAny_pyNext_enum_itemD (Draws.tuple (A := X.A.in1) (I.ok.hd hc) it a ne its.toArray) he ⟨hit, p⟩ hlt hne (by simp [hne, Ne.symm nae]) fun x' h' tk hP' ho hst' hT hsz hk => ?_
    have eu : x' = u := by
      have h1 : its.toArray[i]? = some x' := hP'
      have h2 : its.toArray[i]? = some u := by simpa using hu
      rw [h2] at h1
      exact (Option.some.inj h1).symm
    subst eu
    obtain ⟨hit', _⟩ := hst'
    refine ⟨_, rfl, wpAny_letOwnedTupleGo_enum (s := { s with heap := h', toks := tk + 1 }) ho fun h'' he' sb => ?_⟩
    have hT2 : h''.get? s.heap.objs.size = some { cls := .type "tuple", data := .seq #[.int i tk, x'] } := (sb.2 _ (Nat.ne_of_gt hel)).trans hT
    have new : ObjOk X.prog X.w (upd H s.heap.objs.size (.tup [.int (i : Nat), x])) h'' s.heap.objs.size (.tup [.int (i : Nat), x]) :=
      ⟨by show 2 ≤ sizeLine; decide, [.int i tk, x'], .cons ⟨_, rfl⟩ (.cons ru .nil), ⟨_, hT2, rfl, _, rfl⟩⟩
    have I1 : Inv X pins σ (upd H s.heap.objs.size (.tup [.int (i : Nat), x])) { s with heap := h'', toks := tk + 1 } :=
      I.turnedNew (ch := [e, it]) (fun b ob hb q => (sb.2 b (fun z => hb (by simp [z]))).trans (hk b ob (fun z => hb (by simp [z])) (fun z => hb (by simp [z])) q)) hf (Nat.le_refl _) new
    refine ⟨.ref s.heap.objs.size, _, I1, rfl, ⟨_, x, rfl, I.hok.fresh (Nat.le_refl _), rfl, fun ys hy => by rw [I.tuple_inj hy hq]; exact hx⟩, ⟨⟨x', ?_⟩, hit'.at fun o q => (sb.2 it (Ne.symm hne)).trans q, hne⟩, fun b hb => ?_⟩
    · have e1 : ((i + 1 : Nat) : Int) = (i : Int) + 1 := by omega
      rw [e1]; exact he'
    · have hb' : b < s.heap.objs.size := by
        have e' : b = e ∨ b = it := by simpa using hb
        rcases e' with z | z
        · rw [z]; exact hel
        · rw [z]; exact hil
      rw [upd_ne (Nat.ne_of_lt hb')]
      exact (hf b hb).1
  done := by
    intro X hP hw hK hc i pins s σ H E I hf st hg
    subst hP hw hK
    obtain ⟨⟨old, he⟩, hit, hne⟩ := st
    obtain ⟨xs, hq, hx⟩ := hg
    obtain ⟨its, rv, p, hz⟩ := I.tuple hq
    obtain ⟨f0, f1, f2, f3, f4, f5⟩ := hf it (by simp)
    have hl := rv.length
    have hi : its.toArray.size = i := by
      rw [List.size_toArray]
      omega
    have hst : s.heap.IsTupleIter it a its.toArray.size ∧ s.heap.IsTuple a its.toArray := ⟨by rw [hi]; exact hit, p⟩
    exact wpAny_pyNext_enum_endD (Draws.tuple (A := X.A.in1) (I.ok.hd hc) it a ne its.toArray) he hst fun h' eb => ⟨rfl, I.turned (t' := s.toks) (fun b o hb q => eb b o hb q) f0 f1 f3 f4 f5⟩
  self := fun A i s Q E st h => let ⟨⟨_, he⟩, _⟩ := st; wpAny_pyIter_enum he h
def iEnumT (K : PySem.W.Frag) (ta : TA) : TI := fun σ H R => ta σ H fun vs H1 => ∃ a xs, vs = [.ref a] ∧ SqT K H1 a xs ∧ R (IteT K a) H1
theorem pi_enumT {X : Cx} {e : Expr} {ta : TA} {p pos tpos : Pos} {elts : List Expr} {kk : Nat} (hg : Gl X "enumerate") (hm : X.mg "enumerate" = none) (ha : PA X [e] ta) (hs : starEach [e] X.env = [(false, eval e X.env)] := by rfl) :
    PI X (.Tuple elts kk tpos) (.Call (.Name "enumerate" p) [e] [] pos) (iEnumT X.K ta) := by
  refine ⟨fun pins s σ H R I h => ?_⟩
  refine Call_ (ld_blt I hg hm boot_enumerate (PyProof.Rows.callWith_type1 (thn (ha.run pos pins s σ H _ I h) fun us s1 ⟨vs, H1, I1, r1, q1⟩ => ?_) hs rfl))
  obtain ⟨a, xs, ex, hq, q⟩ := q1
  subst ex
  cases r1 with
  | cons r rr =>
    cases rr
    cases r
    obtain ⟨its, rv, p', hz⟩ := I1.tuple hq
    have hla : a < s1.heap.objs.size := by
      obtain ⟨o, ho, _⟩ := p'
      exact Heap.lt_size ho
    refine enum_tup p' fun h' he hit hk => wpAny_pyIter_enum he ?_
    have I2 : Inv X pins σ H1 { s1 with heap := h' } := I1.kept (t' := s1.toks) hk
    refine ⟨s1.heap.objs.size + 1, [s1.heap.objs.size + 1, s1.heap.objs.size], _, _, H1, rfl, I2, turn_enumT a (s1.heap.objs.size + 1) s1.heap.objs.size (Nat.ne_of_lt hla) (Nat.ne_of_lt (Nat.lt_succ_of_lt hla)), ⟨⟨.none, he⟩, hit, Nat.succ_ne_self _⟩, fun b hb => ?_, q⟩
    have e' : b = s1.heap.objs.size + 1 ∨ b = s1.heap.objs.size := by simpa using hb
    have hle : s1.heap.objs.size ≤ b := by
      rcases e' with z | z
      · rw [z]; exact Nat.le_add_right _ _
      · rw [z]; exact Nat.le_refl _
    exact I1.fpOk hle (I1.hok.fresh hle)
end PV

namespace PV
open PySem PySem.Spec PyProof.Rows L2
section
variable {c : Cn} {W : WX} {X : Cx} {env : En} {σ : L2.St} {H F : Hp}
/-! ### enumerate -/
def enumD : Nat → List D → List D
  | _, [] => []
  | k, x :: r => .tup [.int k, x] :: enumD (k + 1) r
theorem enumD_get : ∀ {xs : List D} {k i : Nat} {d : D}, (enumD k xs)[i]? = some d → ∃ x, xs[i]? = some x ∧ d = .tup [.int ((k + i : Nat) : Int), x]
  | [], _, _, _, h => by unfold enumD at h; simp at h
  | x :: xs, k, 0, d, h => by
    unfold enumD at h
    exact ⟨x, rfl, (Option.some.inj h).symm⟩
  | x :: xs, k, i + 1, d, h => by
    unfold enumD at h
    obtain ⟨y, h1, h2⟩ := enumD_get (xs := xs) (k := k + 1) (i := i) h
    refine ⟨y, h1, ?_⟩
    rw [h2, show k + 1 + i = k + (i + 1) by omega]
theorem enumD_len : ∀ (xs : List D) (k : Nat), (enumD k xs).length = xs.length
  | [], _ => rfl
  | x :: xs, k => by
    unfold enumD
    rw [List.length_cons, List.length_cons, enumD_len xs (k + 1)]
theorem pair_int {g : Gc} {F H : Hp} {i : Int} {y : D} {w : V} {T : Addr} (wf : WF g F H) (n : H T = none) (ry : Rep g F y w) : ∃ F'', Go g F H F'' (upd H T (.tup [.int i, w])) ∧ Rep g F'' (.tup [.int i, y]) (.ref T) := pair_new wf n .int ry
theorem itS_enumL {g : Gc} {F : Hp} {a : Addr} {vs : List V} {ds : List D} (h : SqL g.K F a vs) (inj : ∀ H ys zs, SqL g.K H a ys → SqL g.K H a zs → ys = zs ∨ True) (r : Reps g F ds vs) : ItS g F (Ite g.K a) (enumD 0 ds) := by
  refine ⟨fun i d F' H' e s w => ?_, fun F' H' s w => ⟨vs, w.sub.seq (s.seq h), by rw [enumD_len, r.length]; exact Nat.le_refl _⟩⟩
  obtain ⟨x, hx, rfl⟩ := enumD_get e
  obtain ⟨v, hv, rv⟩ := r.get hx
  have hs : SqL g.K H' a vs := w.sub.seq (s.seq h)
  refine ⟨⟨vs, v, hs, hv⟩, fun z H'' ⟨T, u, e1, n, e2, q⟩ => ?_⟩
  have := q vs hs
  rw [hv] at this
  cases this
  subst e1 e2
  rw [Nat.zero_add]
  exact pair_int w n (rv.mono s)
theorem itS_enumT {g : Gc} {F : Hp} {a : Addr} {vs : List V} {ds : List D} (h : SqT g.K F a vs) (r : Reps g F ds vs) : ItS g F (IteT g.K a) (enumD 0 ds) := by
  refine ⟨fun i d F' H' e s w => ?_, fun F' H' s w => ⟨vs, sqT_mono w.sub (sqT_mono s h), by rw [enumD_len, r.length]⟩⟩
  obtain ⟨x, hx, rfl⟩ := enumD_get e
  obtain ⟨v, hv, rv⟩ := r.get hx
  have hs : SqT g.K H' a vs := sqT_mono w.sub (sqT_mono s h)
  refine ⟨⟨vs, v, hs, hv⟩, fun z H'' ⟨T, u, e1, n, e2, q⟩ => ?_⟩
  have := q vs hs
  rw [hv] at this
  cases this
  subst e1 e2
  rw [Nat.zero_add]
  exact pair_int w n (rv.mono s)
def iEn (m : En → R D) : En → R (List D) := fun env => (m env).bind fun d e => match seqD d with
  | some xs => .ok (enumD 0 xs) e
  | none => .no
theorem en_ok {m : En → R D} (hK : c.K = X.K) {Q : It → Hp → Prop} (q : tI c W (iEn m) σ H Q) : iEnum X.K (tMs c W [m]) σ H Q ∨ iEnumT X.K (tMs c W [m]) σ H Q := by
  obtain ⟨env, F, S, q⟩ := q
  rw [← hK]
  cases z : m env with
  | ok d e1 =>
    have q' : Okp c W σ F (rlI c) Q (match seqD d with | some xs => .ok (enumD 0 xs) e1 | none => .no) := by
      unfold iEn at q
      rw [z] at q
      exact q
    cases d with
    | lst xs =>
      refine .inl ⟨env, F, S, ?_⟩
      rw [z]
      intro v H1 F1 S1 s1 rv
      cases rv with
      | @lst a _ vs h r =>
        exact ⟨a, vs, rfl, SqL.of (S1.wf.sub _ _ h), q' _ H1 F1 S1 s1 (itS_enumL (SqL.of h) (fun _ _ _ _ _ => .inr trivial) r)⟩
    | ro xs =>
      refine .inl ⟨env, F, S, ?_⟩
      rw [z]
      intro v H1 F1 S1 s1 rv
      cases rv with
      | @ro a _ vs h r =>
        exact ⟨a, vs, rfl, S1.wf.sub.seq h, q' _ H1 F1 S1 s1 (itS_enumL h (fun _ _ _ _ _ => .inr trivial) r)⟩
    | tup xs =>
      refine .inr ⟨env, F, S, ?_⟩
      rw [z]
      intro v H1 F1 S1 s1 rv
      cases rv with
      | @tup a _ vs h r =>
        exact ⟨a, vs, rfl, sqT_mono S1.wf.sub h, q' _ H1 F1 S1 s1 (itS_enumT h r)⟩
    | _ => exact q'.elim
  | er x e1 =>
    refine .inl ⟨env, F, S, ?_⟩
    unfold iEn at q
    rw [z] at q ⊢
    exact q
  | no =>
    unfold iEn at q
    rw [z] at q
    exact q.elim
theorem ri_enum {e : Expr} {m : En → R D} {elts : List Expr} {kk : Nat} {p pos tpos : Pos} (hK : c.K = X.K) (hg : Gl X "enumerate") (hm : X.mg "enumerate" = none) (he : PE X e (tE c W m)) (hs0 : starEach [e] X.env = (false, eval e X.env) :: starEach [] X.env := by rfl) (hs : starEach [e] X.env = [(false, eval e X.env)] := by rfl) :
    PI X (.Tuple elts kk tpos) (.Call (.Name "enumerate" p) [e] [] pos) (tI c W (iEn m)) :=
  ((pi_enum hg hm (ra_cons he ra_nil hs0) hs).or (pi_enumT hg hm (ra_cons he ra_nil hs0) hs)).imp fun σ H Q q => en_ok hK q
/-! ### sorted, of a list of ints or a dict with int keys -/
def keysI : List (Key × D) → Option (List Int)
  | [] => some []
  | (.inl i, _) :: r => (keysI r).map (i :: ·)
  | (.inr _, _) :: _ => none
theorem RepK.keysI {g : Gc} {F : Hp} : ∀ {kvs : List (Key × D)} {vs : List (Key × V)} {ks : List Int}, RepK g F kvs vs → PV.keysI kvs = some ks → vs.map (·.1) = ks.map Sum.inl
  | _, _, ks, .nil, e => by
    cases e
    rfl
  | _, _, ks, @RepK.cons _ _ k x xs v vs h t, e => by
    cases k with
    | inl i =>
      have e : (PV.keysI xs).map (i :: ·) = some ks := e
      cases q : PV.keysI xs with
      | none =>
        rw [q] at e
        cases e
      | some ms =>
        rw [q] at e
        cases e
        rw [List.map_cons, List.map_cons, RepK.keysI t q]
    | inr z => cases e
def rSortedX (K : PySem.W.Frag) : List V → Hp → VK → Prop := fun xs H Q => rSortedI K xs H Q ∨ (∃ (a : Addr) (kvs : List (Key × V)) (ks : List Int), xs = [.ref a] ∧ Rd H a (.dK kvs) ∧ kvs.map (·.1) = ks.map Sum.inl ∧ ks.length < 64 ∧
    ∀ (ys : List Int) (p : Addr), ys.Perm ks → ys.Pairwise (· ≤ ·) → H p = none → Q (.ref p) (upd H p (.lst (ys.map V.int))))
theorem cr_sortedX (hc : X.calm = true) : CallR X (.builtin "sorted") (rSortedX X.K) := cr_sortedI.or (call_sortedDI hc)
def oSortedX : List D → Option D
  | [.dik kvs] => (keysI kvs).bind fun ks => if ks.length < 64 then some (.lst ((srtI ks).map D.int)) else none
  | ds => oSorted ds
theorem of_sortedX {g : Gc} : OpF g (rSortedX g.K) oSortedX := fun ds vs d F H Q w R e k => by
  unfold oSortedX at e
  split at e
  · rename_i kvs
    obtain ⟨x, rfl, h1⟩ := R.one
    obtain ⟨a, ws, rfl, h2, h3⟩ := h1.dik_ w
    cases q : keysI kvs with
    | none =>
      rw [q] at e
      cases e
    | some ks =>
      rw [q] at e
      have e : (if ks.length < 64 then some (D.lst ((srtI ks).map D.int)) else none) = some d := e
      split at e
      · rename_i hl
        cases e
        refine .inr ⟨a, ws, ks, rfl, h2, h3.keysI q, hl, fun ys p hp hs n => ?_⟩
        have e : ys = srtI ks := srtI_one (hp.trans (srtI_perm ks).symm) hs (srtI_srt ks)
        subst e
        exact k p _ n (.lst (Reps.ofInts _))
      · cases e
  · exact .inl (of_sorted ds vs d F H Q w R e k)
/-! ### [a, *b, ..] -/
inductive Ai where
  | o (m : En → R D) | s (m : En → R D)
def evAi : List Ai → En → R (List D)
  | [], e => .ok [] e
  | .o m :: r, e => (m e).bind fun d e1 => (evAi r e1).bind fun ds e2 => .ok (d :: ds) e2
  | .s m :: r, e => (m e).bind fun d e1 => match seqD d with
    | some xs => (evAi r e1).bind fun ds e2 => .ok (xs ++ ds) e2
    | none => .no
def tAi (c : Cn) (W : WX) : List Ai → TA
  | [] => tNil
  | .o m :: r => tCons (tE c W m) (tAi c W r)
  | .s m :: r => StX.tStar c.K (tE c W m) (tAi c W r)
theorem ai_ok {α β : Type} {rl : Rl α β} {Q : β → Hp → Prop} {σ : L2.St} : ∀ (ms : List Ai) {env : En} {H F : Hp} {f : List D → En → R α} {K : List V → Hp → Prop} (S : SR c env σ H F) (h : Okp c W σ F rl Q ((evAi ms env).bind f))
    (k : ∀ ds e vs H1 F1, SR c e σ H1 F1 → Same F F1 → Reps c.toGc F1 ds vs → Okp c W σ F1 rl Q (f ds e) → K vs H1), tAi c W ms σ H K
  | [], env, H, F, f, K, S, h, k => k [] env [] H F S (Same.refl _) .nil h
  | .o m :: r, env, H, F, f, K, S, h, k => by
    have e : (evAi (.o m :: r) env).bind f = (m env).bind fun d e => (evAi r e).bind fun ds e' => f (d :: ds) e' := by
      show ((m env).bind fun d e => (evAi r e).bind fun ds e' => R.ok (d :: ds) e').bind f = _
      rw [R.bind_assoc]
      congr 1
      funext d e
      rw [R.bind_assoc] <;> rfl
    rw [e] at h
    refine tM_bind (rl := rlE c) S h fun d e v H1 F1 S1 s1 r1 h1 => ?_
    exact ai_ok r S1 h1 fun ds e' vs H2 F2 S2 s2 r2 h2 => k (d :: ds) e' (v :: vs) H2 F2 S2 (s1.trans s2) (.cons (r1.mono s2) r2) h2
  | .s m :: r, env, H, F, f, K, S, h, k => by
    have e : (evAi (.s m :: r) env).bind f = (m env).bind fun d e => (match seqD d with | some xs => (evAi r e).bind fun ds e' => f (xs ++ ds) e' | none => .no) := by
      show ((m env).bind fun d e => (match seqD d with | some xs => (evAi r e).bind fun ds e' => R.ok (xs ++ ds) e' | none => R.no)).bind f = _
      rw [R.bind_assoc]
      congr 1
      funext d e
      cases seqD d with
      | none => rfl
      | some xs =>
        show ((evAi r e).bind fun ds e' => R.ok (xs ++ ds) e').bind f = _
        rw [R.bind_assoc] <;> rfl
    rw [e] at h
    refine tM_bind (rl := rlE c) S h fun d e v H1 F1 S1 s1 r1 h1 => ?_
    split at h1
    · rename_i xs hx
      obtain ⟨a, ws, ev, hs, rs⟩ := (show Rep1 c.toGc F1 H1 d v from .st r1).seq_ S1.wf hx
      refine ⟨a, ws, ev, hs.symm, ?_⟩
      exact ai_ok r S1 h1 fun ds e' vs H2 F2 S2 s2 r2 h2 => k (xs ++ ds) e' (ws ++ vs) H2 F2 S2 (s1.trans s2) ((rs.mono s2).append r2) h2
    · exact h1.elim
theorem rai_nil : PA X [] (tAi c W []) := pa_nil
theorem rai_o {e : Expr} {es : List Expr} {m : En → R D} {ms : List Ai} (ha : PE X e (tE c W m)) (hr : PA X es (tAi c W ms)) (hs : starEach (e :: es) X.env = (false, eval e X.env) :: starEach es X.env := by rfl) : PA X (e :: es) (tAi c W (.o m :: ms)) := pa_cons ha hr hs
theorem rai_s {e : Expr} {p : Pos} {es : List Expr} {m : En → R D} {ms : List Ai} (hK : c.K = X.K) (ha : PE X e (tE c W m)) (hr : PA X es (tAi c W ms)) (hs : starEach (.Starred e p :: es) X.env = (true, eval e X.env) :: starEach es X.env := by rfl) : PA X (.Starred e p :: es) (tAi c W (.s m :: ms)) := by
  show PA X _ (StX.tStar c.K (tE c W m) (tAi c W ms))
  rw [hK]
  exact StX.pa_star ha hr hs
def mLstS (ms : List Ai) : En → R D := fun env => (evAi ms env).bind fun ds e => if ds.length ≤ lim then .ok (.lst ds) e else .no
theorem re_lstS {es : List Expr} {ms : List Ai} {pos : Pos} (h : PA X es (tAi c W ms)) : PE X (.List es pos) (tF c W (mLstS ms)) := (pe_lst h).imp fun σ H Q q => by
  obtain ⟨env, F, S, q⟩ := q
  refine ai_ok ms S q fun ds e vs H1 F1 S1 s1 r1 h1 => ?_
  split at h1
  · rename_i hl
    refine ⟨lim_line (by rw [r1.length_eq]; exact hl), fun p n => ?_⟩
    exact h1 _ _ F1 (S1.fresh n rfl) (Same.refl _) (S1.newF n (.lst r1))
  · exact h1.elim
def mTupS (ms : List Ai) : En → R D := fun env => (evAi ms env).bind fun ds e => if ds.length ≤ lim then .ok (.tup ds) e else .no
theorem re_tupS {es : List Expr} {ms : List Ai} {k : Nat} {pos : Pos} (h : PA X es (tAi c W ms)) : PE X (.Tuple es k pos) (tE c W (mTupS ms)) := (pe_tup h).imp fun σ H Q q => by
  obtain ⟨env, F, S, q⟩ := q
  refine ai_ok ms S q fun ds e vs H1 F1 S1 s1 r1 h1 => ?_
  split at h1
  · rename_i hl
    refine ⟨lim_line (by rw [r1.length_eq]; exact hl), fun p n => ?_⟩
    have g2 := Go.frz S1.wf n (o := .tup vs) (fun ps z => by cases z)
    exact h1 _ _ _ (S1.go g2) g2.gr.f (.tup (SqT.of upd_same) (r1.mono g2.gr.f))
  · exact h1.elim
end
end PV

namespace PV
open PySem PySem.Spec PyProof.Rows L2
/-! ### f(x, ..): x changed, other own containers lent -/
def isP (i : Nat) : Pd → Bool
  | .inr j => i == j
  | _ => false
def immO : D → Bool
  | .lst xs => imms xs
  | _ => false
def mCallRL (f : D → List D → Rr) (i : Nat) (os : List Od) : En → R D := fun env => match val env i with
  | none => .no
  | some _ => (evP os env).bind fun ps e => match fill ps e with
    | some ds => if (ds.any lockO || ps.any (isP i)) = true then .no else (match ownV e i with
      | some d0 => (match f d0 ds with
        | .ok d d0' => if (imm d && immO d0') = true then .ok d (setV e i d0') else .no
        | .no => .no)
      | none => .no)
    | none => .no
section
variable {c : Cn} {W : WX} {X : Cx} {env : En} {σ : L2.St} {H F : Hp}
/-- all that is tracked but the tables and one object, frozen -/
def but (H : Hp) (a : Addr) : Hp := fun b => if b = a then none else noTbl H b
theorem but_of {H : Hp} {a b : Addr} {o : HO} (h : but H a b = some o) : b ≠ a ∧ H b = some o ∧ ∀ ps, o ≠ .tbl ps := by
  unfold but at h
  split at h
  · cases h
  · rename_i hb
    exact ⟨hb, (noTbl_of h).1, (noTbl_of h).2⟩
theorem but_some {H : Hp} {a b : Addr} {o : HO} (n : b ≠ a) (h : H b = some o) (nt : ∀ ps, o ≠ .tbl ps) : but H a b = some o := by
  unfold but
  rw [if_neg n]
  exact noTbl_some h nt
theorem WF.but {g : Gc} {F H : Hp} (w : WF g F H) {a : Addr} {o : HO} (h : H a = some o) (nt : tupy o = false) (hF : F a = none) : WF g (PV.but H a) H ∧ Same F (PV.but H a) :=
  ⟨⟨fun b o e => (but_of e).2.1, fun b u e t => but_some (fun z => by subst z; rw [h] at e; cases e; rw [nt] at t; cases t) e (fun ps z => by subst z; cases t), fun b ps e => (but_of e).2.2 ps rfl, w.tab⟩,
    fun b u e => but_some (fun z => by subst z; rw [hF] at e; cases e) (w.sub _ _ e) (fun ps z => by subst z; exact w.nt _ _ e)⟩
theorem fill_but (S : SR c env σ H F) {i : Nat} {a : Addr} {o : HO} (ow : Own env σ i a) (ha : H a = some o) (nt : tupy o = false) (hF : F a = none) : ∀ {ps : List Pd} {vs : List V} {ds : List D}, RepPs c.toGc F σ ps vs → fill ps env = some ds → ds.any lockO = false → ps.any (isP i) = false → Reps c.toGc (PV.but H a) ds vs
  | _, _, _, .nil, e, _, _ => by
    cases e
    exact .nil
  | .inl d :: r, _, _, .cons h t, e, hl, hp => by
    unfold fill at e
    cases q : fill r env with
    | none =>
      rw [q] at e
      cases e
    | some ds' =>
      rw [q] at e
      cases e
      rw [List.any_cons, Bool.or_eq_false_iff] at hl hp
      exact .cons (Rep.mono (S.wf.but ha nt hF).2 h) (fill_but S ow ha nt hF t q hl.2 hp.2)
  | .inr j :: r, _, _, @RepPs.cons _ _ _ _ _ v vs h t, e, hl, hp => by
    unfold fill at e
    cases z : PV.val env j with
    | none =>
      rw [z] at e
      cases e
    | some d =>
      rw [z] at e
      cases q : fill r env with
      | none =>
        rw [q] at e
        cases e
      | some ds' =>
        rw [q] at e
        cases e
        rw [List.any_cons, Bool.or_eq_false_iff] at hl hp
        have hij : i ≠ j := by
          have h1 := hp.1
          unfold isP at h1
          simpa using h1
        refine .cons ?_ (fill_but S ow ha nt hF t q hl.2 hp.2)
        have h' : σ[j]? = some (some v) := h
        unfold PV.val at z
        split at z
        · rename_i d' z'
          cases z
          obtain ⟨v', h1, h2⟩ := S.fz j _ z'
          rw [h1] at h'
          cases h'
          exact h2.mono (S.wf.but ha nt hF).2
        · rename_i d' z'
          cases z
          obtain ⟨b, u, h1, h2, h3, h4, h5⟩ := S.ow j _ z'
          rw [h1] at h'
          cases h'
          have nb : b ≠ a := fun e => by
            subst e
            exact hij (S.apart i j b ow ⟨h1, _, .inl z'⟩)
          exact (h5.mono (S.wf.but ha nt hF).2).rep hl.1 (but_some nb h2 h5.ntbl)
        · rename_i d' z'
          cases z
          obtain ⟨b, u, h0, h1, h2, h3, h5⟩ := S.rf j _ z'
          rw [h1] at h'
          cases h'
          have nb : b ≠ a := fun e => by
            subst e
            exact hij (S.apart i j b ow ⟨h1, _, .inr z'⟩)
          exact (h5.mono (S.wf.but ha nt hF).2).rep hl.1 (but_some nb h2 h5.ntbl)
        · cases z
theorem evP_len : ∀ (os : List Od) {env e : En} {ps : List Pd}, evP os env = .ok ps e → ps.length = os.length
  | [], _, _, _, h => by
    cases h
    rfl
  | .m f :: r, env, e, ps, h => by
    have h' : ((f env).bind fun d e => (evP r e).bind fun ps e' => R.ok (.inl d :: ps) e') = .ok ps e := h
    cases q : f env with
    | ok d e1 =>
      rw [q] at h'
      have h2 : ((evP r e1).bind fun ps e' => R.ok (Sum.inl d :: ps) e') = .ok ps e := h'
      cases q2 : evP r e1 with
      | ok ps' e2 =>
        rw [q2] at h2
        cases h2
        simp [evP_len r q2]
      | er x e2 =>
        rw [q2] at h2
        cases h2
      | no =>
        rw [q2] at h2
        cases h2
    | er x e1 =>
      rw [q] at h'
      cases h'
    | no =>
      rw [q] at h'
      cases h'
  | .s i :: r, env, e, ps, h => by
    have h' : (match val env i with | some _ => (evP r env).bind fun ps e' => R.ok (.inr i :: ps) e' | none => R.no : R (List Pd)) = .ok ps e := h
    cases z : val env i with
    | none =>
      rw [z] at h'
      cases h'
    | some d =>
      rw [z] at h'
      have h2 : ((evP r env).bind fun ps e' => R.ok (Sum.inr i :: ps) e') = .ok ps e := h'
      cases q2 : evP r env with
      | ok ps' e2 =>
        rw [q2] at h2
        cases h2
        simp [evP_len r q2]
      | er x e2 =>
        rw [q2] at h2
        cases h2
      | no =>
        rw [q2] at h2
        cases h2
theorem fill_len : ∀ {ps : List Pd} {env : En} {ds : List D}, fill ps env = some ds → ds.length = ps.length
  | [], _, _, e => by
    cases e
    rfl
  | .inl d :: r, env, ds, e => by
    unfold fill at e
    cases q : fill r env with
    | none =>
      rw [q] at e
      cases e
    | some ds' =>
      rw [q] at e
      cases e
      simp [fill_len q]
  | .inr i :: r, env, ds, e => by
    unfold fill at e
    cases z : val env i with
    | none =>
      rw [z] at e
      cases e
    | some d =>
      rw [z] at e
      cases q : fill r env with
      | none =>
        rw [q] at e
        cases e
      | some ds' =>
        rw [q] at e
        cases e
        simp [fill_len q]
theorem RepO.imm {g : Gc} {F F' : Hp} (k : ∀ a u, F a = some u → tupy u = true → F' a = some u) {d : D} {o : HO} (r : RepO g F d o) (h : immO d = true) : RepO g F' d o := by
  cases r with
  | lst r => exact .lst (Reps.imm k r h)
  | dik r => cases h
  | dit r => cases h
  | ins m r => cases h
variable {k n : Nat} {f : Addr} {fd : FuncData} {ps : List Str} {fn : D → List D → Rr} {x : Str} {p pos : Pos} {e : Expr} {es : List Expr} {os : List Od}
theorem callRL_ok {i : Nat} {Q : VK} (hn : os.length = n) (q : tE c W (mCallRL fn i os) σ H Q) : tCons (tVar i) (tOds c W os) σ H fun vs H1 => spR c.toGc false n fn vs H1 Q (WE W σ) := by
  obtain ⟨env, F, S, q⟩ := q
  unfold mCallRL at q
  split at q
  · exact q.elim
  · rename_i d hv
    obtain ⟨v, g1, _⟩ := S.val hv
    refine ⟨v, g1, ?_⟩
    have q2 : Okp c W σ F (rlE c) Q ((evP os env).bind fun ps e => if ps.length = n then (match fill ps e with
      | some ds => if (ds.any lockO || ps.any (isP i)) = true then .no else (match ownV e i with
        | some d0 => (match fn d0 ds with
          | .ok d d0' => if (imm d && immO d0') = true then .ok d (setV e i d0') else .no
          | .no => .no)
        | none => .no)
      | none => .no) else .no) := by
      cases z : evP os env with
      | ok ps e =>
        rw [z] at q
        show Okp c W σ F (rlE c) Q (if ps.length = n then _ else _)
        rw [if_pos ((evP_len os z).trans hn)]
        exact q
      | er x e =>
        rw [z] at q
        exact q
      | no =>
        rw [z] at q
        exact q
    refine tOdsP os S q2 fun ps e vs H1 F1 S1 s1 r1 h1 => ?_
    split at h1
    · rename_i hpn
      split at h1
      · rename_i ds hfl
        split at h1
        · exact h1.elim
        · rename_i hlk
          rw [Bool.not_eq_true, Bool.or_eq_false_iff] at hlk
          split at h1
          · rename_i d0 z
            obtain ⟨a, o, ow, k1, k2, k3, k4⟩ := S1.own_at z
            have ev : v = .ref a := by
              have e1 := ow.1
              rw [g1] at e1
              cases e1
              rfl
            subst ev
            have rds := fill_but S1 ow k1 k3.ntup k2 r1 hfl hlk.1 hlk.2
            obtain ⟨wB, sB⟩ := S1.wf.but k1 k3.ntup k2
            have bna : PV.but H1 a a = none := by
              unfold PV.but
              rw [if_pos rfl]
            refine ⟨by simp [rds.length_eq, fill_len hfl, hpn], PV.but H1 a, a, d0, o, ds, vs, rfl, wB, k1, bna, k3.mono sB, rds, ?_⟩
            cases z2 : fn d0 ds with
            | no =>
              rw [z2] at h1
              exact h1
            | ok d d0' =>
              rw [z2] at h1
              intro v H' F' o' gr th l1 l2 l3 rv
              have rv := rlQ_rep rv
              have h1 : Okp c W σ F1 (rlE c) Q (if (imm d && immO d0') = true then .ok d (setV e i d0') else .no) := h1
              split at h1
              · rename_i hi
                rw [Bool.and_eq_true] at hi
                obtain ⟨fu, hfu⟩ : ∃ fu : Hp, ∀ b, fu b = if (H1 b).isSome = true then F1 b else F' b := ⟨fun b => if (H1 b).isSome = true then F1 b else F' b, fun _ => rfl⟩
                have at1 : ∀ b, H1 b ≠ none → fu b = F1 b := fun b hb => by
                  rw [hfu, if_pos]
                  cases q : H1 b with
                  | none => exact absurd q hb
                  | some u => rfl
                have at2 : ∀ b, H1 b = none → fu b = F' b := fun b hb => by
                  rw [hfu, hb, if_neg]
                  simp
                have tp : ∀ a u, F' a = some u → tupy u = true → fu a = some u := fun b u e t => by
                  by_cases hb : H1 b = none
                  · rw [at2 b hb]
                    exact e
                  · rw [at1 b hb]
                    have e2 := (gr.new b hb).symm.trans e
                    exact S1.wf.tup b u (but_of e2).2.1 t
                have G2 : Gr c.toGc (some a) F1 H1 fu H' := by
                  refine ⟨⟨fun b u e => ?_, fun b u e t => ?_, fun b ps e => ?_, gr.wf.tab⟩, fun b u e => ?_, gr.h, at1⟩
                  · by_cases hb : H1 b = none
                    · rw [at2 b hb] at e
                      exact gr.wf.sub _ _ e
                    · rw [at1 b hb] at e
                      exact gr.h b u (S1.wf.sub _ _ e) (fun ps z => by subst z; exact S1.wf.nt _ _ e) (fun z => by
                        have : b = a := Option.some.inj z
                        subst this
                        rw [k2] at e
                        cases e)
                  · exact tp b u (gr.wf.tup b u e t) t
                  · by_cases hb : H1 b = none
                    · rw [at2 b hb] at e
                      exact gr.wf.nt _ _ e
                    · rw [at1 b hb] at e
                      exact S1.wf.nt _ _ e
                  · rw [at1 b (by rw [S1.wf.sub _ _ e]; simp)]
                    exact e
                have fua : fu a = none := by
                  rw [at1 a (by rw [k1]; simp)]
                  exact k2
                exact h1 v H' fu (S1.chg z ow G2 th l1 fua (l3.imm tp hi.2)) G2.f (rv.imm tp hi.1)
              · exact h1.elim
          · exact h1.elim
      · exact h1.elim
    · exact h1.elim
theorem re_callRL {i : Nat} (Fo : FnG X.prog X.w X.K X.mg X.base (L2.CX X.prog X.w) k f fd ps (spR c.toGc false n fn)) (hr : RmG k X.A) (hg : Gl X x) (hm : X.mg x = some (.ref f)) (hk : PySem.W.keepIn X.K (.ref f) = true) (hb : Binds X.K fd ps []) (tk : Takes X W)
    (h0 : PE X e (tVar i)) (ha : PA X es (tOds c W os)) (hn : os.length = n := by rfl) (hdb : (x == ("__debug__" : Str)) = false := by decide) (he : starEach (e :: es) X.env = (false, eval e X.env) :: starEach es X.env := by rfl) (hpl : (backTo pos (starEach es X.env)).any (·.1) = false := by rfl) :
    PE X (.Call (.Name x p) (e :: es) [] pos) (tE c W (mCallRL fn i os)) :=
  (pe_callG (E := WE W) Fo hr hg hm hk hb (fun σ => passAt tk σ) (pa_cons h0 ha he) hdb he hpl).imp fun σ H Q q => callRL_ok hn q
end
end PV

namespace PV
open PySem PySem.Spec PyProof.Rows L2
/-! ### [elt for target in x if ..], x an own list that stays own: as it stands at each turn -/
def lcO (i : Nat) (T : Tg) (t : En → R Bool) (m : En → R D) (vs : List Nat) : Nat → Nat → En → R (List D)
  | 0, _, _ => .no
  | n + 1, k, e => match ownV e i with
    | some (.lst xs) => (match xs[k]? with
      | none => .ok [] e
      | some d => (match bindT T d e with
        | none => .no
        | some e1 => (match t e1 with
          | .ok true e2 => (match m e2 with
            | .ok y e3 => (lcO i T t m vs n (k + 1) (wipeE e3 vs)).bind fun ys e' => .ok (y :: ys) e'
            | _ => .no)
          | .ok false e2 => lcO i T t m vs n (k + 1) (wipeE e2 vs)
          | _ => .no)))
    | _ => .no
def mLcO (i : Nat) (T : Tg) (t : En → R Bool) (m : En → R D) (vs : List Nat) : En → R D := fun env => match ownV env i with
  | some (.lst _) => (lcO i T t m vs lim 0 (wipeE env vs)).bind fun ys e' => .ok (.lst ys) (backE env e' vs)
  | _ => .no
section
variable {c : Cn} {W : WX} {X : Cx} {F F' H : Hp} {Z : Ends} {σ : L2.St} {env : En}
theorem SR.lst_at (S : SR c env σ H F) {i : Nat} {xs : List D} (h : ownV env i = some (.lst xs)) : ∃ a vs, σ[i]? = some (some (.ref a)) ∧ H a = some (.lst vs) ∧ Reps c.toGc F xs vs := by
  obtain ⟨a, o, ow, h1, _, h3, _⟩ := S.own_at h
  cases h3 with
  | lst r => exact ⟨a, _, ow.1, h1, r⟩
theorem Itl_go {K : PySem.W.Frag} {H : Hp} {a : Addr} {vs : List V} {i : Nat} {v : V} (h : H a = some (.lst vs)) (e : vs[i]? = some v) : (Itl K a).go i H ∧ ∀ x H', (Itl K a).yld i H x H' → H' = H ∧ x = v := by
  refine ⟨⟨vs, v, SqL.of h, e⟩, fun x H' ⟨e1, e2⟩ => ⟨e1, ?_⟩⟩
  have := e2 vs (SqL.of h)
  rw [e] at this
  exact (Option.some.inj this).symm
theorem lcO_ok {i : Nat} {T : Tg} {t : En → R Bool} {m : En → R PV.D} {vs : List Nat} {Q : VK} (hK : c.K = X.K) (hT : okT vs T = true) (hi : i ∉ vs) (q : tF c W (mLcO i T t m vs) σ H Q) : tLc (iList X.K (tVar i)) (tGx c T) (tTx c t) (tEx c m) vs σ H Q := by
  obtain ⟨env, F, S, q⟩ := q
  rw [← hK]
  unfold mLcO at q
  split at q
  · rename_i xs0 ho
    obtain ⟨a, vs0, ha, hH, r0⟩ := S.lst_at ho
    refine ⟨.ref a, ha, a, rfl, ⟨vs0, SqL.of hH⟩, ?_⟩
    intro Dd nD
    have h0D : c.H0 Dd = none := S.h0 nD
    have hrD : c.ra ≠ some Dd := fun z => S.rtH Dd z nD
    have f0D : c.F0 Dd = none := S.gr.f.free (S.wf.sub.free nD)
    have wa : (wipe σ vs)[i]? = some (some (.ref a)) := by
      rw [wipe_keep hi]
      exact ha
    refine ⟨fun k n H' => n + k = lim ∧ ∃ e F' acc vacc, SR c e (wipe σ vs) H' F' ∧ Same F F' ∧ H' Dd = some (.lst vacc) ∧ F' Dd = none ∧ (∀ j, ¬ Own e (wipe σ vs) j Dd) ∧ Reps c.toGc F' acc vacc ∧ acc.length ≤ k ∧
      Okp c W σ F' (rlF c) Q ((lcO i T t m vs n k e).bind fun ys e' => .ok (.lst (acc ++ ys)) (backE env e' vs)), ⟨lim, by simp, ?_⟩, ?_⟩
    · have SW := S.wipe vs
      exact ⟨wipeE env vs, F, [], [], SW.fresh nD rfl, Same.refl _, upd_same, S.wf.sub.free nD, fun j h => (SW.own_there h).1 nD, .nil, Nat.zero_le _, q⟩
    · rintro k n H2 ⟨hn, e, F2, acc, vacc, S2, s2, hD, hFD, no, ra, hacc, q2⟩
      cases n with
      | zero =>
        unfold lcO at q2
        exact q2.elim
      | succ n =>
        unfold lcO at q2
        cases hv : ownV e i with
        | none =>
          rw [hv] at q2
          exact q2.elim
        | some d0 =>
          rw [hv] at q2
          cases d0 with
          | lst xs =>
            obtain ⟨a', ws, ha', hH2, r2⟩ := S2.lst_at hv
            rw [wa] at ha'
            cases ha'
            cases hk : xs[k]? with
            | none =>
              simp only [hk] at q2
              have q3 : Okp c W σ F2 (rlF c) Q (.ok (.lst (acc ++ [])) (backE env e vs)) := q2
              rw [List.append_nil] at q3
              have hl : ws.length ≤ k := by
                rw [← r2.length]
                exact List.getElem?_eq_none_iff.mp hk
              exact .inl ⟨⟨ws, SqL.of hH2, hl⟩, q3 (.ref Dd) H2 F2 (S.back S2 s2) (Same.refl _) ⟨Dd, .lst vacc, rfl, hD, hFD, h0D, hrD, fun j h => no j (own_back h), .lst ra⟩⟩
            | some d =>
              simp only [hk] at q2
              obtain ⟨v, hv2, rv⟩ := r2.get hk
              obtain ⟨g1, g2⟩ := Itl_go (K := c.K) hH2 hv2
              refine .inr ⟨g1, fun H' => n + (k + 1) = lim ∧ ∃ e F' acc vacc, SR c e (wipe σ vs) H' F' ∧ Same F F' ∧ H' Dd = some (.lst vacc) ∧ F' Dd = none ∧ (∀ j, ¬ Own e (wipe σ vs) j Dd) ∧ Reps c.toGc F' acc vacc ∧ acc.length ≤ k + 1 ∧
                Okp c W σ F' (rlF c) Q ((lcO i T t m vs n (k + 1) e).bind fun ys e' => .ok (.lst (acc ++ ys)) (backE env e' vs)), fun H' h => ⟨n, by omega, h⟩, fun x H3 y => ?_⟩
              obtain ⟨e3, e4⟩ := g2 x H3 y
              subst e3 e4
              have K3 := S2.keep hD hFD h0D no
              refine ⟨upd c.H0 Dd (.lst vacc), e, F2, d, K3, rv, ?_⟩
              cases z : bindT T d e with
              | none =>
                simp only [z] at q2
                exact q2.elim
              | some e1 =>
                simp only [z] at q2
                intro σ4 H4 F4 S4 s4 o4
                have ew : wipe σ4 vs = wipe σ vs := (wipe_off hT o4).trans (wipe_wipe σ vs)
                refine ⟨ew, upd c.H0 Dd (.lst vacc), e1, F4, S4, ?_⟩
                have fin : ∀ {e5 : En} {H5 F5 : Hp}, SR (c.kp (upd c.H0 Dd (.lst vacc))) e5 σ4 H5 F5 → SR c (wipeE e5 vs) (wipe σ vs) H5 F5 ∧ H5 Dd = some (.lst vacc) ∧ F5 Dd = none ∧ ∀ j, ¬ Own (wipeE e5 vs) (wipe σ vs) j Dd := fun {e5 H5 F5} S5 => by
                  obtain ⟨k1, k2, k3⟩ := S5.kept (fun ps z => by cases z) hrD f0D
                  have S6 := (S5.unkeep h0D hrD).wipe vs
                  rw [ew] at S6
                  exact ⟨S6, k1, k2, fun j h => k3 j (own_wipe (by rw [ew]; exact h))⟩
                cases zt : t e1 with
                | ok b e2 =>
                  simp only [zt] at q2
                  intro b' H5 F5 S5 s5 eb
                  have eb' : b = b' := eb
                  subst eb'
                  have s25 : Same F2 F5 := s4.trans s5
                  cases b with
                  | true =>
                    refine iteT ⟨upd c.H0 Dd (.lst vacc), e2, F5, S5, ?_⟩
                    cases zm : m e2 with
                    | ok y e3 =>
                      simp only [zm] at q2
                      rw [R.bind_assoc] at q2
                      intro v' H6 F6 S6 s6 rv'
                      obtain ⟨f1, f2, f3, f4⟩ := fin S6
                      have s26 : Same F2 F6 := s25.trans s6
                      have hl : vacc.length < lim := by rw [← ra.length]; omega
                      refine ⟨vacc, f2, lim_lt hl, by omega, wipeE e3 vs, F6, acc ++ [y], vacc ++ [v'], f1.put f2 f3 h0D f4 (fun ps z => by cases z) (fun φ z => by cases z) rfl, s2.trans s26, upd_same, f3, f4, (ra.mono s26).append (.cons rv' .nil), by simp; omega, ?_⟩
                      have q4 := Okp.mono q2 s26
                      have ea : (fun (ys : List PV.D) (e' : En) => (R.ok (y :: ys) e' : R (List PV.D)).bind fun ys e' => R.ok (PV.D.lst (acc ++ ys)) (backE env e' vs)) = fun ys e' => R.ok (PV.D.lst ((acc ++ [y]) ++ ys)) (backE env e' vs) := by
                        funext ys e'
                        show R.ok (PV.D.lst (acc ++ (y :: ys))) _ = _
                        rw [List.append_assoc] <;> rfl
                      rw [ea] at q4
                      exact q4
                    | er x e3 =>
                      simp only [zm] at q2
                      exact q2.elim
                    | no =>
                      simp only [zm] at q2
                      exact q2.elim
                  | false =>
                    obtain ⟨f1, f2, f3, f4⟩ := fin S5
                    refine iteF ⟨by omega, wipeE e2 vs, F5, acc, vacc, f1, s2.trans s25, f2, f3, f4, ra.mono s25, by omega, Okp.mono q2 s25⟩
                | er x e2 =>
                  simp only [zt] at q2
                  exact q2.elim
                | no =>
                  simp only [zt] at q2
                  exact q2.elim
          | _ => exact q2.elim
  · exact q.elim
theorem re_lcO {i : Nat} {elt tg iter : Expr} {ifs : List Expr} {scope : Scope} {pos : Pos} {T : Tg} {t : En → R Bool} {m : En → R PV.D} {own : List (Str × Nat)} (hK : c.K = X.K) (hc : X.calm = true) (hN : X.N.Nodup) (ok : BlkOk X.N X.env.scope scope own) (hT : okT (own.map (·.2)) T = true) (hi : i ∉ own.map (·.2)) (ho : PE X iter (tVar i))
    (hg : ∀ (s : Shared) (H : Hp) (C : Addr) (cl : List (Str × Addr)) (fp : List Addr), PG (X.blk s H scope (compEnvC scope cl C X.env) fp) tg (tGx c T)) (ht : ∀ (s : Shared) (H : Hp) (C : Addr) (cl : List (Str × Addr)) (fp : List Addr), PTs (X.blk s H scope (compEnvC scope cl C X.env) fp) ifs (tTx c t))
    (he : ∀ (s : Shared) (H : Hp) (C : Addr) (cl : List (Str × Addr)) (fp : List Addr), PE (X.blk s H scope (compEnvC scope cl C X.env) fp) elt (tEx c m)) (hs : ∀ x, foldedSetIterable iter X.env x = pure x := by intro _; rfl) :
    PE X (.ListComp elt [⟨tg, iter, ifs, 0⟩] scope pos) (tF c W (mLcO i T t m (own.map (·.2)))) := (pe_lc hc hN (pi_list ho) ok hg ht he hs).imp fun σ H Q q => lcO_ok hK hT hi q
theorem mLcO_lst {i : Nat} {T : Tg} {t : En → R Bool} {m : En → R D} {vs : List Nat} (env : En) (d : D) (e : En) (h : mLcO i T t m vs env = .ok d e) : lockO d = false := by
  unfold mLcO at h
  split at h
  · cases z2 : lcO i T t m vs lim 0 (wipeE env vs) with
    | ok ys e2 =>
      rw [z2] at h
      cases h
      rfl
    | er x e2 =>
      rw [z2] at h
      cases h
    | no =>
      rw [z2] at h
      cases h
  · cases h
theorem rs_lcO {i j : Nat} {y : Str} {py : Pos} {elt tg iter : Expr} {ifs : List Expr} {scope : Scope} {pos spos : Pos} {T : Tg} {t : En → R Bool} {m : En → R PV.D} {own : List (Str × Nat)} (hc : X.calm = true) (hN : X.N.Nodup) (hy : X.N[j]? = some y) (hyl : X.env.scope.names.lookup y = some .local)
    (hsw : swapsWith (.ListComp elt [⟨tg, iter, ifs, 0⟩] scope pos) (some (.Name y py)) spos.line X.env = pure true) (hK : c.K = X.K) (ok : BlkOk X.N X.env.scope scope own) (hT : okT (own.map (·.2)) T = true) (hi : i ∉ own.map (·.2)) (ho : PE X iter (tVar i))
    (hg : ∀ (s : Shared) (H : Hp) (C : Addr) (cl : List (Str × Addr)) (fp : List Addr), PG (X.blk s H scope (compEnvC scope cl C X.env) fp) tg (tGx c T)) (ht : ∀ (s : Shared) (H : Hp) (C : Addr) (cl : List (Str × Addr)) (fp : List Addr), PTs (X.blk s H scope (compEnvC scope cl C X.env) fp) ifs (tTx c t))
    (he : ∀ (s : Shared) (H : Hp) (C : Addr) (cl : List (Str × Addr)) (fp : List Addr), PE (X.blk s H scope (compEnvC scope cl C X.env) fp) elt (tEx c m)) (hs : ∀ x, foldedSetIterable iter X.env x = pure x := by intro _; rfl) :
    PS X (.Assign [.Name y py] (.ListComp elt [⟨tg, iter, ifs, 0⟩] scope pos) spos) (tS c W (sSetO j (mLcO i T t m (own.map (·.2))))) := (ps_setLc hc hN hy hyl hsw (pi_list ho) ok hg ht he hs).imp fun Z σ H q => lcO_ok hK hT hi (setO_ok q)
theorem rs_lcOZ {i j : Nat} {y : Str} {py : Pos} {elt tg iter : Expr} {ifs : List Expr} {scope : Scope} {pos spos : Pos} {T : Tg} {t : En → R Bool} {m : En → R PV.D} {own : List (Str × Nat)} (hc : X.calm = true) (hN : X.N.Nodup) (hy : X.N[j]? = some y) (hyl : X.env.scope.names.lookup y = some .local)
    (hsw : swapsWith (.ListComp elt [⟨tg, iter, ifs, 0⟩] scope pos) (some (.Name y py)) spos.line X.env = pure true) (hK : c.K = X.K) (ok : BlkOk X.N X.env.scope scope own) (hT : okT (own.map (·.2)) T = true) (hi : i ∉ own.map (·.2)) (ho : PE X iter (tVar i))
    (hg : ∀ (s : Shared) (H : Hp) (C : Addr) (cl : List (Str × Addr)) (fp : List Addr), PG (X.blk s H scope (compEnvC scope cl C X.env) fp) tg (tGx c T)) (ht : ∀ (s : Shared) (H : Hp) (C : Addr) (cl : List (Str × Addr)) (fp : List Addr), PTs (X.blk s H scope (compEnvC scope cl C X.env) fp) ifs (tTx c t))
    (he : ∀ (s : Shared) (H : Hp) (C : Addr) (cl : List (Str × Addr)) (fp : List Addr), PE (X.blk s H scope (compEnvC scope cl C X.env) fp) elt (tEx c m)) (hs : ∀ x, foldedSetIterable iter X.env x = pure x := by intro _; rfl) :
    PS X (.Assign [.Name y py] (.ListComp elt [⟨tg, iter, ifs, 0⟩] scope pos) spos) (tS c W (sSet j (mLcO i T t m (own.map (·.2))))) := (ps_setLc hc hN hy hyl hsw (pi_list ho) ok hg ht he hs).imp fun Z σ H q => lcO_ok hK hT hi (tE_tF mLcO_lst (set_ok q))
/-! ### for, over an own list -/
def forO (i : Nat) (T : Tg) (m : En → Rs) : Nat → Nat → En → Rs
  | 0, _, _ => .no
  | n + 1, k, e => match ownV e i with
    | some (.lst xs) => (match xs[k]? with
      | none => .nx e
      | some d => (match bindT T d e with
        | none => .no
        | some e1 => (match m e1 with
          | .nx e2 => forO i T m n (k + 1) e2
          | .ct e2 => forO i T m n (k + 1) e2
          | .bk e2 => .nx e2
          | r' => r')))
    | _ => .no
def sForO (i : Nat) (T : Tg) (m : En → Rs) : En → Rs := fun env => if hasT T i = true then .no else forO i T m lim 0 env
end
end PV

/-! sorted, of a list of tuples of ints (the empty tuple may be among them) -/
namespace TiS
open PySem PySem.W PySem.Calls PyProof.Rows Builtin
section
variable {prog : Program} {w : World} {A : Around} {E : Value → Shared → Prop} {s : Shared}
theorem lex_kat {Q : Bool → Shared → Prop} {b fin : Bool} : ∀ {xs ys : List Value} {ns ms : List Int} (i : Nat), IntsAre xs ns → IntsAre ys ms → fin = decide (ns.length < ms.length) → Q (HT.lexLt ns ms) s → KatLex prog w A b fin Q (xs.zip ys) i s
  | _, _, _, _, i, .nil, .nil, hf, h => by
    have e : fin = false := by rw [hf]; rfl
    subst e
    exact kat_nil h
  | _, _, _, _, i, .nil, .cons q u hy, hf, h => by
    have e : fin = true := by rw [hf]; exact decide_eq_true (Nat.succ_pos _)
    subst e
    exact kat_nil h
  | _, _, _, _, i, .cons p t hx, .nil, hf, h => by
    have e : fin = false := by rw [hf]; exact decide_eq_false (Nat.not_lt_zero _)
    subst e
    exact kat_nil h
  | _, _, _, _, i, .cons p t hx, .cons q u hy, hf, h => by
    rw [HT.lexLt_cons] at h
    rw [List.zip_cons_cons]
    refine kat_cons (wpAny_eqBool_int ?_)
    refine kat_go (fun e => kat_yes ?_) (fun e => kat_no ?_)
    · have e : p = q := by simpa using e
      rw [if_pos e] at h
      refine lex_kat (i + 1) hx hy ?_ h
      rw [hf]
      simp only [List.length_cons, Nat.add_lt_add_iff_right]
    · have e : ¬ p = q := by simpa using e
      rw [if_neg e] at h
      exact TS.oneLt_ints _ h
theorem cmp_kat {vs : List Value} {k : Value → List Int} (hv : ∀ v ∈ vs, TS.TupInts s.heap v (k v)) (b : Bool) : SrtO.Cmp prog w A s (tuples' b) (fun p => p.1 ∈ vs) (SrtO.lt2 fun v u => HT.lexLt (k v) (k u)) := by
  intro p q hp hq
  have h1 := hv p.1 hp
  have h2 := hv q.1 hq
  show wpAny (model prog w) A (keyLt' (tuples' b) p.1 q.1) (fun r s' => s' = s ∧ r = HT.lexLt (k p.1) (k q.1)) (fun _ _ => False) s
  generalize k p.1 = ns at h1 ⊢
  generalize k q.1 = ms at h2 ⊢
  obtain ⟨a, xs, e1, ⟨o, ho, hc, n, hd⟩, i⟩ := h1
  obtain ⟨a', ys, e2, ⟨o', ho', hc', n', hd'⟩, i'⟩ := h2
  rw [e1, e2]
  refine kat_lt ho hd ho' hd' (lex_kat 0 i i' ?_ ⟨rfl, rfl⟩)
  have l1 := i.length
  have l2 := i'.length
  rw [Array.length_toList] at l1 l2
  rw [l1, l2]
theorem keyLt_general (x y : Value) : keyLt' general' x y = oneLt' false x y := rfl
theorem cmp_general {vs : List Value} {k : Value → List Int} (hu : A.units < cLine) (hv : ∀ v ∈ vs, TS.TupInts s.heap v (k v)) : SrtO.Cmp prog w A s general' (fun p => p.1 ∈ vs) (SrtO.lt2 fun v u => HT.lexLt (k v) (k u)) := by
  intro p q hp hq
  have h1 := hv p.1 hp
  have h2 := hv q.1 hq
  show wpAny (model prog w) A (keyLt' general' p.1 q.1) (fun r s' => s' = s ∧ r = HT.lexLt (k p.1) (k q.1)) (fun _ _ => False) s
  generalize k p.1 = ns at h1 ⊢
  generalize k q.1 = ms at h2 ⊢
  obtain ⟨a, xs, e1, ht, i⟩ := h1
  obtain ⟨a', ys, e2, ht', i'⟩ := h2
  rw [e1, e2, keyLt_general]
  exact kat_one _ _ (HT.lt_tupInts ht ht' i i' hu ⟨rfl, rfl⟩)
theorem cmp_one {vs : List Value} {k : Value → List Int} (hu : A.units + 1 < cLine) (hv : ∀ v ∈ vs, TS.TupInts s.heap v (k v)) : SrtO.Cmp prog w A s oneType' (fun p => p.1 ∈ vs) (SrtO.lt2 fun v u => HT.lexLt (k v) (k u)) := by
  intro p q hp hq
  have h1 := hv p.1 hp
  have h2 := hv q.1 hq
  show wpAny (model prog w) A (keyLt' oneType' p.1 q.1) (fun r s' => s' = s ∧ r = HT.lexLt (k p.1) (k q.1)) (fun _ _ => False) s
  generalize k p.1 = ns at h1 ⊢
  generalize k q.1 = ms at h2 ⊢
  obtain ⟨a, xs, e1, ⟨⟨cls, dd, data, sl⟩, ho, hc, n, hd⟩, i⟩ := h1
  obtain ⟨a', ys, e2, ⟨⟨cls2, dd2, data2, sl2⟩, ho2, hc2, n2, hd2⟩, i'⟩ := h2
  simp only at hc hd hc2 hd2
  subst hc hd hc2 hd2
  rw [e1, e2, keyLt'_oneType, oneLt'_eq]
  simp only [if_true]
  refine wpAny_bind (wpAny_cRoomFor (by omega) ?_)
  refine wpAny_bind (wpAny_callSpecialIfBound?_slot (T := "tuple") ⟨_, ho, rfl⟩ PySem.F.slot_tuple_lt (call_meets PySem.F.slot_tuple_lt ⟨_, ho, rfl⟩ PySem.F.entry_tuple_lt (PySem.F.args_tuple_lt_2 _ _) (HT.tuple_lt_ints a a' xs ys n n2 dd dd2 sl sl2 ns ms i i') ⟨ho, ho2, ?_⟩))
  exact wpAny_truthy_bool ⟨rfl, rfl⟩
/-! the kind -/
theorem firstsO : ∀ {vs : List Value} {k : Value → List Int}, (∀ v ∈ vs, TS.TupInts s.heap v (k v)) → ∃ os : List (Option Value), os.map Option.isSome = vs.map (fun v => !(k v).isEmpty) ∧ (∀ o ∈ os, ∀ v, o = some v → ∃ n t, v = Value.int n t) ∧
    ∀ (M : Model) (A : Around) (E : Value → Shared → Prop) (Q : List (Option Value) → Shared → Prop), Q os s → wpAny M A (vs.mapM firstOfTuple') Q E s
  | [], k, _ => ⟨[], rfl, fun o h => (nomatch h), fun M A E Q h => by rw [List.mapM_nil]; exact wpAny_pure h⟩
  | v :: vs, k, hv => by
    obtain ⟨os, h1, h2, h3⟩ := firstsO fun u hu => hv u (List.mem_cons_of_mem _ hu)
    have hv0 := hv v (List.mem_cons_self ..)
    generalize hk : k v = ns at hv0
    obtain ⟨a, xs, e, ⟨o, ho, hc, n, hd⟩, i⟩ := hv0
    refine ⟨xs[0]? :: os, ?_, ?_, fun M A E Q h => ?_⟩
    · rw [List.map_cons, List.map_cons, h1, hk]
      congr 1
      have l1 := i.length
      rw [Array.length_toList] at l1
      cases ns with
      | nil =>
        rw [Array.getElem?_eq_none (by rw [l1]; exact Nat.le_refl _)]
        rfl
      | cons y ys =>
        rw [Array.getElem?_eq_getElem (by rw [l1]; exact Nat.succ_pos _)]
        rfl
    · intro o' ho' u hu
      rcases List.mem_cons.mp ho' with rfl | ho'
      · have hm : u ∈ xs.toList := by
          rw [Array.getElem?_eq_some_iff] at hu
          obtain ⟨hl, rfl⟩ := hu
          exact Array.mem_toList_iff.mpr (Array.getElem_mem hl)
        exact i.all u hm
      · exact h2 o' ho' u hu
    · rw [List.mapM_cons]
      refine wpAny_bind ?_
      rw [e, kas_first_eq]
      refine wpAny_bind (Looks.here (show Looks M s.heap (typeOf (.ref a)) o.cls from (Looks.ld ho).andThen .now) ?_)
      rw [hc, if_neg (by first | decide | simp)]
      refine wpAny_bind (listItems_at ho hd (wpAny_pure ?_))
      exact wpAny_bind (h3 M A E _ (wpAny_pure h))
theorem tup_sortable {a : Addr} {vs : List Value} {k : Value → List Int} (h0 : 2 ≤ vs.length) (hu : A.units + 1 < cLine) (hp : ∀ v ∈ vs, TS.TupInts s.heap v (k v)) (ha : ∀ o, s.heap.get? a = some o → o.cls ≠ .type "tuple") : SrtO.SortableO prog w A s a vs fun v u => HT.lexLt (k v) (k u) := by
  intro h' keep
  have hp' : ∀ v ∈ vs, TS.TupInts h' v (k v) := fun v hm => (hp v hm).keeps fun b o e c => keep b o (fun z => by subst z; exact ha o e c) e
  obtain ⟨os, h1, h2, h3⟩ := firstsO (s := { s with heap := h' }) hp'
  have hT : ∀ v ∈ vs, Looks (model prog w) h' (typeOf v) (.type "tuple") := fun v hm => by
    obtain ⟨a, xs, e, ⟨o, ho, hc, n, hd⟩, i⟩ := hp' v hm
    rw [e]
    have : Looks (model prog w) h' (typeOf (.ref a)) o.cls := (Looks.ld ho).andThen .now
    rw [hc] at this
    exact this
  by_cases hall : ∀ o ∈ os, o.isSome = true
  · refine ⟨tuples' true, fun Q E hq => ?_, cmp_kat (s := { s with heap := h' }) hp' true⟩
    rw [kat_kind_eq, List.mapM_toArray, map_eq_pure_bind]
    refine wpAny_bind (wpAny_bind (h3 _ _ _ _ (wpAny_pure ?_)))
    have ha : (os.toArray.all fun x => x.isSome) = true := by simpa using hall
    rw [if_pos ha]
    refine wpAny_bind (wpAny_rule ?_)
    have hlen : os.length = vs.length := by
      have := congrArg List.length h1
      simpa using this
    obtain ⟨fs, rfl⟩ : ∃ fs : List Value, os = fs.map some := by
      clear h1 h3 ha hlen h2
      induction os with
      | nil => exact ⟨[], rfl⟩
      | cons o os ih =>
        obtain ⟨fs, e⟩ := ih fun x hx => hall x (List.mem_cons_of_mem _ hx)
        obtain ⟨f, e1⟩ := Option.isSome_iff_exists.mp (hall o (List.mem_cons_self ..))
        exact ⟨f :: fs, by rw [e, e1]; rfl⟩
    have hfm : ((fs.map some).toArray.filterMap id) = fs.toArray := by simp
    rw [hfm, oneTypeOnly'_eq, List.mapM_toArray, map_eq_pure_bind]
    refine wpAny_bind (wpAny_bind (wpAny_bind (kas_mapM (r := Value.type "int") _ (fun v hv Q' hq => ?_) (wpAny_pure ?_))))
    · obtain ⟨n, t, rfl⟩ := h2 (some v) (List.mem_map.mpr ⟨v, hv, rfl⟩) v rfl
      exact (Looks.of_pure (M := model prog w) (h := h') (t := typeOf (Value.int n t)) rfl).here hq
    · rw [List.length_map] at hlen
      obtain ⟨f₁, fr, rfl⟩ : ∃ f₁ fr, fs = f₁ :: fr := by
        match fs, hlen with
        | [], hl => rw [List.length_nil] at hl; omega
        | f₁ :: fr, _ => exact ⟨f₁, fr, rfl⟩
      have hall2 : ((List.map (fun _ => Value.type "int") (f₁ :: fr)).toArray.all fun x => x == Value.type "int") = true := by
        simp only [List.all_toArray, List.all_map, List.all_eq_true]
        intro _ _
        rfl
      have h0 : (List.map (fun _ => Value.type "int") (f₁ :: fr)).toArray[0]? = some (Value.type "int") := by simp
      rw [h0]
      simp only [hall2, if_true]
      refine wpAny_pure (wpAny_pure ?_)
      have e : (Value.type "int" != Value.type "tuple") = true := by first | decide +kernel | rfl | decide
      show Q (tuples' (Value.type "int" != Value.type "tuple")) _
      rw [e]
      exact hq
  · have hone : ∀ {A : Around} {E : Value → Shared → Prop} {Q : Option Value → Shared → Prop}, Q (some (.type "tuple")) { s with heap := h' } → wpAny (model prog w) A (oneTypeOnly' vs.toArray) Q E { s with heap := h' } := fun {A E Q} hq => by
      rw [oneTypeOnly'_eq, List.mapM_toArray, map_eq_pure_bind]
      refine wpAny_bind (wpAny_bind (kas_mapM (r := Value.type "tuple") _ (fun v hv Q' hq => (hT v hv).here hq) (wpAny_pure ?_)))
      obtain ⟨f₁, fr, rfl⟩ : ∃ f₁ fr, vs = f₁ :: fr := by
        match vs, h0 with
        | [], hl => rw [List.length_nil] at hl; omega
        | f₁ :: fr, _ => exact ⟨f₁, fr, rfl⟩
      have hall2 : ((List.map (fun _ => Value.type "tuple") (f₁ :: fr)).toArray.all fun x => x == Value.type "tuple") = true := by
        simp only [List.all_toArray, List.all_map, List.all_eq_true]
        intro _ _
        rfl
      have h0 : (List.map (fun _ => Value.type "tuple") (f₁ :: fr)).toArray[0]? = some (Value.type "tuple") := by simp
      rw [h0]
      simp only [hall2, if_true]
      exact wpAny_pure hq
    have ha : (os.toArray.all fun x => x.isSome) = false := by
      rw [← Bool.not_eq_true]
      intro z
      exact hall (by simpa using z)
    cases hz : (os.toArray[0]?.bind id).isSome with
    | true =>
      refine ⟨general', fun Q E hq => ?_, cmp_general (s := { s with heap := h' }) (by omega) hp'⟩
      rw [kat_kind_eq, List.mapM_toArray, map_eq_pure_bind]
      refine wpAny_bind (wpAny_bind (h3 _ _ _ _ (wpAny_pure ?_)))
      rw [if_neg (by rw [ha]; exact Bool.false_ne_true), if_pos hz]
      exact wpAny_pure hq
    | false =>
      refine ⟨oneType', fun Q E hq => ?_, cmp_one (s := { s with heap := h' }) hu hp'⟩
      rw [kat_kind_eq, List.mapM_toArray, map_eq_pure_bind]
      refine wpAny_bind (wpAny_bind (h3 _ _ _ _ (wpAny_pure ?_)))
      rw [if_neg (by rw [ha]; exact Bool.false_ne_true), if_neg (by rw [hz]; exact Bool.false_ne_true)]
      refine wpAny_bind (hone ?_)
      exact wpAny_pure hq
end
end TiS
namespace L2
open PySem PySem.Spec PyProof.Rows
/-- sorted(xs), xs a list of tuples of ints -/
def rSortedTI (K : PySem.W.Frag) : List V → Hp → VK → Prop := fun vs H Q => ∃ (a : Addr) (ps : List (Addr × List Int)), vs = [V.ref a] ∧ SqL K H a (ps.map fun p => V.ref p.1) ∧ (∀ p ∈ ps, SqT K H p.1 (p.2.map V.int)) ∧
  ∀ (ps' : List (Addr × List Int)) (p : Addr), ps'.Perm ps → ps'.Pairwise (fun p q => HT.lexLt q.2 p.2 = false) → H p = none → Q (.ref p) (upd H p (.lst (ps'.map fun p => V.ref p.1)))
section
variable {X : Cx}
theorem cr_sortedTI (hu : X.A.units + 64 < cLine) : CallR X (.builtin "sorted") (rSortedTI X.K) := by
  intro pins s σ H vs us Q I r h
  obtain ⟨a, ps, rfl, hs, hx, q⟩ := h
  obtain ⟨its, rv, hl, hz⟩ := I.list hs
  rw [Vals.ref1 r]
  have ei : its = ps.map fun p => Value.ref p.1 := by
    have := nts_of (ts := ps.map (·.1)) (us := its) (by rw [List.map_map]; exact rv)
    rw [this, List.map_map]
    rfl
  have hzs : its.length ≤ sizeLine := by rw [← rv.length]; exact hz
  have hps : ∀ p ∈ ps, TS.TupInts s.heap (.ref p.1) p.2 := fun p hp => by
    obtain ⟨zs, rz, pz, _⟩ := I.tuple (hx p hp)
    exact ⟨p.1, zs.toArray, rfl, pz, intsAre_of rz⟩
  have hk : ∀ p ∈ ps, TS.intsOf s.heap (.ref p.1) = p.2 := fun p hp => (hps p hp).ints
  have hv : ∀ u ∈ its, TS.TupInts s.heap u (TS.intsOf s.heap u) := fun u hm => by
    rw [ei] at hm
    obtain ⟨p, hp, rfl⟩ := List.mem_map.mp hm
    rw [hk p hp]
    exact hps p hp
  refine SrtO.sorted_ord (NtL.swo_lexL fun u => TS.intsOf s.heap u) hl.isList hzs (fun h2 h₁ b hb kk => ?_) fun out h1 h2 => ?_
  · refine TiS.tup_sortable (s := { s with heap := h₁ }) h2 (by show X.A.units + 1 + 1 + 1 < cLine; omega) (fun v hm => (hv v hm).keeps fun b o e _ => (kk b o e).2) fun o e => ?_
    have e' : some o = some (seqObj "list" its.toArray 0) := e.symm.trans hb
    cases e'
    intro c
    exact absurd (Value.type.inj c) (by decide)
  · obtain ⟨ep, he'⟩ := PyProof.Rows.sortedAll_at s.heap its out.toArray
    let f : Value → Addr × List Int := fun u => (adO u, TS.intsOf s.heap u)
    have eo : out = (out.map f).map fun p => Value.ref p.1 := by
      rw [List.map_map]
      refine (List.map_id out).symm.trans (List.map_congr_left fun u hm => ?_)
      have hm' : u ∈ its := h2.perm.mem_iff.mp hm
      rw [ei] at hm'
      obtain ⟨t, _, rfl⟩ := List.mem_map.mp hm'
      rfl
    have hp : (out.map f).Perm ps := by
      have p1 := h2.perm.map f
      have e2 : its.map f = ps := by
        rw [ei, List.map_map]
        refine Eq.trans (List.map_congr_left fun p hp => ?_) (List.map_id ps)
        show (p.1, TS.intsOf s.heap (.ref p.1)) = p
        rw [hk p hp]
      rw [e2] at p1
      exact p1
    have hsrt : (out.map f).Pairwise (fun p q => HT.lexLt q.2 p.2 = false) := List.pairwise_map.mpr (h1.imp fun {x y} z => z)
    have hlen : ((out.map f).map fun p => V.ref p.1).length ≤ sizeLine := by
      rw [List.length_map, hp.length_eq]
      rw [List.length_map] at hz
      exact hz
    have rvo : Vals ((out.map f).map fun p => V.ref p.1) out := by
      have z := of_nts ((out.map f).map (·.1))
      have e3 : ((out.map f).map (·.1)).map Value.ref = out := (List.map_map ..).trans eo.symm
      have e4 : ((out.map f).map (·.1)).map V.ref = (out.map f).map fun p => V.ref p.1 := List.map_map ..
      rw [e3, e4] at z
      exact z
    exact ⟨.ref _, upd H (s.heap.objs.size + 1) (.lst ((out.map f).map fun p => V.ref p.1)), I.laid (t' := s.toks) (fun _ _ e => PyProof.Rows.sortedAll_old e) (Nat.le_succ _) ⟨hlen, out, ep, rvo, he'⟩, rfl, q _ _ hp hsrt (I.hok.fresh (Nat.le_succ _))⟩
end
end L2
namespace PV
open PySem PySem.Spec PyProof.Rows L2
section
variable {c : Cn} {W : WX} {X : Cx}
/-! ### lists of int lists, in order -/
def tupI (ns : List Int) : D := .tup (ns.map D.int)
def tupsI : List D → Option (List (List Int))
  | [] => some []
  | .tup xs :: r => (intsD xs).bind fun ns => (tupsI r).map (ns :: ·)
  | _ => none
theorem tupsI_map : ∀ l : List (List Int), tupsI (l.map tupI) = some l
  | [] => rfl
  | ns :: r => by
    show (intsD (ns.map D.int)).bind (fun ns => (tupsI (r.map tupI)).map (ns :: ·)) = _
    have e : ∀ l : List Int, intsD (l.map D.int) = some l := fun l => by
      induction l with
      | nil => rfl
      | cons x r ih =>
        show (intsD (r.map D.int)).map (x :: ·) = _
        rw [ih]
        rfl
    rw [e ns, tupsI_map r]
    rfl
def leL (a b : List Int) : Prop := HT.lexLt b a = false
def insL (x : List Int) : List (List Int) → List (List Int)
  | [] => [x]
  | y :: r => if HT.lexLt y x = false then x :: y :: r else y :: insL x r
def srtL : List (List Int) → List (List Int)
  | [] => []
  | x :: r => insL x (srtL r)
theorem insL_perm (x : List Int) : ∀ l : List (List Int), (insL x l).Perm (x :: l)
  | [] => .refl _
  | y :: r => by
    unfold insL
    split
    · exact .refl _
    · exact ((insL_perm x r).cons y).trans (.swap x y r)
theorem srtL_perm : ∀ l : List (List Int), (srtL l).Perm l
  | [] => .refl _
  | x :: r => by
    unfold srtL
    exact (insL_perm x _).trans ((srtL_perm r).cons x)
theorem leL_trans {a b d : List Int} (h1 : leL a b) (h2 : leL b d) : leL a d := NtL.lex_tr a b d h1 h2
theorem leL_anti : ∀ {a b : List Int}, leL a b → leL b a → a = b
  | [], [], _, _ => rfl
  | [], y :: ys, _, h => by cases h
  | x :: xs, [], h, _ => by cases h
  | x :: xs, y :: ys, h1, h2 => by
    unfold leL at h1 h2
    rw [HT.lexLt_cons] at h1 h2
    by_cases e : x = y
    · rw [if_pos e.symm] at h1
      rw [if_pos e] at h2
      rw [e, leL_anti h1 h2]
    · rw [if_neg (Ne.symm e)] at h1
      rw [if_neg e] at h2
      have := of_decide_eq_false h1
      have := of_decide_eq_false h2
      omega
theorem insL_srt (x : List Int) : ∀ {l : List (List Int)}, l.Pairwise leL → (insL x l).Pairwise leL
  | [], _ => by
    unfold insL
    simp
  | y :: r, h => by
    unfold insL
    rw [List.pairwise_cons] at h
    split
    · rename_i hx
      refine List.pairwise_cons.mpr ⟨fun z hz => ?_, List.pairwise_cons.mpr h⟩
      rcases List.mem_cons.mp hz with e | hz
      · rw [e]; exact hx
      · exact leL_trans hx (h.1 z hz)
    · rename_i hx
      have hx : HT.lexLt y x = true := by
        rw [← Bool.not_eq_false]
        exact hx
      refine List.pairwise_cons.mpr ⟨fun z hz => ?_, insL_srt x h.2⟩
      rcases List.mem_cons.mp ((insL_perm x r).mem_iff.mp hz) with e | hz
      · rw [e]; exact NtL.lex_asym _ _ hx
      · exact h.1 z hz
theorem srtL_srt : ∀ l : List (List Int), (srtL l).Pairwise leL
  | [] => by
    unfold srtL
    exact .nil
  | x :: r => by
    unfold srtL
    exact insL_srt x (srtL_srt r)
theorem srtL_one {a b : List (List Int)} (h : a.Perm b) (sa : a.Pairwise leL) (sb : b.Pairwise leL) : a = b := h.eq_of_pairwise (fun x y _ _ h1 h2 => leL_anti h1 h2) sa sb
def oSortedT : List D → Option D
  | [d] => ((lstD d).bind tupsI).map fun nss => .lst ((srtL nss).map tupI)
  | _ => none
theorem intsD_vals {g : Gc} {F : Hp} : ∀ {xs : List D} {vs : List V} {ns : List Int}, Reps g F xs vs → intsD xs = some ns → vs = ns.map V.int
  | _, _, ns, .nil, e => by
    cases e
    rfl
  | _, _, ns, @Reps.cons _ _ x xs v vs h t, e => by
    cases x with
    | int i =>
      have e : (intsD xs).map (i :: ·) = some ns := e
      cases q : intsD xs with
      | none =>
        rw [q] at e
        cases e
      | some ms =>
        rw [q] at e
        cases e
        cases h
        rw [List.map_cons, intsD_vals t q]
    | _ => cases e
theorem tups_refs {g : Gc} {F : Hp} : ∀ {xs : List D} {vs : List V} {nss : List (List Int)}, Reps g F xs vs → tupsI xs = some nss → ∃ ps : List (Addr × List Int), vs = ps.map (fun p => V.ref p.1) ∧ nss = ps.map (·.2) ∧ ∀ p ∈ ps, SqT g.K F p.1 (p.2.map V.int)
  | _, _, nss, .nil, e => by
    cases e
    exact ⟨[], rfl, rfl, fun p hp => (nomatch hp)⟩
  | _, _, nss, @Reps.cons _ _ x xs v vs h t, e => by
    cases x with
    | tup ys =>
      have e : (intsD ys).bind (fun ns => (tupsI xs).map (ns :: ·)) = some nss := e
      cases q : intsD ys with
      | none =>
        rw [q] at e
        cases e
      | some ms =>
        rw [q] at e
        cases q2 : tupsI xs with
        | none =>
          rw [q2] at e
          cases e
        | some mss =>
          rw [q2] at e
          cases e
          obtain ⟨ps, h1, h2, h3⟩ := tups_refs t q2
          cases h with
          | @tup a _ ws hs hr =>
            refine ⟨(a, ms) :: ps, by rw [h1]; rfl, by rw [h2]; rfl, fun p hp => ?_⟩
            rcases List.mem_cons.mp hp with rfl | hp
            · rw [← intsD_vals hr q]
              exact hs
            · exact h3 p hp
    | _ => cases e
theorem of_sortedT {g : Gc} : OpF g (rSortedTI g.K) oSortedT := fun ds vs d F H Q w R e k => by
  unfold oSortedT at e
  split at e
  · rename_i d1
    cases q : lstD d1 with
    | none =>
      rw [q] at e
      cases e
    | some xs =>
      rw [q] at e
      cases q2 : tupsI xs with
      | none =>
        rw [show ((some xs).bind tupsI) = tupsI xs from rfl, q2] at e
        cases e
      | some nss =>
        rw [show ((some xs).bind tupsI) = tupsI xs from rfl, q2] at e
        cases e
        obtain ⟨x, rfl, h1⟩ := R.one
        obtain ⟨a, ws, rfl, h2, h3⟩ := h1.list_ w q
        obtain ⟨ps, rfl, rfl, h4⟩ := tups_refs h3 q2
        refine ⟨a, ps, rfl, h2, fun p hp => sqT_mono w.sub (h4 p hp), fun ps' p hp hs hn => ?_⟩
        have e : ps'.map (·.2) = srtL (ps.map (·.2)) := srtL_one ((hp.map (·.2)).trans (srtL_perm _).symm) (List.pairwise_map.mpr (hs.imp fun {x y} z => z)) (srtL_srt _)
        refine k p _ hn ?_
        show RepO g F (.lst ((srtL (ps.map (·.2))).map tupI)) _
        rw [← e, List.map_map]
        refine .lst ?_
        have hm : ∀ t ∈ ps', SqT g.K F t.1 (t.2.map V.int) := fun t ht => h4 t (hp.mem_iff.mp ht)
        clear e hs hn hp
        induction ps' with
        | nil => exact .nil
        | cons t r ih =>
          exact .cons (.tup (hm t (List.mem_cons_self ..)) (Reps.ofInts _)) (ih fun t ht => hm t (List.mem_cons_of_mem _ ht))
  · cases e
/-- sorted: of a list of ints, a dict with int keys, a list of tuples of ints -/
def rSortedY (K : PySem.W.Frag) : List V → Hp → VK → Prop := fun xs H Q => rSortedX K xs H Q ∨ rSortedTI K xs H Q
theorem cr_sortedY (hc : X.calm = true) (hu : X.A.units + 64 < cLine) : CallR X (.builtin "sorted") (rSortedY X.K) := (cr_sortedX hc).or (cr_sortedTI hu)
def oSortedY (ds : List D) : Option D := (oSortedX ds).or (oSortedT ds)
theorem of_sortedY {g : Gc} : OpF g (rSortedY g.K) oSortedY := fun ds vs d F H Q w R e k => by
  unfold oSortedY at e
  cases q : oSortedX ds with
  | some d1 =>
    rw [q] at e
    cases e
    exact .inl (of_sortedX ds vs d F H Q w R q k)
  | none =>
    rw [q] at e
    exact .inr (of_sortedT ds vs d F H Q w R e k)
end
end PV

/-! in, of data in a list or a tuple of data -/
namespace PV
open PySem PySem.Spec PyProof.Rows L2
section
variable {c : Cn} {W : WX} {X : Cx}
def rInT (K : PySem.W.Frag) (neg : Bool) : R2 := fun x y H Q => ∃ d ds, Dp K H x d ∧ (Dp K H y (.list ds) ∨ Dp K H y (.tuple ds)) ∧ SeqAt.shaped d = true ∧ PyData.canLayAll0 ds = true ∧ d.depth ≤ 60 ∧ Q (.bl (if neg then !ds.any (fun z => PyData.eqv z d) else ds.any fun z => PyData.eqv z d)) H
theorem op_inT (hu : X.A.units + 64 < cLine) : OpR X (compareOp .In) (rInT X.K false) := by
  intro pins s σ H x y v u Q I rx ry h
  obtain ⟨d, ds, hd, he, sd, se, hk, q⟩ := h
  obtain ⟨as, r1⟩ := Dp.reads I d x v hd rx
  have hr : X.A.units + 1 + min (PyData.depthAll ds) d.depth < cLine := by
    have := Nat.min_le_right (PyData.depthAll ds) d.depth
    omega
  rcases he with he | he
  · obtain ⟨bs, r2⟩ := Dp.reads I (.list ds) y u he ry
    exact SeqAt.in_list_reads r2 r1 se (SeqAt.canLay_of_shaped sd) hr ⟨.bl _, H, I, rfl, q⟩
  · obtain ⟨bs, r2⟩ := Dp.reads I (.tuple ds) y u he ry
    exact SeqAt.in_tuple_reads r2 r1 se (SeqAt.canLay_of_shaped sd) hr ⟨.bl _, H, I, rfl, q⟩
theorem op_notInT (hu : X.A.units + 64 < cLine) : OpR X (compareOp .NotIn) (rInT X.K true) := by
  intro pins s σ H x y v u Q I rx ry h
  obtain ⟨d, ds, hd, he, sd, se, hk, q⟩ := h
  obtain ⟨as, r1⟩ := Dp.reads I d x v hd rx
  have hr : X.A.units + 1 + min (PyData.depthAll ds) d.depth < cLine := by
    have := Nat.min_le_right (PyData.depthAll ds) d.depth
    omega
  rcases he with he | he
  · obtain ⟨bs, r2⟩ := Dp.reads I (.list ds) y u he ry
    exact SeqAt.notIn_list_reads r2 r1 se (SeqAt.canLay_of_shaped sd) hr ⟨.bl _, H, I, rfl, q⟩
  · obtain ⟨bs, r2⟩ := Dp.reads I (.tuple ds) y u he ry
    exact SeqAt.notIn_tuple_reads r2 r1 se (SeqAt.canLay_of_shaped sd) hr ⟨.bl _, H, I, rfl, q⟩
def itemsP : PyData → Option (List PyData)
  | .list ds => some ds
  | .tuple ds => some ds
  | _ => none
def inT (neg : Bool) : List D → Option D
  | [d, e] => (toP d).bind fun p => ((toP e).bind itemsP).bind fun ds => if SeqAt.shaped p = true ∧ PyData.canLayAll0 ds = true ∧ p.depth ≤ 60 then some (.bl (if neg then !ds.any (fun z => PyData.eqv z p) else ds.any fun z => PyData.eqv z p)) else none
  | _ => none
theorem oa_inT {g : Gc} (neg : Bool) : OpA g (r2 (rInT g.K neg)) (inT neg) := fun ds vs d F H Q w R e k => by
  unfold inT at e
  split at e
  · rename_i d1 d2
    obtain ⟨x, y, rfl, h1, h2⟩ := R.two
    cases q1 : toP d1 with
    | none =>
      rw [q1] at e
      cases e
    | some p =>
      cases q2 : toP d2 with
      | none =>
        rw [q1, q2] at e
        cases e
      | some q =>
        rw [q1, q2] at e
        have e : ((itemsP q).bind fun ds => if SeqAt.shaped p = true ∧ PyData.canLayAll0 ds = true ∧ p.depth ≤ 60 then some (.bl (if neg then !ds.any (fun z => PyData.eqv z p) else ds.any fun z => PyData.eqv z p)) else none) = some d := e
        have hy := h2.dp w q2
        have fin : ∀ ps : List PyData, (Dp g.K H y (.list ps) ∨ Dp g.K H y (.tuple ps)) → (if SeqAt.shaped p = true ∧ PyData.canLayAll0 ps = true ∧ p.depth ≤ 60 then some (D.bl (if neg then !ps.any (fun z => PyData.eqv z p) else ps.any fun z => PyData.eqv z p)) else none) = some d → r2 (rInT g.K neg) [x, y] H Q := fun ps hp e => by
          split at e
          · rename_i hs
            cases e
            exact ⟨p, ps, h1.dp w q1, hp, hs.1, hs.2.1, hs.2.2, k _ H F (Go.refl w) .bl⟩
          · cases e
        cases q with
        | list ps => exact fin ps (.inl hy) e
        | tuple ps => exact fin ps (.inr hy) e
        | _ => cases e
  · cases e
def rInY (K : PySem.W.Frag) (neg : Bool) : R2 := fun x y H Q => rInX K neg x y H Q ∨ rInT K neg x y H Q
theorem op_inY (hu : X.A.units + 64 < cLine) : OpR X (compareOp .In) (rInY X.K false) := (op_inX hu).or (op_inT hu)
theorem op_notinY (hu : X.A.units + 64 < cLine) : OpR X (compareOp .NotIn) (rInY X.K true) := (op_notinX hu).or (op_notInT hu)
def inY (neg : Bool) (ds : List D) : Option D := (inX neg ds).or (inT neg ds)
theorem r2_or {r r' : R2} {vs : List V} {H : Hp} {Q : VK} (h : r2 r vs H Q ∨ r2 r' vs H Q) : r2 (fun x y H Q => r x y H Q ∨ r' x y H Q) vs H Q := by
  match vs, h with
  | [x, y], h => exact h
theorem oa_inY {g : Gc} (neg : Bool) : OpA g (r2 (rInY g.K neg)) (inY neg) := fun ds vs d F H Q w R e k => by
  unfold inY at e
  cases q : inX neg ds with
  | some d1 =>
    rw [q] at e
    cases e
    exact r2_or (.inl (oa_inX neg ds vs d F H Q w R q k))
  | none =>
    rw [q] at e
    exact r2_or (.inr (oa_inT neg ds vs d F H Q w R e k))
end
end PV

/-! sorted(set(x)), x a list or a tuple of ints -/
namespace L2
open PySem PySem.Spec PyProof.Rows
section
variable {P : Program} {w : World} {A : Around} {E : Value → Shared → Prop} {s : Shared}
/-- a new set's object -/
abbrev set0 (w : World) : Obj := { cls := .type "set", dict := none, data := .set #[] 0 (.fresh 0 0 (!w.params.followText "set-order")) }
/-- the loop of set(x) over a list of ints -/
theorem set_init_listI {l : Addr} {items : Array Value} {ns : List Int} (hh : A.handled = none) (hl : s.heap.IsList l items) (hi : IntsAre items.toList ns) (hb : ns.length + 1 < scanBound) {R : Result → Shared → Prop}
    (h : ∀ (h' : Heap) (tk c : Nat), SetR w h' s.heap.objs.size (fun j => decide (j ∈ ns)) c → c ≤ ns.length → (∀ b o, s.heap.get? b = some o → h'.get? b = some o) → R (.ok (.ret .none)) { s with heap := h', toks := tk }) :
    codeAny (model P w) A (.builtin "set.update.loop" ⟨[.ref s.heap.objs.size, .ref (s.heap.push (set0 w)).objs.size], []⟩) R { s with heap := (s.heap.push (set0 w)).push { cls := .type "list_iterator", data := .fields #[.ref l, .int 0 0] } } := by
  have hz : items.size = ns.length := by
    have q := IntsAre.length hi
    rw [Array.length_toList] at q
    exact q
  have hlS : l < s.heap.objs.size := let ⟨_, ho, _⟩ := hl; Heap.lt_size ho
  have hI : l ≠ (s.heap.push (set0 w)).objs.size := by rw [Heap.size_push]; exact Nat.ne_of_lt (Nat.lt_succ_of_lt hlS)
  have hS : s.heap.objs.size ≠ (s.heap.push (set0 w)).objs.size := by rw [Heap.size_push]; exact Nat.ne_of_lt (Nat.lt_succ_self _)
  have h3 : A.in1.handled = none := by simp [hh]
  refine set_update_ints ((Walks.list h3 _ l hI items).toS) s.heap.objs.size (by simp only [List.mem_cons, List.not_mem_nil, or_false, not_or]; exact ⟨hS, Nat.ne_of_gt hlS⟩) ns hz hb (fun i v hv => ?_) (items.size - 0) 0 _ (by omega) (Nat.zero_le _)
    ⟨⟨_, Heap.get?_push_size _ rfl, rfl, rfl⟩, (hl.push _).push _⟩ ⟨0, Nat.le_refl 0, setR_new_at (Heap.get?_push_of_some _ (Heap.get?_push_size _ rfl))⟩ fun s' c hm hc hR => ?_
  · have hk : i < ns.length := by rw [← hz]; exact (Array.getElem?_eq_some_iff.mp hv).1
    obtain ⟨t, e⟩ := PyProof.Rows.IntsAre.int_at hi i v (by rw [Array.getElem?_toList]; exact hv)
    refine ⟨ns[i], t, List.getElem?_eq_getElem hk, ?_⟩
    rw [e, List.getD_eq_getElem?_getD, List.getElem?_eq_getElem hk] <;> rfl
  · obtain ⟨h', g2, d', tk', os'⟩ := s'
    have eg : g2 = s.gens := hm.gens
    have ed : d' = s.drawn := hm.drawn
    have eo : os' = s.os := hm.os
    subst eg; subst ed; subst eo
    rw [hz] at hc
    refine h h' tk' c hR hc fun b o e => ?_
    have b0 : b < s.heap.objs.size := Heap.lt_size e
    exact hm.heap b o (by simp only [List.mem_cons, List.not_mem_nil, or_false, not_or]; rw [Heap.size_push]; exact ⟨Nat.ne_of_lt b0, Nat.ne_of_lt (Nat.lt_succ_of_lt b0)⟩) (Heap.get?_push_of_some _ (Heap.get?_push_of_some _ e))
/-- set(x), x a list of ints -/
theorem call_set_listI {l : Addr} {items : Array Value} {ns : List Int} {Q : Value → Shared → Prop} (hh : A.handled = none) (hl : s.heap.IsList l items) (hi : IntsAre items.toList ns) (hb : ns.length + 1 < scanBound)
    (h : ∀ (h' : Heap) (tk c : Nat), SetR w h' s.heap.objs.size (fun j => decide (j ∈ ns)) c → c ≤ ns.length → (∀ b o, s.heap.get? b = some o → h'.get? b = some o) → Q (.ref s.heap.objs.size) { s with heap := h', toks := tk }) :
    wpAny (model P w) A (call (.type "set") [.ref l]) Q E s := by
  obtain ⟨c, tl, hmro⟩ := F.called_set.mro
  have hmade := F.called_set.made
  have hsub := F.called_set.sub
  refine wpAny_call (codeAny_of_tree ?_)
  show wpAny _ _ (callAny (.type "set") _) _ _ _
  refine wpAny_pure ⟨Code.quiet_builtin _ (by decide +kernel), codeAny_builtin F.entry_type_call ?_⟩
  rw [Around.under_plain (weight_type_call_type "set" [.ref l] []) rfl]
  have h1 := F.called_set.notType
  have h2 := F.called_set.canCreate
  have hct := F.typeCall_set_1 (.ref l)
  repeat (any_goals (first | assumption | wp_step))
  refine codeAny_mono (code_set_led1 (.ref l) (E := E) (Q₁ := fun obj s₁ => obj = .ref s.heap.objs.size ∧ s₁ = { s with heap := s.heap.push (set0 w) }) ⟨rfl, rfl⟩) fun r s₁ hr => ?_
  cases r with
  | error e => exact hr
  | ok fl =>
    cases fl with
    | ret obj =>
      obtain ⟨rfl, rfl⟩ := hr
      have hT : Shared.TypeIs { s with heap := s.heap.push (set0 w) } (.ref s.heap.objs.size) "set" := ⟨_, Heap.get?_push_size _ rfl, rfl⟩
      have hli := F.called_set.init.lookup
      have hbi := F.called_set.init.bind (.ref s.heap.objs.size)
      repeat (any_goals (first | assumption | wp_step))
      refine codeAny_mono (codeAny_call_builtin (R := wants (fun r s₂ => r = .none ∧ ∃ h' tk c, s₂ = { s with heap := h', toks := tk } ∧ SetR w h' s.heap.objs.size (fun j => decide (j ∈ ns)) c ∧ c ≤ ns.length ∧ (∀ b o, s.heap.get? b = some o → h'.get? b = some o)) E)
        F.called_set.init.plain F.entry_set_init (check_set_init_1 hT ?_)) fun r₂ s₂ hr₂ => ?_
      · have hl' := hl
        obtain ⟨⟨cl, dd, dat, sl⟩, hol, hcl, nl, hdl⟩ := hl
        simp only at hcl hdl
        subst hcl; subst hdl
        have hol' : (s.heap.push (set0 w)).get? l = some { cls := .type "list", dict := dd, data := .seq items nl, slots := sl } := Heap.get?_push_of_some _ hol
        have hsls := F.sub_list_set
        have hslf := F.sub_list_frozenset
        have hne : (Value.type "list" == Value.type "dict") = false := by decide
        have hl1 : (s.heap.push (set0 w)).IsList l items := ⟨_, hol', rfl, nl, rfl⟩
        unfold Builtin.«set.__init__» noKeywords Builtin.Frozenset.updateFrom
        generalize hPI : pyIter = PI
        wp_walk
        subst hPI
        refine wpAny_pyIter_list hl1 ?_
        refine wpAny_bind (wpAny_runValue ?_)
        refine set_init_listI (by simp [hh]) hl' hi hb fun h' tk c hR hc hk => ?_
        show wpAny _ _ _ _ _ _
        refine wpAny_pure ?_
        show wpAny _ _ (ret Value.none) _ _ _
        exact wpAny_pure ⟨rfl, h', tk, c, rfl, hR, hc, hk⟩
      · cases r₂ with
        | error e => exact hr₂
        | ok fl₂ =>
          cases fl₂ with
          | ret r =>
            obtain ⟨rfl, h', tk, c', rfl, hS', hc', hk'⟩ := hr₂
            repeat (any_goals (first | assumption | wp_step))
            exact h _ _ _ hS' hc' hk'
          | _ => exact hr₂.elim
    | _ => exact hr.elim
end
end L2

namespace PV
open PySem PySem.Spec PyProof.Rows L2
section
variable {X : Cx}
def rSetL (K : PySem.W.Frag) (w : World) : List V → Hp → VK → Prop := fun xs H Q => ∃ (p : Addr) (ns : List Int), xs = [.ref p] ∧ SqL K H p (ns.map V.int) ∧ ns.length ≤ 1000 ∧
  ∀ (a : Addr) (n : Nat), H a = none → n ≤ ns.length → Q (.ref a) (upd H a (SetO w a (fun j => decide (j ∈ ns)) n))
theorem cr_setL (hc : X.calm = true) : CallR X (.type "set") (rSetL X.K X.w) := by
  intro pins s σ H xs us Q I r h
  obtain ⟨p, ns, rfl, hq, hl, q⟩ := h
  rw [Vals.ref1 r]
  obtain ⟨its, rv, pt, hz⟩ := I.list hq
  have hi : IntsAre its.toArray.toList ns := ints_of_vals rv
  refine call_set_listI (I.ok.hd hc) pt.isList hi (by unfold scanBound; omega) fun h' tk n R1 hn k => ?_
  exact ⟨.ref s.heap.objs.size, _, I.laid (t' := tk) k (Nat.le_refl _) (setO_new R1), rfl, q _ n (I.hok.fresh (Nat.le_refl _)) hn⟩
end
section
variable {c : Cn} {W : WX} {X : Cx} {env : En} {σ : L2.St} {H F : Hp}
def oSrtSetY : List D → Option D
  | [d] => ((seqD d).bind intsD).bind fun ns => if ns.length < 64 then some (.lst ((srtU ns).map D.int)) else none
  | _ => none
theorem re_srtSetY {e : Expr} {o : Od} {p p2 pos pos2 : Pos} (hK : c.K = X.K) (hc : X.calm = true) (hg : Gl X "sorted") (hm : X.mg "sorted" = none) (hg2 : Gl X "set") (hm2 : X.mg "set" = none) (he : PE X e (o.t c W))
    (h1 : starEach [.Call (.Name "set" p2) [e] [] pos2] X.env = (false, eval (.Call (.Name "set" p2) [e] [] pos2) X.env) :: starEach [] X.env := by rfl) (h2 : starEach [e] X.env = (false, eval e X.env) :: starEach [] X.env := by rfl)
    (hpl : (backTo pos (starEach [] X.env)).any (·.1) = false := by rfl) (hpl2 : (backTo pos2 (starEach [] X.env)).any (·.1) = false := by rfl) :
    PE X (.Call (.Name "sorted" p) [.Call (.Name "set" p2) [e] [] pos2] [] pos) (tF c W (mOp oSrtSetY [o])) :=
  (pe_callB (cr_sortedSet hc) hg hm PyProof.Rows.boot_sorted (pa_cons (pe_callTy ((cr_setI hc).or (cr_setL hc)) hg2 hm2 PyProof.Rows.boot_set (pa_cons he pa_nil h2) (by decide) (by decide) h2 hpl2) pa_nil h1) (by decide) (by decide) h1 hpl).imp fun σ H Q q => by
    rw [← hK]
    obtain ⟨env, F, S, q⟩ := q
    show tOds c W [o] σ H fun vs H1 => (rSetI c.K X.w vs H1 (fun y H2 => rSortedSet X.w [y] H2 Q) ∨ rSetL c.K X.w vs H1 (fun y H2 => rSortedSet X.w [y] H2 Q))
    refine tOdsA (os := [o]) S q fun ds e vs H1 F1 S1 s1 r1 h1 => ?_
    unfold oSrtSetY at h1
    split at h1
    · rename_i d q1
      split at q1
      · rename_i d0
        cases q0 : seqD d0 with
        | none =>
          rw [q0] at q1
          cases q1
        | some xs =>
          cases q2 : intsD xs with
          | none =>
            rw [q0, show (some xs).bind intsD = intsD xs from rfl, q2] at q1
            cases q1
          | some ns =>
            rw [q0, show (some xs).bind intsD = intsD xs from rfl, q2] at q1
            have q3 : (if ns.length < 64 then some (D.lst ((srtU ns).map D.int)) else none) = some d := q1
            split at q3
            · rename_i hl
              cases q3
              obtain ⟨x, rfl, h2⟩ := r1.one
              obtain ⟨a, vs, rfl, h3, h5⟩ := h2.seq_ S1.wf q0
              rw [h5.ints q2] at h3
              have fin : ∀ (b : Addr) (n : Nat), H1 b = none → n ≤ ns.length → rSortedSet X.w [.ref b] (upd H1 b (SetO X.w b (fun j => decide (j ∈ ns)) n)) Q := fun b n nb hn => by
                refine ⟨b, _, n, rfl, upd_same, by omega, fun ms p hp hm hn2 np => ?_⟩
                have e : ms = srtU ns := srt_uniq hp (srtU_srt ns) fun k => by rw [hm k, srtU_mem]; simp
                subst e
                have S2 := S1.fresh (o := SetO X.w b (fun j => decide (j ∈ ns)) n) nb rfl
                exact h1 _ _ F1 (S2.fresh np rfl) (Same.refl _) (S2.newF np (.lst (Reps.ofInts _)))
              rcases h3 with h3 | h3
              · exact .inr ⟨a, ns, rfl, h3, by omega, fin⟩
              · exact .inl ⟨a, ns, rfl, h3, by omega, fin⟩
            · cases q3
      · cases q1
    · exact h1.elim
end
end PV

/-! own errors: class X(B): def __init__(self, f): super().__init__(f); self.f = f -/
namespace PX
open PySem PySem.W PySem.Calls PyProof.Rows Builtin.ObjectAttr
def iA (f : Str) (p1 p2 : Pos) : Arguments := { posonlyargs := [], args := [⟨"self", none, p1⟩, ⟨f, none, p2⟩], vararg := none, kwonlyargs := [], kw_defaults := [], kwarg := none, defaults := [] }
def iB (f : Str) (q1 q2 q3 q4 q5 q6 r1 r2 r3 r4 : Pos) : List Stmt :=
  [.Expr (.Call (.Attribute (.Call (.Name "super" q1) [] [] q2) "__init__" q3) [.Name f q4] [] q5) q6, .Assign [.Attribute (.Name "self" r1) f r2] (.Name f r3) r4]
def iS (f : Str) : Scope := { kind := .function, names := [("self", .local), (f, .local), ("__class__", .free), ("super", .globalImplicit)], isGenerator := false, isCoroutine := false, more := [] }
/-- the field's name is none of the others -/
structure Nm (f : Str) : Prop where
  self : (("self" : Str) == f) = false
  cls : (("__class__" : Str) == f) = false
  sup : (("super" : Str) == f) = false
  fs : (f == ("self" : Str)) = false
  dbg : (f == ("__debug__" : Str)) = false
/-- what the written part says of such a class at C over the built-in B, of its __init__ at fI -/
structure ErC (P : Program) (K : Frag) (mg : Str → Option Value) (x f : Str) (B newId initId : String) (bmB : List Value) (C fI : Addr) : Prop where
  nm : Nm f
  gC : mg x = some (.ref C)
  fb : ExcBaseFacts B newId initId bmB
  kf : KxsFacts B initId
  sf : StoreFacts B bmB "object.__setattr__" "object"
  ok : excInitIn K C bmB newId = true
  over : excOver K C bmB = true
  sa : findIn K (.ref C) "__setattr__" = some (some (.builtin "object.__setattr__"))
  ga : findIn K (.ref C) "__getattribute__" = some (some (.builtin "BaseException.__getattribute__"))
  gg : findIn K (.ref C) "__getattr__" = some none
  noN : findIn K (.ref C) f = some none
  iC : findIn K (.ref C) "__init__" = some (some (.ref fI))
  tC : typeIn K (.ref fI) = some (.type "function")
  kC : keepIn K (.ref C) = true
  exC : subIn K (.ref C) (.type "BaseException") = some true
  tyC : typeIn K (.ref C) = some (.type "type")
  hdC : hasDictIn K C = true
  isC : isClsIn K C = true
  subB : subIn K (.ref C) (.type B) = some true
  sup : ks_superIn K C C "__init__" = some (some (.builtin initId))
  opq : nsIn K cStatics "thirdparty.any" = some none
  mro : mroIn K C (.ref C) = some true
  nS : mg "super" = none
  bd : ∀ (qual : Str) (p1 p2 : Pos) (bdy : List Stmt) (doc pm : Value) (an : Option Addr) (cdv ct : Value) (cc : Addr) (a v : Value), bindArgs (ksFn "__init__" qual (iA f p1 p2) bdy (iS f) .none .none doc pm an cdv ct cc) ⟨[a, v], []⟩ = pure [(("self" : Str), a), (f, v)]
  top : (P.main.scope.names.lookup ("super" : Str)).isSome = false
  fn : ∃ (oc : Value) (od : Option Addr) (qual : Str) (doc pm : Value) (an : Option Addr) (ct : Value) (cc cda : Addr) (osl : Array (Option Value)) (p1 p2 q1 q2 q3 q4 q5 q6 r1 r2 r3 r4 : Pos) (ccl cl : Value) (cdd cld : Option Addr) (ccs csl : Array (Option Value)) (vs : Array Value) (file : Str) (tf : Tok),
    K.lookup fI = some ⟨oc, od, .func (ksFn "__init__" qual (iA f p1 p2) (iB f q1 q2 q3 q4 q5 q6 r1 r2 r3 r4) (iS f) .none .none doc pm an (.ref cda) ct cc), osl⟩ ∧ codeIn K (.ref cda) qual = true ∧
    K.lookup cc = some ⟨cl, cld, .cell (some (.ref C)), csl⟩ ∧ K.lookup cda = some ⟨ccl, cdd, .fields vs, ccs⟩ ∧ vs[2]? = some (.str file tf) ∧ ((P.main.file : Str) == file) = true ∧
    ∀ L : Addr, ∃ pl : Sem Bool, eval (.Call (.Attribute (.Call (.Name "super" q1) [] [] q2) "__init__" q3) [.Name f q4] [] q5) (ksEnv qual (iS f) L fI (.ref cda) cc) = (do
    let ov ← attributeBase (.Call (.Name "super" q1) [] [] q2) "__init__" (ksEnv qual (iS f) L fI (.ref cda) cc) (eval (.Call (.Name "super" q1) [] [] q2) (ksEnv qual (iS f) L fI (.ref cda) cc))
    standAt q3.atName
    let (m, first) ← holding [ov] (getMethod ov "__init__" pl)
    callWith q5 m first (backTo q5 (starEach [.Name f q4] (ksEnv qual (iS f) L fI (.ref cda) cc))) [])
theorem one_fits (v : Value) : [v].length ≤ sizeLine := by
  rw [sizeLine_eq]
  exact (by decide : 1 ≤ 16777216)
theorem in_but {K : Frag} {h h' : Heap} {x : Addr} (X : K.In h) (hx : K.lookup x = none) (k : ∀ b o, b ≠ x → h.get? b = some o → h'.get? b = some o) : K.In h' := fun a o e =>
  k a o (fun z => by rw [z, hx] at e; cases e) (X a o e)
/-- what __init__ leaves of a fresh error at x -/
structure Made (f : Str) (h h' : Heap) (x C dx t1 : Addr) (v : Value) : Prop where
  keep : ∀ b o, b ≠ x → h.get? b = some o → h'.get? b = some o
  obj : h'.get? x = some { cls := .ref C, dict := some dx, data := .fields #[.ref t1, .none, .none, .none, .bool false, .none] }
  dbig : h.objs.size ≤ dx
  dne : dx ≠ x
  ns : h'.Ns1 dx (fun y => if y = f then some v else none)
section
variable {P : Program} {w : World} {A : Around} {E : Value → Shared → Prop} {R : Result → Shared → Prop} {hp : Heap} {g : Array GenState} {d : Drawn} {t : Nat} {os : OsState} {K : Frag} {mg : Str → Option Value} {B newId initId : String} {bmB : List Value} {C fI : Addr} {x f : Str}
/-- the first store into an error -/
theorem first_store (T : ErC P K mg x f B newId initId bmB C fI) {tk : Tok} {v : Value} {a : Addr} {t0 : Addr}
    (X : K.In hp) (hx : hp.get? a = some (HandSPX.excO C t0))
    (hq : ∀ h' tk' dx, Made f hp h' a C dx t0 v → R (.ok (.ret .none)) ⟨h', g, d, tk', os⟩) :
    codeAny (model P w) A (.call (.builtin "object.__setattr__") ⟨[.ref a, .str f tk, v], []⟩) R ⟨hp, g, d, t, os⟩ := by
  have ht : takerIn K C f = some none := by
    unfold takerIn
    rw [T.noN]
    rfl
  have ha : a ≠ hp.objs.size := Nat.ne_of_lt (Heap.lt_size hx)
  refine osa_openX (s := ⟨hp, g, d, t, os⟩) (od := none) (ox := HandSPX.excO C t0) T.sf X ⟨hx, rfl, rfl, trivial⟩ T.over ht fun b => ?_
  obtain ⟨cd, hc, hh⟩ := any_some T.hdC
  have hcls : Looks (model P w) hp (classData C) cd := looks_clsIn X hc
  show wpAny _ _ (storeInOwnDict (.ref a) (.ref C) (.str f tk) f v b) _ _ _
  obtain ⟨nm, bs, mro, ns, qn, hd, sn, sb, ab, col, del⟩ := cd
  dsimp only at hh
  subst hh
  unfold storeInOwnDict ownDictForStores
  repeat (first | with_reducible refine HandSPX.store_in_new ?_ ?_ | with_reducible refine wpAny_loadPart_at hx ?_ | with_reducible refine hcls.at ?_ | wp_step)
  · exact ⟨_, #[], _, (Heap.get?_update_ne _ _ _ _ ha.symm).trans (Heap.get?_push_at rfl rfl), rfl, fun e he => absurd he (by simp), fun _ => rfl⟩
  · intro h' tk' hn' hs
    have hx1 : (hp.push { cls := .type "dict", data := .dict #[] }).get? a = some (HandSPX.excO C t0) := Heap.get?_push_of_some _ hx
    refine hq h' tk' hp.objs.size ⟨fun b o hb ho => ?_, ?_, Nat.le_refl _, ha.symm, hn'⟩
    · exact (hs.2 b (Nat.ne_of_lt (Heap.lt_size ho))).trans ((Heap.get?_update_ne _ _ _ _ hb).trans (Heap.get?_push_of_some _ ho))
    · exact (hs.2 a ha).trans (Heap.get?_update_self _ hx1 rfl)
/-- super().__init__(v); self.f = v -/
theorem init_runs (T : ErC P K mg x f B newId initId bmB C fI) {a t0 : Addr} {v : Value} {mb : Str → Option Value} (X : K.In hp) (hlim : hp.NoLimit) (hx : hp.get? a = some (HandSPX.excO C t0)) (hna : K.lookup a = none) (hroom : A.depth < recursionLimit)
    (hg : hp.Ns mainGlobals mg) (hb : hp.Ns builtinsNs mb) (hs : mb "super" = some (.type "super"))
    (hq : ∀ h' tk dx t1, Made f hp h' a C dx t1 v → R (.ok (.ret .none)) ⟨h', g, d, tk, os⟩) :
    codeAny (model P w) A (.call (.ref fI) ⟨[.ref a, v], []⟩) R ⟨hp, g, d, t, os⟩ := by
  obtain ⟨oc, od, qual, doc, pm, an, ct, cc, cda, osl, p1, p2, q1, q2, q3, q4, q5, q6, r1, r2, r3, r4, ccl, cl, cdd, cld, ccs, csl, vs, file, tf, ho, hcd, hcell, hcode, hvs, hfile, hHe⟩ := T.fn
  have hl1 : (iS f).names.lookup ("self" : Str) = some .local := rfl
  have hl2 : (iS f).names.lookup f = some .local := by
    show List.lookup f [(("self" : Str), NameKind.local), (f, .local), ("__class__", .free), ("super", .globalImplicit)] = _
    simp [List.lookup, T.nm.fs]
  have hl3 : (iS f).names.lookup ("__class__" : Str) = some .free := by
    show List.lookup ("__class__" : Str) [(("self" : Str), NameKind.local), (f, .local), ("__class__", .free), ("super", .globalImplicit)] = _
    rw [List.lookup, show (("__class__" : Str) == "self") = false from by decide, List.lookup, T.nm.cls, List.lookup]
    rfl
  have hl4 : (iS f).names.lookup ("super" : Str) = some .globalImplicit := by
    show List.lookup ("super" : Str) [(("self" : Str), NameKind.local), (f, .local), ("__class__", .free), ("super", .globalImplicit)] = _
    rw [List.lookup, show (("super" : Str) == "self") = false from by decide, List.lookup, T.nm.sup, List.lookup, show (("super" : Str) == "__class__") = false from by decide, List.lookup]
    rfl
  have b1 : ([(("self" : Str), Value.ref a), (f, v)].reverse).lookup ("self" : Str) = some (.ref a) := by
    show List.lookup ("self" : Str) [(f, v), ("self", Value.ref a)] = _
    rw [List.lookup, T.nm.self]
    rfl
  have b2 : ([(("self" : Str), Value.ref a), (f, v)].reverse).lookup f = some v := by
    show List.lookup f [(f, v), ("self", Value.ref a)] = _
    simp [List.lookup]
  obtain ⟨nm, N', qn, bs, bm, hdct, sn, sub, ab, col, dd, k0, k1, k2, k3, k5, hC, hT⟩ := excInit_of X T.ok
  obtain ⟨cdC, hcC, hdC⟩ := any_some T.hdC
  refine ks_codeAny_call_defAt (s := ⟨hp, g, d, t, os⟩) (fd := ksFn "__init__" qual (iA f p1 p2) (iB f q1 q2 q3 q4 q5 q6 r1 r2 r3 r4) (iS f) .none .none doc pm an (.ref cda) ct cc) (body := iB f q1 q2 q3 q4 q5 q6 r1 r2 r3 r4) (binds := [("self", .ref a), (f, v)])
    hroom (X _ _ ho) rfl hlim (codeRec_of X hcd) rfl (BindsTo.of_eq (T.bd _ _ _ _ _ _ _ _ _ _ _ _)) (fun y hy => ?_) (fun y hy => ?_) (fun h1 hn kp => ?_)
  · rcases List.mem_cons.mp hy with rfl | hy
    · decide
    · rcases List.mem_cons.mp hy with rfl | hy
      · exact fun z => by cases z
      · rcases List.mem_cons.mp hy with rfl | hy
        · decide
        · rcases List.mem_cons.mp hy with rfl | hy
          · decide
          · cases hy
  · rcases List.mem_cons.mp hy with rfl | hy
    · exact hl1
    · rcases List.mem_cons.mp hy with rfl | hy
      · exact hl2
      · cases hy
  have X1 : K.In h1 := X.keeps kp
  have hx1 : h1.get? a = some (HandSPX.excO C t0) := kp _ _ hx
  show _root_.PySem.wpAt (model P w) (A.deeper (ksEnv qual (iS f) hp.objs.size fI (.ref cda) cc)) (.func (iB f q1 q2 q3 q4 q5 q6 r1 r2 r3 r4) (ksEnv qual (iS f) hp.objs.size fI (.ref cda) cc)) (execs (iB f q1 q2 q3 q4 q5 q6 r1 r2 r3 r4) (ksEnv qual (iS f) hp.objs.size fI (.ref cda) cc)) _ _ _
  obtain ⟨pl, hev⟩ := hHe hp.objs.size
  refine ks_wpAt_execs_cons (ks_wpAt_Expr_any (ks_wpAt_MethodCall (he := hev) (ks_wpAt_super_base (env := ksEnv qual (iS f) hp.objs.size fI (.ref cda) cc) (f := fI) (cc := cda) (ar := ⟨"self", none, p1⟩) (vs := vs) (file := file) (tf := tf) hl4 hl3 (by decide) rfl (X1 _ _ ho) rfl rfl rfl (X1 _ _ hcode) rfl hvs hfile T.top ?_)))
  refine ks_loadName_global rfl hl4 (loadGlobal_builtin (env := ksEnv qual (iS f) hp.objs.size fI (.ref cda) cc) (hg.keeps kp) T.nS (hb.keeps kp) hs ⟨rfl, ?_⟩)
  refine wpAny_loadName_free rfl hl3 rfl ⟨_, X1 _ _ hcell, rfl⟩ ?_
  refine wpAny_loadName_local rfl hl1 hn b1 ?_
  refine ks_wpAny_isType_cls (kp _ _ hC) rfl ⟨rfl, ?_⟩
  refine ks_wpAny_call_super (C := C) (kp _ _ hC) rfl hx1 rfl (fun c e => by cases e) (looks_mroIn X1 T.mro) (fun h2 hso k2 => ?_)
  have X2 : K.In h2 := X1.keeps k2
  have hx2 := k2 _ _ hx1
  have hI : Looks (model P w) h2 (isInstance (.ref a) (.type B)) true := (show InstAt h2 a (HandSPX.excO C t0) C none from ⟨hx2, rfl, rfl, trivial⟩).type.andThen (looks_subIn X2 T.subB)
  have hsup : alongIn K "__init__" ((cdC.mro.dropWhile (· != .ref C)).drop 1) = some (some (.builtin initId)) := by
    have z := T.sup
    unfold ks_superIn at z
    rw [hcC] at z
    exact z
  refine kxs_getMethod T.kf hso (looks_opaque X2 T.opq) ((looks_clsIn X2 hcC).andThen .now) rfl X2 hsup hI (ks_ne X2 (show InstAt h2 a (HandSPX.excO C t0) C none from ⟨hx2, rfl, rfl, trivial⟩) hcC) (by decide) ?_
  have k3 : ∀ b o, h2.get? b = some o → (h2.push (kxs_mw initId a)).get? b = some o := fun b o e => Heap.get?_push_of_some _ e
  have hu : (h2.push (kxs_mw initId a)).get? h2.objs.size = some (kxs_mw initId a) := Heap.get?_push_size _ rfl
  have kall : ∀ b o, hp.get? b = some o → (h2.push (kxs_mw initId a)).get? b = some o := fun b o e => k3 b o (k2 b o (kp b o e))
  have hn2 := (hn.keeps k2).keeps k3
  have hC3 := kall _ _ hC
  have hx3 := kall _ _ hx
  refine kxs_callWith (i := initId) (x := a) (by rfl) (evalArgs_plain ?_)
  show wpAny _ _ (spliced ((false, eval (.Name f q4) (ksEnv qual (iS f) hp.objs.size fI (.ref cda) cc)) :: backTo q5 (starEach [] (ksEnv qual (iS f) hp.objs.size fI (.ref cda) cc)))) _ _ _
  refine Calls.spliced_cons (wpAny_Name (wpAny_loadName_local rfl hl2 hn2 b2 ?_) T.nm.dbg)
  refine Calls.spliced_nil ⟨hu, ?_⟩
  refine wpAny_call (codeAny_of_tree (show wpAny _ _ (callAny (.ref h2.objs.size) ⟨[v], []⟩) _ _ _ from ?_))
  unfold callAny
  refine wpAny_bind (wpAny_load hu ?_)
  have c1 : (Value.type "method-wrapper" == Value.type "method" || Value.type "method-wrapper" == Value.type "builtin_function_or_method" || Value.type "method-wrapper" == Value.type "method-wrapper") = true := by decide
  simp only [kxs_mw, c1, if_true]
  refine KFB.if_so (by decide) (wpAny_bind (check_bound_init T.fb.toExcCallFacts hC3 hx3 rfl (wpAny_bind (wpAny_pure (wpAny_pure ⟨plainId_quiet T.fb.init.plain _, codeAny_builtin T.fb.initEntry ?_⟩)))))
  refine exc_init_tree (cls := .ref C) (t0 := t0) (dv := none) (c2 := .none) (c3 := .none) (b4 := .bool false) hx3 (one_fits v) fun h4 k4 hx4 _ => ?_
  have X4 : K.In h4 := in_but (X.keeps kall) hna k4
  have aL : hp.objs.size ≠ a := Nat.ne_of_gt (Heap.lt_size hx)
  have hn4 : h4.Ns hp.objs.size (fun y => ([(("self" : Str), Value.ref a), (f, v)].reverse).lookup y) := by
    obtain ⟨o, es, ep, e1, e2⟩ := hn2
    exact ⟨o, es, ep, k4 _ _ aL e1, e2⟩
  refine wpAt_of_wpAny (wpAny_execs_cons (plainObj_wpAny_Assign_Attribute ?_))
  refine wpAny_Name (wpAny_loadName_local rfl hl2 hn4 b2 (wpAny_Name (wpAny_loadName_local rfl hl1 hn4 b1 ?_) (by decide))) T.nm.dbg
  refine set_plain X4 (ox := HandSPX.excO C (h2.push (kxs_mw initId a)).objs.size) (od := none) ⟨hx4, rfl, rfl, trivial⟩ T.sa (first_store T X4 hx4 fun h5 tk5 dx M => ?_)
  refine wpAny_execs_nil (hq h5 tk5 dx _ ⟨fun b o hb e => M.keep b o hb (k4 b o hb (kall b o e)), M.obj, ?_, M.dne, M.ns⟩)
  have z1 : hp.objs.size < h4.objs.size := hn4.lt
  exact Nat.le_of_lt (Nat.lt_of_lt_of_le z1 M.dbig)
/-- X(v) -/
structure MadeX (f : Str) (h h' : Heap) (e C dx : Addr) (v : Value) : Prop where
  keep : ∀ b o, h.get? b = some o → h'.get? b = some o
  new : h.objs.size ≤ e
  obj : ∃ oe vs, h'.get? e = some oe ∧ oe.cls = .ref C ∧ oe.dict = some dx ∧ oe.data = .fields vs ∧ vs[1]? = some .none
  dbig : h.objs.size ≤ dx
  dne : dx ≠ e
  ns : h'.Ns1 dx (fun y => if y = f then some v else none)
theorem error_made (T : ErC P K mg x f B newId initId bmB C fI) {v : Value} {mb : Str → Option Value} (X : K.In hp) (hlim : hp.NoLimit) (hroom : A.depth + 1 < recursionLimit)
    (hg : hp.Ns mainGlobals mg) (hb : hp.Ns builtinsNs mb) (hs : mb "super" = some (.type "super"))
    (hq : ∀ h' tk e dx, MadeX f hp h' e C dx v → R (.ok (.ret (.ref e))) ⟨h', g, d, tk, os⟩) :
    codeAny (model P w) A (.call (.ref C) ⟨[v], []⟩) R ⟨hp, g, d, t, os⟩ := by
  obtain ⟨nm, N', qn, bs, bm, hdct, sn, sub, ab, col, dd, k0, k1, k2, k3, k5, hC, hT⟩ := excInit_of X T.ok
  have k : ∀ b o, hp.get? b = some o → ((hp.push (kdv_tup [v])).push (HandSPX.excO C hp.objs.size)).get? b = some o := fun b o e => Heap.get?_push_of_some _ (Heap.get?_push_of_some _ e)
  have hget : ((hp.push (kdv_tup [v])).push (HandSPX.excO C hp.objs.size)).get? (hp.objs.size + 1) = some (HandSPX.excO C hp.objs.size) := by heap_get
  have hnx : K.lookup (hp.objs.size + 1) = none := by
    cases e : K.lookup (hp.objs.size + 1) with
    | none => rfl
    | some o => exact absurd (Nat.lt_of_succ_lt (Heap.lt_size (X _ _ e))) (Nat.lt_irrefl _)
  refine HandSPX.call_own T.fb hT hC (looks_findIn X T.iC) (fun self => bind_fn X self T.tC) (one_fits v) ?_
  refine init_runs T (mb := mb) (X.keeps k) (hlim.keeps k) hget hnx (by show A.depth + 1 < recursionLimit; exact hroom) (hg.keeps k) (hb.keeps k) hs fun h' tk' dx t1 M => ?_
  have old : ∀ b o, hp.get? b = some o → h'.get? b = some o := fun b o e => M.keep b o (Nat.ne_of_lt (Nat.lt_succ_of_lt (Heap.lt_size e))) (k b o e)
  have z : hp.objs.size + 1 + 1 ≤ dx := by
    first
      | (simpa only [Heap.size_push] using M.dbig)
      | exact M.dbig
      | (have q := M.dbig; rw [Heap.size_push, Heap.size_push] at q; exact q)
  exact ⟨rfl, hq h' tk' (hp.objs.size + 1) dx ⟨old, Nat.le_succ _, ⟨_, _, M.obj, rfl, rfl, rfl, rfl⟩, Nat.le_trans (Nat.le_trans (Nat.le_succ _) (Nat.le_succ _)) z, M.dne, M.ns⟩⟩
end
end PX

/-! repr of data; try with several clauses, each with or without a name -/
namespace PV
open PySem PySem.Spec PyProof.Rows L2
/-! ### repr -/
def reprS (p : PyData) : Bool := p.showable && (!p.hasDict && (decide (p.depth ≤ 40) && decide (p.shown.length ≤ lim)))
def oRepr : List D → Option D
  | [d] => match toP d with
    | some p => if reprS p = true then some (.str p.shown) else none
    | none => none
  | _ => none
def rRepr (K : PySem.W.Frag) : List V → Hp → VK → Prop := fun vs H Q => ∃ x p, vs = [x] ∧ Dp K H x p ∧ reprS p = true ∧ Q (.str p.shown) H
theorem cr_repr {X : Cx} (hg : X.A.guards = some []) (hu : X.A.units + 64 < cLine) : CallR X (.builtin "repr") (rRepr X.K) := by
  intro pins s σ H xs us Q I r h
  obtain ⟨x, p, rfl, hd, hs, q⟩ := h
  unfold reprS at hs
  simp only [Bool.and_eq_true, Bool.not_eq_true', decide_eq_true_eq] at hs
  obtain ⟨s1, s2, s3, s4⟩ := hs
  cases r with
  | cons ru rn =>
    rename_i u us
    cases rn
    obtain ⟨as, rd⟩ := Dp.reads I p x u hd ru
    cases rd with
    | none => exact P.repr_of_none ⟨.str _, H, I.tok _, ⟨_, rfl⟩, by simpa [PyData.shown] using q⟩
    | bool b => exact P.repr_of_bool ⟨.str _, H, I.tok _, ⟨_, rfl⟩, by simpa [PyData.shown] using q⟩
    | int i t => exact P.repr_of_int (by simpa [PyData.showable] using s1) ⟨.str _, H, I.tok _, ⟨_, rfl⟩, by simpa [PyData.shown] using q⟩
    | str z t => exact P.repr_of_str (by exact ⟨.str _, H, I.tok _, ⟨_, rfl⟩, by simpa [PyData.shown] using q⟩) (by simpa [PyData.shown] using lim_line s4)
    | list h1 h2 h3 h4 => exact repr_of_reads' (.list h1 h2 h3 h4) s1 (PyData.noDict_hsm s2) hg (by omega) (fun _ _ e => e) (fun h' u tk hk => ⟨.str _, H, I.kept hk, ⟨_, rfl⟩, q⟩) (lim_line s4)
    | tuple h1 h2 h3 h4 => exact repr_of_reads' (.tuple h1 h2 h3 h4) s1 (PyData.noDict_hsm s2) hg (by omega) (fun _ _ e => e) (fun h' u tk hk => ⟨.str _, H, I.kept hk, ⟨_, rfl⟩, q⟩) (lim_line s4)
    | dict h1 h2 h3 h4 h5 => cases hd
theorem oa_repr {g : Gc} : OpA g (rRepr g.K) oRepr := fun ds vs d F H Q w R e k => by
  unfold oRepr at e
  split at e
  · rename_i d1
    obtain ⟨x, rfl, h1⟩ := R.one
    split at e
    · rename_i p hp
      split at e
      · rename_i hs
        cases e
        exact ⟨x, p, rfl, h1.dp w hp, hs, k _ H F (Go.refl w) .str⟩
      · cases e
    · cases e
  · cases e
end PV

/-! try: several clauses, each with a name or without -/
namespace PV
open PySem PySem.Spec PyProof.Rows L2
abbrev Su := Addr → Value → Option Addr → TS
/-- the ends of a suite whose clause names slot i -/
def endN (i : Nat) (D : Ends) : Ends := { nx := fun σ H => D.nx (σ.set i none) H, rt := D.rt, bk := fun σ H => D.bk (σ.set i none) H, ct := fun σ H => D.ct (σ.set i none) H }
/-- what the clauses make of an error -/
def wMix (K : PySem.W.Frag) (Wout : WX) (D : Ends) : List (Value × Option Nat × Su) → WX
  | [] => Wout
  | (c, o, ts) :: r => fun cls d σ H => ∃ b, PySem.W.exmOne K cls c = some b ∧
    (b = true → ∀ a, H a = none → match o with
      | none => ts a cls d D σ H
      | some i => ts a cls d (endN i D) (σ.set i (some (.ref a))) H) ∧ (b = false → wMix K Wout D r cls d σ H)
/-- each suite runs, the error at a in hand -/
def SuOk (X : Cx) (suite : List Stmt) (ts : Su) : Prop := ∀ (a : Addr) (oe : Obj) (cls : Value) (d : Option Addr) (pn : List (Addr × Obj)), Zc cls d oe → (∃ vs, oe.data = .fields vs) → PSs (X.suite a ((a, oe) :: pn)) suite (ts a cls d)
inductive MixOk (X : Cx) : List ExceptHandler → List (Value × Option Nat × Su) → Prop
  | nil : MixOk X [] []
  | bare {x : Str} {c : Value} {ts : Su} {b₀ : Stmt} {suite : List Stmt} {np pos' : Pos} {hds : List ExceptHandler} {l : List (Value × Option Nat × Su)} (hc : Names X x c) (hsu : SuOk X (b₀ :: suite) ts) (r : MixOk X hds l) :
      MixOk X (.ExceptHandler (some (.Name x np)) none (b₀ :: suite) pos' :: hds) ((c, none, ts) :: l)
  | as {x n : Str} {i : Nat} {c : Value} {ts : Su} {b₀ : Stmt} {suite : List Stmt} {np pos' : Pos} {hds : List ExceptHandler} {l : List (Value × Option Nat × Su)} (hi : X.N[i]? = some n) (hn : X.env.kindOf n = some .local) (hc : Names X x c) (hsu : SuOk X (b₀ :: suite) ts) (r : MixOk X hds l) :
      MixOk X (.ExceptHandler (some (.Name x np)) (some n) (b₀ :: suite) pos' :: hds) ((c, some i, ts) :: l)
section
variable {X : Cx} {body : List Stmt} {h₀ : ExceptHandler} {hds : List ExceptHandler} {l : List (Value × Option Nat × Su)} {pos : Pos} {tb : WX → TS} {Wout : WX}
/-- the caught error meets the clauses, one by one -/
theorem mix_goes {pins : List (Addr × Obj)} {σ : L2.St} {H : Hp} {sI s3 : Shared} {B : Heap} {a : Addr} {cls : Value} {d : Option Addr} {D : Ends} (hs : X.stack = X.env :: X.outer) (hf : X.env.frame = some X.env.locals) (hN : X.N.Nodup) (tk : Takes X Wout)
    (J : Inv X pins σ H sI) (nb : ∀ b o, sI.heap.get? b = some o → b ∉ frs X.stack → B.get? b = some o) (up : sI.heap.UpToSlots s3.heap) (fl : HandSPX.FlyingZ B (X.env :: X.outer) a (Zc cls d) s3.heap) (na : H a = none) (os : s3.os = sI.os) (ag : AllBare s3.gens) :
    ∀ {hds : List ExceptHandler} {l : List (Value × Option Nat × Su)}, MixOk X hds l → wMix X.K Wout D l cls d σ H → wpAny (model X.prog X.w) X.A (handleBy (.ref a) X.env hds) (SP X pins D) X.xe s3 := by
  have ok := J.ok
  have J3 : Inv X pins σ H s3 := J.landed nb fl.1 up os ag
  obtain ⟨oe, vs, he, hz, hd⟩ := fl.there
  have off : ∀ {h : Heap} {o : Obj} {us : Array Value}, h.FunFrames B (X.env :: X.outer) → h.get? a = some o → o.data = .fields us → a ∉ frs (X.env :: X.outer) := fun {h o us} ff e dd hm => by
    obtain ⟨_, o', e', hnf⟩ := ff.mem hm
    exact hnf us (by rw [← Option.some.inj (e.symm.trans e')]; exact dd)
  have nfr := off fl.2.2.1 he hd
  have nL : a ≠ X.env.locals := fun z => nfr (List.mem_filterMap.mpr ⟨X.env, List.mem_cons_self, hf.trans (by rw [z])⟩)
  have nF : a ∉ X.fs := fun hm => by
    obtain ⟨e, he, q⟩ := List.mem_filterMap.mp hm
    exact nfr (List.mem_filterMap.mpr ⟨e, List.mem_cons_of_mem _ he, q⟩)
  have S3 := J3.suite he hd na nL nF
  -- the clause's class, looked up and held against the error's
  have test : ∀ {x : Str} {c : Value} {np : Pos} {b : Bool} {Q : Bool → Shared → Prop} {E : Value → Shared → Prop}, Names X x c → PySem.W.exmOne X.K cls c = some b → Q b s3 →
      wpAny (model X.prog X.w) (X.A.mark (some (.ref a))) (eval (.Name x np) X.env) (fun v s4 => wpAny (model X.prog X.w) (X.A.mark (some (.ref a))) (excMatches (.ref a) v) Q E s4) E s3 := fun {x c np b Q E} hc hb q => by
    have LT : PySem.W.Looks (model X.prog X.w) s3.heap (typeOf (.ref a)) cls := fun A Q E s k q => wpAny_typeOf_ref (k _ _ he) (by rw [hz.1]; exact q)
    have LM := PySem.W.exm_one (M := model X.prog X.w) J3.kIn LT hb
    obtain ⟨hg, hdbg, hm | ⟨hm, hv, hnn⟩⟩ := hc
    · exact ld_glob (X := X.suite a ((a, oe) :: (X.pn ++ pins))) S3 hg hm (LM.here q) hdbg
    · exact ld_blt (X := X.suite a ((a, oe) :: (X.pn ++ pins))) S3 hg hm hv (LM.here q) hnn hdbg
  -- the suite's own start: the flight ends, the error is pinned
  have start : ∀ {Q : Unit → Shared → Prop} {E : Value → Shared → Prop}, (∀ (s4 : Shared) (o4 : Obj), Inv X pins σ H s4 → Inv (X.suite a ((a, o4) :: (X.pn ++ pins))) [] σ H s4 → Zc cls d o4 → (∃ us, o4.data = .fields us) → Q () s4) →
      wpAny (model X.prog X.w) (X.A.mark (some (.ref a))) (setFlight (.ref a) none) Q E s3 := fun {Q E} k => HandSPX.lands_againZ fl fun h4 fl4 up4 => by
    have J4 : Inv X pins σ H { s3 with heap := h4 } := J.landed nb fl4.1 (up.trans up4) os ag
    obtain ⟨oe4, vs4, he4, hz4, hd4⟩ := fl4.there
    exact k _ _ J4 (J4.suite he4 hd4 na nL nF) hz4 ⟨_, hd4⟩
  intro hds l hk
  induction hk with
  | nil =>
    intro w
    refine wpAny_handleBy_nil ?_
    obtain ⟨_, _, _, oe5, vs5, T, oT, ts', he5, _, hd5, h15, _⟩ := id fl
    unfold PySem.passOn
    refine wpAny_bind (wpAny_field he5 hd5 h15 ?_)
    rw [if_neg (show ¬ ((Value.ref T == Value.none) = true) from by simp)]
    have last : wpAny (model X.prog X.w) X.A (setFlight (.ref a) X.env.frame) (fun _ s4 => wpAny (model X.prog X.w) X.A (throw (.ref a) : Sem Flow) (SP X pins D) X.xe s4) X.xe s3 := by
      rw [hf]
      exact HandSPX.setFlight_upZ fl fun h4 hh4 up4 => wpAny_throw (tk _ _ ⟨a, B, sI, pins, σ, H, cls, d, rfl, J, nb, up.trans up4, .inr (.inr (by rw [hs]; exact hh4)), na, os, ag, w⟩)
    first
      | exact wpAny_bind (wpAny_pure (wpAny_bind last))
      | exact wpAny_bind last
  | bare hc hsu r ih =>
    intro w
    obtain ⟨b, hb1, hyes, hno⟩ := w
    refine wpAny_handleBy_cons (codeAny_handlers_test (test hc hb1 ?_)) (by intro q; cases q)
    cases b with
    | false => exact ih (hno rfl)
    | true =>
      refine codeAny_handlers_suite (start fun s4 o4 J4 S4 z4 f4 => ?_)
      refine wpAny_mono ((hsu a o4 cls d (X.pn ++ pins) z4 f4).run [] _ _ H _ S4 (hyes rfl a na)) (fun f s6 hsp => ?_) (fun _ _ z => False.elim z)
      cases f with
      | next => exact let ⟨_, _, S6, q6⟩ := hsp; ⟨_, _, S6.unsuite ok, q6⟩
      | brk => exact let ⟨_, _, S6, q6⟩ := hsp; ⟨_, _, S6.unsuite ok, q6⟩
      | cont => exact let ⟨_, _, S6, q6⟩ := hsp; ⟨_, _, S6.unsuite ok, q6⟩
      | ret u => exact let ⟨_, _, _, S6, r6, q6⟩ := hsp; ⟨_, _, _, S6.unsuite ok, r6, q6⟩
  | @as x n i c ts b₀ suite np pos' hds l hi hn hc hsu r ih =>
    intro w
    obtain ⟨b, hb1, hyes, hno⟩ := w
    refine wpAny_handleBy_cons (codeAny_handlers_test (test hc hb1 ?_)) (by intro q; cases q)
    cases b with
    | false => exact ih (hno rfl)
    | true =>
      refine codeAny_handlers_suite_as (start fun s4 o4 J4 S4 z4 f4 => ?_)
      refine store_ok (X := X.suite a ((a, o4) :: (X.pn ++ pins))) (v := .ref a) S4 hN hi (.inl hn) rfl (fun s5 S5 => ?_) (.inr hn)
      refine wpAny_mono ((hsu a o4 cls d (X.pn ++ pins) z4 f4).run [] s5 _ H _ S5 (hyes rfl a na)) (fun f s6 hsp => ?_) (fun _ _ z => False.elim z)
      have fin : ∀ {σ6 : L2.St} {H6 : Hp} {Q : Shared → Prop}, Inv (X.suite a ((a, o4) :: (X.pn ++ pins))) [] σ6 H6 s6 → (∀ s7, Inv X pins (σ6.set i none) H6 s7 → Q s7) →
          wpAny (model X.prog X.w) X.A (do bindName X.env n .none; unbindBehindTheSuite X.env n pos') (fun _ s7 => Q s7) X.xe s6 := fun S6 hq => gone_ok (S6.unsuite ok) hN hi hn hq
      cases f with
      | next => exact let ⟨_, _, S6, q6⟩ := hsp; fin S6 fun s7 J7 => ⟨_, _, J7, q6⟩
      | brk => exact let ⟨_, _, S6, q6⟩ := hsp; fin S6 fun s7 J7 => ⟨_, _, J7, q6⟩
      | cont => exact let ⟨_, _, S6, q6⟩ := hsp; fin S6 fun s7 J7 => ⟨_, _, J7, q6⟩
      | ret u => exact let ⟨_, _, _, S6, r6, q6⟩ := hsp; fin S6 fun s7 J7 => ⟨_, _, _, J7, r6, q6⟩
theorem ps_try_mix (hs : X.stack = X.env :: X.outer) (hf : X.env.frame = some X.env.locals) (hN : X.N.Nodup) (tk : Takes X Wout)
    (hb : ∀ (W : WX) (pn : List (Addr × Obj)) (xe : Value → Shared → Prop), Takes (X.tr pn xe) W → PassesOwn (model X.prog X.w) X.A X.env xe → PSs (X.tr pn xe) body (tb W)) (hh : MixOk X (h₀ :: hds) l) :
    PS X (.Try body (h₀ :: hds) [] [] pos) (fun D σ H => tb (wMix X.K Wout D l) D σ H) := by
  refine ⟨fun pins s σ H D I h => wpAny_Try_except (wpAny_mono ((hb (wMix X.K Wout D l) (X.pn ++ pins) (fun e s₁ => wpAny (model X.prog X.w) X.A (noteFrame e X.env) (fun _ s₂ => wpAny (model X.prog X.w) X.A (setFlight e none) (fun _ s₃ =>
    wpAny (model X.prog X.w) X.A (handleBy e X.env (h₀ :: hds)) (SP X pins D) X.xe s₃) X.xe s₂) X.xe s₁) (fun u s' xx => ?_) PassesOwn.looking).run [] s σ H D (I.toTry _) h) (fun f s1 hsp => ?_) (fun e s1 he => he))⟩
  · obtain ⟨a, B, sI, pins', σ', H', cls, d, rfl, J', nb, up, sky, na, os, ag, w⟩ := xx
    have ok := I.ok
    exact Sky.land Zc.steady (by rw [ok.frames, hs]) hf (by rw [← hs]; exact sky) fun h3 fl3 up3 => mix_goes (s3 := { s' with heap := h3 }) hs hf hN tk (J'.ofTry ok) nb (up.trans up3) fl3 na os ag hh w
  · have ok := I.ok
    cases f with
    | next => exact let ⟨σ', H', J', q⟩ := hsp; wpAny_execs_nil ⟨σ', H', J'.ofTry ok, q⟩
    | brk => exact let ⟨σ', H', J', q⟩ := hsp; ⟨σ', H', J'.ofTry ok, q⟩
    | cont => exact let ⟨σ', H', J', q⟩ := hsp; ⟨σ', H', J'.ofTry ok, q⟩
    | ret u => exact let ⟨v, σ', H', J', r, q⟩ := hsp; ⟨v, σ', H', J'.ofTry ok, r, q⟩
end
end PV

/-! raise of own errors; try; the suites that return something made of the error -/
namespace PV
open PySem PySem.Spec PyProof.Rows L2
/-! ### raise -/
/-- an own error class without __init__ -/
def ErP (K : PySem.W.Frag) (mg : Str → Option Value) (x : Str) : Prop :=
  ∃ (C : Addr) (bmB : List Value) (B newId initId : String), mg x = some (.ref C) ∧ ExcBaseFacts B newId initId bmB ∧ PySem.W.excIn K C bmB newId = true ∧ PySem.W.keepIn K (.ref C) = true ∧ PySem.W.subIn K (.ref C) (.type "BaseException") = some true ∧ PySem.W.typeIn K (.ref C) = some (.type "type")
def sRz (x : Str) : En → Rs := fun env => .er ⟨x, none⟩ env
def sRz1 (x f : Str) (m : En → R D) : En → Rs := fun env => (m env).bs fun d e => .er ⟨x, some [(f, d)]⟩ e
section
variable {c : Cn} {W : WX} {X : Cx}
theorem rs_raise0 {x m : Str} {j : Nat} {p p2 pos pos' : Pos} (E : ErP X.K X.mg x) (hc : X.calm = true) (tk : Takes X W) (hm : c.mg = X.mg) (hg : Gl X x) (hdb : (x == ("__debug__" : Str)) = false := by decide) :
    PS X (.Raise (some (.Call (.Name x p) [.Constant (.str m) j p2] [] pos)) none pos') (tS c W (sRz x)) := by
  obtain ⟨C, bmB, B, newId, initId, gC, F, q, kC, eC, tC⟩ := E
  exact (ps_raise hc tk (pmk_own F q gC kC (raises_own eC tC) hg hdb)).imp fun D σ H ⟨env, F, S, q⟩ => q (.ref C) none σ H F S (Same.refl _) ⟨C, by rw [hm]; exact gC, rfl, rfl⟩
theorem relO_one {f : Str} {v : V} {u : Value} (r : RelV v u) (g : Str) : RelO (List.lookup g [(f, v)]) (if g = f then some u else none) := by
  by_cases h : g = f
  · subst h
    rw [if_pos rfl]
    have q : List.lookup g [(g, v)] = some v := by simp [List.lookup]
    rw [q]
    exact r
  · rw [if_neg h]
    have q : List.lookup g [(f, v)] = none := by simp [List.lookup, show (g == f) = false from by simpa using h]
    rw [q]
    trivial
/-- X(e), X with an __init__ of its own -/
def tMkE (C : Addr) (f : Str) (ta : TA) : L2.St → Hp → XK → Prop := fun σ H Q => ta σ H fun vs H1 => ∃ v, vs = [v] ∧ ∀ d, H1 d = none → Q (.ref C) (some d) (upd H1 d (.xd [(f, v)]))
theorem pmk_er {x f : Str} {B newId initId : String} {bmB : List Value} {C fI : Addr} {a : Expr} {ta : TA} {p pos : Pos} {k : Nat} (T : PX.ErC X.prog X.K X.mg x f B newId initId bmB C fI) (hr : Room k X.A) (ha : PA X [a] ta) (hg : Gl X x)
    (hdb : (x == ("__debug__" : Str)) = false := by decide) (he : starEach (a :: []) X.env = (false, eval a X.env) :: starEach [] X.env := by rfl) (hpl : (backTo pos (starEach [] X.env)).any (·.1) = false := by rfl) :
    PMk X (.Call (.Name x p) [a] [] pos) (tMkE C f ta) := by
  intro pins s σ H Q I h
  refine wpAny_Call_Name_kw (ld_glob I hg T.gC ?_ hdb)
  refine PySem.W.callWith_K (h₀ := X.base) I.ok.mod.kin T.kC (thn (ha.run pos pins s σ H _ I h) fun us s1 hh => ?_) he hpl
  obtain ⟨vs, H1, I1, r1, v, ev, q1⟩ := hh
  subst ev
  refine ⟨I1.kIn, ?_⟩
  cases r1 with
  | cons rv rn =>
    rename_i u us
    cases rn
    show wpAny _ _ (call (.ref C) [u]) _ _ _
    obtain ⟨mb, hb1, hb2⟩ := I.mod.blt
    have hlim := I1.nolimit
    obtain ⟨hp, g, dr, tk, os⟩ := s1
    refine wpAny_call (PX.error_made T (mb := mb) I1.kIn hlim (by have := hr.dp; omega) (I.mod.glob.keeps I1.bk) (hb1.keeps I1.bk) ((hb2 "super" (by decide)).trans (by decide +kernel)) fun h' tk' e d M => ?_)
    show MkP X pins σ Q (.ref e) ⟨h', g, dr, tk', os⟩
    obtain ⟨oe, fv, hoe, hc, hd, hdat, h1⟩ := M.obj
    obtain ⟨G', g1, g2⟩ := restrict h' fun b => decide (b ≠ e)
    have gk : ∀ b, b ≠ e → G'.get? b = h'.get? b := fun b hb => g1 b (decide_eq_true hb)
    have ge : G'.get? e = none := g2 e (by simp)
    have old : ∀ b o, hp.get? b = some o → G'.get? b = some o := fun b o q => (gk b (Nat.ne_of_lt (Nat.lt_of_lt_of_le (Heap.lt_size q) M.new))).trans (M.keep b o q)
    have ob : ObjOk X.prog X.w (upd H1 d (.xd [(f, v)])) G' d (.xd [(f, v)]) := ⟨_, M.ns.at (fun o q => (gk d M.dne).trans q), relO_one rv⟩
    have J : Inv X pins σ (upd H1 d (.xd [(f, v)])) ⟨G', g, dr, tk', os⟩ := I1.laid (t' := tk') old M.dbig ob
    refine ⟨e, oe, fv, ⟨G', g, dr, tk', os⟩, _, .ref C, some d, rfl, J, fun b o q => ?_, ge, hoe, ⟨hc, hd⟩, hdat, h1, ?_, rfl, I1.bare, raises_own T.exC T.tyC, q1 d (I1.hok.fresh M.dbig)⟩
    · by_cases hb : b = e
      · exact absurd (show G'.get? b = some o from q) (by rw [hb, ge]; simp)
      · exact (gk b hb).symm.trans q
    · rw [upd_ne (Ne.symm M.dne)]
      exact I1.hok.fresh M.new
theorem rs_raise1 {x f : Str} {B newId initId : String} {bmB : List Value} {C fI : Addr} {a : Expr} {m : En → R D} {p pos pos' : Pos} {k : Nat} (T : PX.ErC X.prog X.K X.mg x f B newId initId bmB C fI) (hr : RmG k X.A) (hc : X.calm = true) (tk : Takes X W) (hm : c.mg = X.mg) (ha : PE X a (tE c W m)) (hg : Gl X x)
    (hdb : (x == ("__debug__" : Str)) = false := by decide) (he : starEach (a :: []) X.env = (false, eval a X.env) :: starEach [] X.env := by rfl) (hpl : (backTo pos (starEach [] X.env)).any (·.1) = false := by rfl) :
    PS X (.Raise (some (.Call (.Name x p) [a] [] pos)) none pos') (tS c W (sRz1 x f m)) :=
  (ps_raise hc tk (pmk_er T hr.r (pa_cons ha pa_nil he) hg hdb he hpl)).imp fun D σ H ⟨env, F, S, q⟩ => by
    refine tM_bs S q fun d e v H1 F1 S1 s1 r1 h1 => ⟨v, rfl, fun dx ndx => ?_⟩
    have g2 := Go.frz S1.wf ndx (o := .xd [(f, v)]) (fun ps z => by cases z)
    exact h1 (.ref C) (some dx) σ _ _ (S1.go g2) g2.gr.f ⟨C, by rw [hm]; exact T.gC, rfl, dx, _, rfl, upd_same, .cons (r1.mono g2.gr.f) .nil⟩
end
/-! ### suites: something made of the error, returned -/
theorem RepX.mono {g : Gc} {F F' : Hp} (s : Same F F') {x : Xn} {cls : Value} {d : Option Addr} (h : RepX g F x cls d) : RepX g F' x cls d := by
  obtain ⟨C, h1, h2, h3⟩ := h
  refine ⟨C, h1, h2, ?_⟩
  cases q : x.fs with
  | none =>
    rw [q] at h3
    exact h3
  | some fs =>
    rw [q] at h3
    obtain ⟨dx, vs, e1, e2, e3⟩ := h3
    exact ⟨dx, vs, e1, s _ _ e2, e3.mono s⟩
/-- the reading of an expression made of the error: at is the slot that holds it, a the error, cls its class, d its dict -/
def tU (g : Gc) (at_ : Option Nat) (a : Addr) (cls : Value) (d : Option Addr) (m : Xn → Option PV.D) : TE := fun σ H Q => (∀ i, at_ = some i → σ[i]? = some (some (.ref a))) ∧ ∃ x F, WF g F H ∧ RepX g F x cls d ∧ ∃ dd, m x = some dd ∧ ∀ v H' F', Go g F H F' H' → Rep g F' dd v → Q v H'
section
variable {X : Cx} {g : Gc} {at_ : Option Nat} {a : Addr} {cls : Value} {d : Option Addr} {e e1 e2 : Expr} {m m1 m2 : Xn → Option PV.D} {pos : Pos}
def uK (dd : PV.D) : Xn → Option PV.D := fun _ => some dd
theorem ru_c {dd : PV.D} {v : V} (h : PE X e (tC v)) (r : ∀ F, Rep g F dd v) : PE X e (tU g at_ a cls d (uK dd)) := h.imp fun σ H Q ⟨_, x, F, w, _, dd', e', q⟩ => by
  cases e'
  exact q v H F (Go.refl w) (r F)
theorem ru_str {z : Str} {j : Nat} : PE X (.Constant (.str z) j pos) (tU g at_ a cls d (uK (.str z))) := ru_c pe_str fun _ => .str
theorem ru_bl {z : Bool} {j : Nat} : PE X (.Constant (.bool z) j pos) (tU g at_ a cls d (uK (.bl z))) := ru_c pe_bl fun _ => .bl
theorem ru_int {z : Int} {j : Nat} : PE X (.Constant (.int z) j pos) (tU g at_ a cls d (uK (.int z))) := ru_c pe_int fun _ => .int
theorem ru_non {j : Nat} : PE X (.Constant .none j pos) (tU g at_ a cls d (uK .non)) := ru_c pe_non fun _ => .non
def uOp (f : List PV.D → Option PV.D) (m1 m2 : Xn → Option PV.D) : Xn → Option PV.D := fun x => match m1 x, m2 x with
  | some d1, some d2 => f [d1, d2]
  | _, _ => none
theorem uOp_some {f : List PV.D → Option PV.D} {x : Xn} {dd : PV.D} (h : uOp f m1 m2 x = some dd) : ∃ d1 d2, m1 x = some d1 ∧ m2 x = some d2 ∧ f [d1, d2] = some dd := by
  unfold uOp at h
  split at h
  · rename_i d1 d2 h1 h2
    exact ⟨d1, d2, h1, h2, h⟩
  · cases h
theorem ru_op {op : Operator} {r : R2} {f : List PV.D → Option PV.D} (ho : OpR X (binaryOp op) r) (hf : OpA g (r2 r) f) (h1 : PE X e1 (tU g at_ a cls d m1)) (h2 : PE X e2 (tU g at_ a cls d m2)) : PE X (.BinOp e1 op e2 pos) (tU g at_ a cls d (uOp f m1 m2)) :=
  (pe_op ho h1 h2).imp fun σ H Q ⟨hs, x, F, w, rx, dd, hm, q⟩ => by
    obtain ⟨d1, d2, a1, a2, a3⟩ := uOp_some hm
    refine ⟨hs, x, F, w, rx, d1, a1, fun v1 H1 F1 g1 r1 => ⟨hs, x, F1, g1.gr.wf, rx.mono g1.gr.f, d2, a2, fun v2 H2 F2 g2 r2 => ?_⟩⟩
    exact hf [d1, d2] [v1, v2] dd F2 H2 Q g2.gr.wf (.cons (.st (r1.mono g2.gr.f)) (.cons (.st r2) .nil)) a3 fun v H3 F3 g3 rv => q v H3 F3 ((g1.trans g2).trans g3) rv
def uTup (m1 m2 : Xn → Option PV.D) : Xn → Option PV.D := uOp (fun ds => some (.tup ds)) m1 m2
theorem ru_tup {k : Nat} (h1 : PE X e1 (tU g at_ a cls d m1)) (h2 : PE X e2 (tU g at_ a cls d m2)) (hs1 : starEach [e1, e2] X.env = (false, eval e1 X.env) :: starEach [e2] X.env := by rfl) (hs2 : starEach [e2] X.env = (false, eval e2 X.env) :: starEach [] X.env := by rfl) :
    PE X (.Tuple [e1, e2] k pos) (tU g at_ a cls d (uTup m1 m2)) := (pe_tup (pa_cons h1 (pa_cons h2 pa_nil hs2) hs1)).imp fun σ H Q ⟨hs, x, F, w, rx, dd, hm, q⟩ => by
    obtain ⟨d1, d2, a1, a2, a3⟩ := uOp_some hm
    cases a3
    refine ⟨hs, x, F, w, rx, d1, a1, fun v1 H1 F1 g1 r1 => ⟨hs, x, F1, g1.gr.wf, rx.mono g1.gr.f, d2, a2, fun v2 H2 F2 g2 r2 => ⟨lim_line (show 2 ≤ lim by decide), fun p np => ?_⟩⟩⟩
    have g3 := Go.frz g2.gr.wf np (o := .tup [v1, v2]) (fun ps z => by cases z)
    exact q _ _ _ ((g1.trans g2).trans g3) (.tup (SqT.of upd_same) (.cons ((r1.mono g2.gr.f).mono g3.gr.f) (.cons (r2.mono g3.gr.f) .nil)))
def uTup1 (m1 : Xn → Option PV.D) : Xn → Option PV.D := fun x => (m1 x).map fun d => .tup [d]
theorem ru_tup1 {k : Nat} (h1 : PE X e1 (tU g at_ a cls d m1)) (hs1 : starEach [e1] X.env = (false, eval e1 X.env) :: starEach [] X.env := by rfl) :
    PE X (.Tuple [e1] k pos) (tU g at_ a cls d (uTup1 m1)) := (pe_tup (pa_cons h1 pa_nil hs1)).imp fun σ H Q ⟨hs, x, F, w, rx, dd, hm, q⟩ => by
    unfold uTup1 at hm
    obtain ⟨d1, a1, rfl⟩ := Option.map_eq_some_iff.mp hm
    refine ⟨hs, x, F, w, rx, d1, a1, fun v1 H1 F1 g1 r1 => ⟨lim_line (show 1 ≤ lim by decide), fun p np => ?_⟩⟩
    have g3 := Go.frz g1.gr.wf np (o := .tup [v1]) (fun ps z => by cases z)
    exact q _ _ _ (g1.trans g3) (.tup (SqT.of upd_same) (.cons (r1.mono g3.gr.f) .nil))
def uCall (f : List PV.D → Option PV.D) (m : Xn → Option PV.D) : Xn → Option PV.D := fun x => (m x).bind fun d => f [d]
theorem ru_cb {id : String} {r : List V → Hp → VK → Prop} {f : List PV.D → Option PV.D} {x : Str} {p : Pos} (hc : CallR X (.builtin id) r) (hf : OpA g r f) (hg : Gl X x) (hm : X.mg x = none) (hv : bootBuiltins x = some (.builtin id)) (ha : PE X e (tU g at_ a cls d m)) (hn : x ≠ "__name__" := by decide) (hdb : (x == ("__debug__" : Str)) = false := by decide)
    (he : starEach (e :: []) X.env = (false, eval e X.env) :: starEach [] X.env := by rfl) (hpl : (backTo pos (starEach [] X.env)).any (·.1) = false := by rfl) : PE X (.Call (.Name x p) [e] [] pos) (tU g at_ a cls d (uCall f m)) :=
  (pe_callB hc hg hm hv (pa_cons ha pa_nil he) hn hdb he hpl).imp fun σ H Q ⟨hs, x, F, w, rx, dd, hm, q⟩ => by
    unfold uCall at hm
    obtain ⟨d1, a1, a2⟩ := Option.bind_eq_some_iff.mp hm
    exact ⟨hs, x, F, w, rx, d1, a1, fun v1 H1 F1 g1 r1 => hf [d1] [v1] dd F1 H1 Q g1.gr.wf (.cons (.st r1) .nil) a2 fun v H2 F2 g2 rv => q v H2 F2 (g1.trans g2) rv⟩
def uFld (y f : Str) : Xn → Option PV.D := fun x => if x.cls == y then (match x.fs with
  | some fs => fs.lookup f
  | none => none) else none
theorem RepF.lookup {g : Gc} {F : Hp} {f : Str} {dd : PV.D} : ∀ {fs : List (Str × PV.D)} {vs : List (Str × V)}, RepF g F fs vs → fs.lookup f = some dd → ∃ v, vs.lookup f = some v ∧ Rep g F dd v
  | _, _, .nil, e => by cases e
  | _, _, @RepF.cons _ _ k x xs v vs h t, e => by
    by_cases q : f = k
    · subst q
      have e' : x = dd := by simpa [List.lookup] using e
      subst e'
      exact ⟨v, by simp [List.lookup], h⟩
    · have q' : (f == k) = false := by simpa using q
      have e' : xs.lookup f = some dd := by simpa [List.lookup, q'] using e
      obtain ⟨u, a1, a2⟩ := RepF.lookup t e'
      exact ⟨u, by simpa [List.lookup, q'] using a1, a2⟩
/-- err.f -/
theorem ru_fld {X : Cx} {oe : Obj} {pn : List (Addr × Obj)} {i : Nat} {n f y : Str} {C : Addr} {p : Pos} (T : XfC X.K C) (hno : PySem.W.findIn X.K (.ref C) f = some none) (gC : g.mg y = some (.ref C)) (hz : Zc cls d oe) (hf : ∃ vs, oe.data = .fields vs)
    (hN : PE (X.suite a ((a, oe) :: pn)) (.Name n p) (tVar i)) (hb : attributeBase (.Name n p) f X.env (eval (.Name n p) X.env) = eval (.Name n p) X.env := by rfl) : PE (X.suite a ((a, oe) :: pn)) (.Attribute (.Name n p) f pos) (tU g (some i) a cls d (uFld y f)) :=
  (pe_xf T hno hz hf hN hb).imp fun σ H Q ⟨hs, x, F, w, rx, dd, hm, q⟩ => by
    unfold uFld at hm
    split at hm
    · rename_i hy
      have hy := beq_iff_eq.mp hy
      obtain ⟨C', e1, e2, e3⟩ := rx
      rw [hy, gC] at e1
      cases e1
      cases qx : x.fs with
      | none =>
        rw [qx] at hm
        cases hm
      | some fs =>
        rw [qx] at hm e3
        obtain ⟨dx, vs, b1, b2, b3⟩ := e3
        obtain ⟨v, l1, l2⟩ := RepF.lookup b3 hm
        exact ⟨.ref a, hs i rfl, rfl, e2, dx, vs, v, b1, w.sub _ _ b2, l1, q v H F (Go.refl w) l2⟩
    · cases hm
end
end PV

/-! try, its suites returning -/
namespace PV
open PySem PySem.Spec PyProof.Rows L2
/-- a clause: which classes it takes, its slot, what it returns -/
structure Hd where
  can : List (Str × Bool)
  at_ : Option Nat
  su : Xn → Option PV.D
def hdOff (h : Hd) (e : En) : Option En := match h.at_ with
  | none => some e
  | some i => if free e i = true then some (e.set i .no) else none
def hdl : List Hd → Xn → En → Rs
  | [], x, e => .er x e
  | h :: r, x, e => match h.can.lookup x.cls with
    | some true => (match h.su x, hdOff h e with
      | some d, some e' => .rt d e'
      | _, _ => .no)
    | some false => hdl r x e
    | none => .no
def sTry (m : En → Rs) (hs : List Hd) : En → Rs := fun env => match m env with
  | .er x e => hdl hs x e
  | r => r
/-- a suite -/
def tSu (c : Cn) (h : Hd) : Su := fun a cls d D σ H => (∀ i, h.at_ = some i → σ[i]? = some (some (.ref a))) ∧ ∃ x env F, SR c env σ H F ∧ RepX c.toGc F x cls d ∧ ∃ dd, h.su x = some dd ∧ ∀ v H' F', SR c env σ H' F' → Same F F' → Rep c.toGc F' dd v → D.rt v H'
theorem rsu_rt {X : Cx} {c : Cn} {h : Hd} {a : Addr} {cls : Value} {d : Option Addr} {e : Expr} {pos : Pos} (he : PE X e (tU c.toGc h.at_ a cls d h.su)) : PSs X [.Return (some e) pos] (tSu c h a cls d) :=
  (pss_one (ps_ret he)).imp fun D σ H ⟨hs, x, env, F, S, rx, dd, hm, q⟩ => ⟨hs, x, F, S.wf, rx, dd, hm, fun v H' F' g' rv => q v H' F' (S.go g') g'.gr.f rv⟩
/-- the clauses as they stand -/
inductive HdsOk (X : Cx) (c : Cn) : List ExceptHandler → List Hd → List (Value × Option Nat × Su) → Prop
  | nil : HdsOk X c [] [] []
  | bare {x : Str} {C : Addr} {h : Hd} {b₀ : Stmt} {suite : List Stmt} {np pos' : Pos} {hds : List ExceptHandler} {hs : List Hd} {l : List (Value × Option Nat × Su)} (hg : Gl X x) (hm : X.mg x = some (.ref C)) (ha : h.at_ = none)
      (hcan : ∀ y b, h.can.lookup y = some b → ∀ C', c.mg y = some (.ref C') → PySem.W.exmOne X.K (.ref C') (.ref C) = some b) (hsu : SuOk X (b₀ :: suite) (tSu c h)) (r : HdsOk X c hds hs l) (hd : (x == ("__debug__" : Str)) = false := by decide) :
      HdsOk X c (.ExceptHandler (some (.Name x np)) none (b₀ :: suite) pos' :: hds) (h :: hs) ((.ref C, none, tSu c h) :: l)
  | as {x n : Str} {i : Nat} {C : Addr} {h : Hd} {b₀ : Stmt} {suite : List Stmt} {np pos' : Pos} {hds : List ExceptHandler} {hs : List Hd} {l : List (Value × Option Nat × Su)} (hi : X.N[i]? = some n) (hn : X.env.kindOf n = some .local) (hg : Gl X x) (hm : X.mg x = some (.ref C)) (ha : h.at_ = some i)
      (hcan : ∀ y b, h.can.lookup y = some b → ∀ C', c.mg y = some (.ref C') → PySem.W.exmOne X.K (.ref C') (.ref C) = some b) (hsu : SuOk X (b₀ :: suite) (tSu c h)) (r : HdsOk X c hds hs l) (hd : (x == ("__debug__" : Str)) = false := by decide) :
      HdsOk X c (.ExceptHandler (some (.Name x np)) (some n) (b₀ :: suite) pos' :: hds) (h :: hs) ((.ref C, some i, tSu c h) :: l)
section
variable {X : Cx} {c : Cn} {W : WX}
theorem HdsOk.mix : ∀ {hds : List ExceptHandler} {hs : List Hd} {l : List (Value × Option Nat × Su)}, HdsOk X c hds hs l → MixOk X hds l
  | _, _, _, .nil => .nil
  | _, _, _, .bare hg hm _ _ hsu r hd => .bare ⟨hg, hd, .inl hm⟩ hsu (HdsOk.mix r)
  | _, _, _, .as hi hn hg hm _ _ hsu r hd => .as hi hn ⟨hg, hd, .inl hm⟩ hsu (HdsOk.mix r)
/-- slot i, not a by-reference one, forgotten -/
theorem SR.off {env : En} {σ : L2.St} {H F : Hp} (S : SR c env σ H F) {i : Nat} (hf : free env i = true) (o : Option V) : SR c (env.set i .no) (σ.set i o) H F := by
  have own : ∀ j a, Own (env.set i .no) (σ.set i o) j a → Own env σ j a := fun j a ⟨h1, d', h2⟩ => by
    have hj : j ≠ i := fun z => by
      subst z
      by_cases hl : j < env.length
      · rw [List.getElem?_set_self hl] at h2
        rcases h2 with h2 | h2 <;> cases h2
      · rw [List.getElem?_eq_none (by simpa using hl)] at h2
        rcases h2 with h2 | h2 <;> cases h2
    rw [List.getElem?_set_ne (Ne.symm hj)] at h1 h2
    exact ⟨h1, d', h2⟩
  have ne : ∀ j (s : Sl), (env.set i .no)[j]? = some s → s ≠ .no → j ≠ i ∧ env[j]? = some s := fun j s h n => by
    have hj : j ≠ i := fun z => by
      subst z
      by_cases hl : j < env.length
      · rw [List.getElem?_set_self hl] at h
        exact n (Option.some.inj h).symm
      · rw [List.getElem?_eq_none (by simpa using hl)] at h
        cases h
    rw [List.getElem?_set_ne (Ne.symm hj)] at h
    exact ⟨hj, h⟩
  refine ⟨S.gr, S.there, S.rt, by simp [S.len], fun j d e => ?_, fun j d e => ?_, fun j d e => ?_, fun j k a h1 h2 => S.apart j k a (own j a h1) (own k a h2)⟩
  · obtain ⟨hj, e⟩ := ne j _ e (by simp)
    rw [List.getElem?_set_ne (Ne.symm hj)]
    exact S.fz j d e
  · obtain ⟨hj, e⟩ := ne j _ e (by simp)
    rw [List.getElem?_set_ne (Ne.symm hj)]
    exact S.ow j d e
  · obtain ⟨hj, e⟩ := ne j _ e (by simp)
    rw [List.getElem?_set_ne (Ne.symm hj)]
    exact S.rf j d e
theorem hdl_ok (hf : c.fr = false) {K : PySem.W.Frag} (hK : K = X.K) {D : Ends} {x : Xn} {cls : Value} {dx : Option Addr} {σ : L2.St} {H F : Hp} {e : En} (S : SR c e σ H F) (rx : RepX c.toGc F x cls dx) :
    ∀ {hds : List ExceptHandler} {hs : List Hd} {l : List (Value × Option Nat × Su)}, HdsOk X c hds hs l → OkS c W F D (hdl hs x e) → wMix X.K W D l cls dx σ H := by
  obtain ⟨Cx, e1, e2, e3⟩ := id rx
  subst e2
  have rtq : ∀ {h : Hd} {hs : List Hd}, OkS c W F D (match h.su x, hdOff h e with | some d, some e' => Rs.rt d e' | _, _ => .no) → ∃ d e', h.su x = some d ∧ hdOff h e = some e' ∧ OkS c W F D (.rt d e') := fun {h hs} q => by
    split at q
    · rename_i d e' a1 a2
      exact ⟨d, e', a1, a2, q⟩
    · exact q.elim
  intro hds hs l hk
  induction hk with
  | nil => exact fun q => q _ dx σ H F S (Same.refl _) rx
  | @bare x' C h b₀ suite np pos' hds hs l hg hm ha hcan hsu r hd ih =>
    intro q
    unfold hdl at q
    split at q
    · rename_i hl
      refine ⟨true, hcan _ _ hl _ e1, fun _ a na => ?_, (fun z => by cases z)⟩
      obtain ⟨d, e', a1, a2, q⟩ := rtq (hs := hs) q
      unfold hdOff at a2
      rw [ha] at a2
      cases a2
      exact ⟨(fun i z => by rw [ha] at z; cases z), x, e, F, S, rx, d, a1, fun v H' F' S' s' rv => q v σ H' F' S' s' (by unfold rlR; rw [if_neg (by rw [hf]; exact Bool.false_ne_true)]; exact rv)⟩
    · rename_i hl
      exact ⟨false, hcan _ _ hl _ e1, (fun z => by cases z), fun _ => ih q⟩
    · exact q.elim
  | @as x' n i C h b₀ suite np pos' hds hs l hi hn hg hm ha hcan hsu r hd ih =>
    intro q
    unfold hdl at q
    split at q
    · rename_i hl
      refine ⟨true, hcan _ _ hl _ e1, fun _ a na => ?_, (fun z => by cases z)⟩
      obtain ⟨d, e', a1, a2, q⟩ := rtq (hs := hs) q
      unfold hdOff at a2
      rw [ha] at a2
      have a2 : (if free e i = true then some (e.set i Sl.no) else none) = some e' := a2
      split at a2
      · rename_i hfr
        cases a2
        have hi' : i < σ.length := by
          rw [← S.len]
          unfold free at hfr
          by_cases hl : i < e.length
          · exact hl
          · rw [List.getElem?_eq_none (by omega)] at hfr
            cases hfr
        refine ⟨fun j z => ?_, x, e.set i .no, F, S.off hfr _, rx, d, a1, fun v H' F' S' s' rv => q v _ H' F' S' s' (by unfold rlR; rw [if_neg (by rw [hf]; exact Bool.false_ne_true)]; exact rv)⟩
        rw [ha] at z
        cases z
        exact List.getElem?_set_self hi'
      · cases a2
    · rename_i hl
      exact ⟨false, hcan _ _ hl _ e1, (fun z => by cases z), fun _ => ih q⟩
    · exact q.elim
theorem rs_try {body : List Stmt} {hds : List ExceptHandler} {h₀ : ExceptHandler} {m : En → Rs} {hs : List Hd} {l : List (Value × Option Nat × Su)} {pos : Pos} (hst : X.stack = X.env :: X.outer) (hfr : X.env.frame = some X.env.locals) (hN : X.N.Nodup) (tk : Takes X W) (hf : c.fr = false)
    (hb : ∀ (W : WX) (pn : List (Addr × Obj)) (xe : Value → Shared → Prop), Takes (X.tr pn xe) W → PSs (X.tr pn xe) body (tS c W m)) (hh : HdsOk X c (h₀ :: hds) hs l) : PS X (.Try body (h₀ :: hds) [] [] pos) (tS c W (sTry m hs)) :=
  (ps_try_mix (tb := fun W => tS c W m) hst hfr hN tk (fun W pn xe t _ => hb W pn xe t) hh.mix).imp fun D σ H ⟨env, F, S, q⟩ => by
    refine ⟨env, F, S, ?_⟩
    unfold sTry at q
    cases z : m env with
    | er x e =>
      rw [z] at q
      exact fun cls dx σ' H' F' S' s' rx => hdl_ok hf rfl S' rx hh (OkS.mono q s')
    | nx e =>
      rw [z] at q
      exact q
    | rt v e =>
      rw [z] at q
      exact q
    | bk e =>
      rw [z] at q
      exact q
    | ct e =>
      rw [z] at q
      exact q
    | no =>
      rw [z] at q
      exact q
end
end PV

/-! a lambda without parameters, handed to a def that calls it: where no guard is around, and with all that is new known -/
namespace PV
open PySem PySem.Spec PyProof.Rows L2 LamX
/-- the heap with a code object more, perhaps -/
def LamNew (H H1 : Hp) : Prop := ExtN H H1 ∧ (∀ b o, H1 b = some o → H b = some o ∨ (∃ ps, o = .tbl ps) ∨ ∃ q, o = CodeO b q) ∧ ∀ b, H b ≠ none → H1 b ≠ none
theorem LamNew.refl (H : Hp) : LamNew H H := ⟨ExtN.refl H, fun _ _ h => .inl h, fun _ h => h⟩
section
variable {X : Cx} {pins : List (Addr × Obj)} {σ : L2.St} {H : Hp} {s : Shared}
/-- as lam_make2, all that is new told -/
theorem lam_make3 {T : List (Addr × Str)} {c P : Addr} {params : Arguments} {body : Expr} {scope : Scope} {pos : Pos} {E : Value → Shared → Prop} {Q : Value → Shared → Prop} (I : Inv X pins σ H s) (TB : TabB X.base X.mg c P) (hcode : X.env.code = .ref c)
    (hm : (P, X.env.qual ++ "<lambda>") ∈ T) (hu : ∀ p ∈ T, p.1 = P → p.2 = X.env.qual ++ "<lambda>") (hT : Tabs T H) (hdef : defaultsOf params X.env = ([], [])) (hfree : ∀ y ∈ scope.names, y.2 = .free → ∃ c, X.env.cells.lookup y.1 = some c)
    (h : ∀ (f c' : Addr) (pm ctv : Value) (H1 : Hp) (s' : Shared), Inv X pins σ H1 s' → LamNew H H1 → Tabs T H1 →
      s'.heap.get? f = some (PySem.W.kla_obj "<lambda>" (X.env.qual ++ "<lambda>") params body scope (cloFrom X.env.cells scope.names []) pm c' ctv) → H1 f = none → f ∉ frs X.stack → H1 c' = some (CodeO c' (X.env.qual ++ "<lambda>")) → Q (.ref f) s') :
    wpAny (model X.prog X.w) X.A (eval (.Lambda params body scope pos) X.env) Q E s := by
  obtain ⟨ps, hP, ht, ha⟩ := hT _ hm
  have bP : s.heap.BuiltinsAt X.mg P := TB.bm.keeps I.bk
  have hP' : s.heap.get? P = some { cls := .none, data := .fields ps } := I.hok P _ hP
  have notFr : ∀ f, s.heap.objs.size ≤ f → f ∉ frs X.stack := fun f hf z => (List.mem_cons.mp (I.stkSub _ z)).elim (fun e => Nat.lt_irrefl _ (Nat.lt_of_lt_of_le (by rw [e]; exact I.lt) hf)) (I.nofs hf)
  refine PySem.W.kla_eval hdef ?_
  cases hc : codeAmong pos ps.toList with
  | some cv =>
    obtain ⟨c', rfl, hco⟩ := ha pos cv hc
    refine PySem.W.kla_makeFunctionHit (mg := X.mg) (c := c) (P := P) (ps := ps) (closure_ok hfree) I.ok.glob (I.mod.glob.keeps I.bk) hcode (TB.code.keeps I.bk) hP' ht hc bP fun ctv h' tk hx hsz => ?_
    have keep : ∀ b o, s.heap.get? b = some o → (h'.push (PySem.W.kla_obj "<lambda>" (X.env.qual ++ "<lambda>") params body scope (cloFrom X.env.cells scope.names []) ((X.mg "__name__").getD .none) c' ctv)).get? b = some o := fun b o e => Heap.get?_push_of_some _ (hx b o e)
    exact h h'.objs.size c' _ ctv H _ (I.kept (t' := tk) keep) (LamNew.refl H) hT (Heap.get?_push_size _ rfl) (I.hok.fresh hsz) (notFr _ hsz) hco
  | none =>
    refine PySem.W.kla_makeFunction (mg := X.mg) (c := c) (P := P) (ps := ps) (closure_ok hfree) I.ok.glob (I.mod.glob.keeps I.bk) hcode (TB.code.keeps I.bk) hP' ht hc TB.gP bP fun c' ctv h' tk hx hge hlt hrec htb => ?_
    obtain ⟨c2, oc, vs, t, e2, hoc, hd, hv⟩ := hrec
    cases e2
    have big : s.heap.objs.size ≤ h'.objs.size := Nat.le_trans hge (Nat.le_of_lt hlt)
    have nC : H c' = none := I.hok.fresh hge
    have nPc : P ≠ c' := ne_of_none hP nC
    have I1 := inv_table (t' := tk) (more := #[rawInt pos.line, rawInt pos.col, .ref c']) (h' := h'.push (PySem.W.kla_obj "<lambda>" (X.env.qual ++ "<lambda>") params body scope (cloFrom X.env.cells scope.names []) ((X.mg "__name__").getD .none) c' ctv)) I hP
      (fun b o hb e => Heap.get?_push_of_some _ (hx b o hb e)) (Heap.get?_push_of_some _ htb) hge ⟨oc, vs, t, Heap.get?_push_of_some _ hoc, hd, hv⟩
    have eL : (ps ++ #[rawInt pos.line, rawInt pos.col, .ref c']).toList = ps.toList ++ [rawInt pos.line, rawInt pos.col, .ref c'] := by simp
    have nw : LamNew H (upd (upd H P (.tbl (ps ++ #[rawInt pos.line, rawInt pos.col, .ref c']))) c' (CodeO c' (X.env.qual ++ "<lambda>"))) := by
      refine ⟨fun b o e n => ?_, fun b o e => ?_, fun b hb => upd_there b (upd_there b hb)⟩
      · rw [upd_ne (ne_of_none e nC), upd_ne (fun z => n ps (Option.some.inj (e.symm.trans (by rw [z]; exact hP))))]
        exact e
      · by_cases hb : b = c'
        · subst hb
          rw [upd_same] at e
          cases e
          exact .inr (.inr ⟨_, rfl⟩)
        · rw [upd_ne hb] at e
          by_cases hb2 : b = P
          · subst hb2
            rw [upd_same] at e
            cases e
            exact .inr (.inl ⟨_, rfl⟩)
          · rw [upd_ne hb2] at e
            exact .inl e
    have tabs : Tabs T (upd (upd H P (.tbl (ps ++ #[rawInt pos.line, rawInt pos.col, .ref c']))) c' (CodeO c' (X.env.qual ++ "<lambda>"))) := fun p hp => by
      obtain ⟨ps', a1, a2, a3⟩ := hT p hp
      by_cases hb : p.1 = P
      · rw [hu p hp hb, hb]
        refine ⟨_, by rw [upd_ne nPc, upd_same], by rw [eL]; exact PySem.TriplesOk_snoc _ _ _ _ ht, fun p' cv hcv => ?_⟩
        rw [eL] at hcv
        rcases among_app _ ht hcv with z | z
        · obtain ⟨c0, e1, e2⟩ := ha p' cv z
          exact ⟨c0, e1, nw.1 _ _ e2 codeO_ne⟩
        · exact ⟨c', z, upd_same⟩
      · refine ⟨ps', by rw [upd_ne (ne_of_none a1 nC), upd_ne hb]; exact a1, a2, fun p' cv hcv => ?_⟩
        obtain ⟨c0, e1, e2⟩ := a3 p' cv hcv
        exact ⟨c0, e1, nw.1 _ _ e2 codeO_ne⟩
    refine h h'.objs.size c' _ ctv _ _ I1 nw tabs (Heap.get?_push_size _ rfl) ?_ (notFr _ big) upd_same
    rw [upd_ne (Nat.ne_of_gt hlt), upd_ne (Nat.ne_of_gt (Nat.lt_of_lt_of_le (Heap.lt_size hP') big))]
    exact I.hok.fresh big
/-- the slots of a context for the lambda's body -/
abbrev lamA (X : Cx) (qg : Str) (sg : Scope) (s : Shared) (g : Addr) (cdg : Value) : Around := X.A.deeper (envOfC qg sg s.heap.objs.size g cdg)
/-- x(), in the def that got the lambda -/
theorem pe_actG {CXg : CXT} {Eg : XK} {Ng : List Str} {qg : Str} {sg : Scope} {g f c' : Addr} {cdg pm ctv : Value} {params : Arguments} {body : Expr} {scope : Scope} {k i : Nat} {a : Str} {pn : List (Addr × Obj)} {xe : Value → Shared → Prop} {W : WX} {tb : XK → TE} {p1 p2 : Pos}
    (I : Inv X pins σ H s) (L : LamS X.env.scope scope) (hf : s.heap.get? f = some (PySem.W.kla_obj "<lambda>" (X.env.qual ++ "<lambda>") params body scope (cloFrom X.env.cells scope.names []) pm c' ctv)) (hfn : H f = none) (hfr : f ∉ frs X.stack)
    (hbind : bindArgs (PySem.W.kla_fn "<lambda>" (X.env.qual ++ "<lambda>") params body scope (cloFrom X.env.cells scope.names []) pm (.ref c') ctv) ⟨[], []⟩ = pure [])
    (tk : Takes ((cxOf CXg X.prog X.w X.K X.mg X.base Ng qg sg g cdg X.A X.stack s H Eg).tr pn xe) W) (hr : RmG (k + 1) (lamA X qg sg s g cdg))
    (hbody : ∀ (A : Around) (outer : List Env) (s : Shared) (H : Hp) (E : XK), RmG k (A.deeper (lamEnv X scope s.heap.objs.size f c')) → PE (lamCx X A outer s H E scope f c') body (tb E))
    (hN : Ng[i]? = some a) (hv : Vis sg a) (hd : (a == ("__debug__" : Str)) = false := by decide) (hcd : (a == ("__classdict__" : Str)) = false := by decide) :
    PE ((cxOf CXg X.prog X.w X.K X.mg X.base Ng qg sg g cdg X.A X.stack s H Eg).tr pn xe) (.Call (.Name a p1) [] [] p2)
      (fun σZ HZ Q => σZ[i]? = some (some (.ref f)) ∧ HZ c' = some (CodeO c' (X.env.qual ++ "<lambda>")) ∧ tb (WE W σZ) σ HZ Q) := by
  refine ⟨fun pinsZ sZ σZ HZ Q IZ h => ?_⟩
  obtain ⟨hs, hc, ht⟩ := h
  refine wpAny_Call_Name_kw (thn ((pe_var (pos := p1) (i := i) hN hv hd hcd).run pinsZ sZ σZ HZ (fun v H1 => v = .ref f ∧ H1 = HZ) IZ ⟨.ref f, hs, rfl, rfl⟩) fun u s1 ⟨v, H1, I1, r1, ev, eH⟩ => ?_)
  subst ev
  rw [eH] at I1
  obtain rfl : u = Value.ref f := r1
  have un : Un (frs X.stack) [] H HZ s.heap s1.heap := I1.base
  have of1 : s1.heap.get? f = some (PySem.W.kla_obj "<lambda>" (X.env.qual ++ "<lambda>") params body scope (cloFrom X.env.cells scope.names []) pm c' ctv) := un.keep f _ hf hfn hfr (fun z => nomatch (show f ∈ ([] : List Addr) from z))
  obtain ⟨⟨oc, vs, t, hoc, hdc, hvc⟩, _, _⟩ := I1.hok c' _ hc
  refine PySem.W.callWith_F0 ⟨_, _, _, _, of1⟩ (wpAny_call (codeAny_mono (R := CR (L2.CX X.prog X.w) (envOfC qg sg s.heap.objs.size g cdg :: X.stack) X.prog X.w HZ s1 Q (WE W σZ)) ?_ fun r s' hq => ?_))
  · refine PySem.W.kla_callFunE hr.r.depth of1 rfl L.co L.gen rfl ⟨c', oc, vs, t, rfl, hoc, hdc, hvc⟩ ?_
    rw [show ([] ++ [] : List Value) = [] from rfl, hbind]
    refine wpAny_pure (wpAny_newFunctionEnv (fun y hy => (L.own y hy).2) (fun y hy => absurd hy (by simp)) (fun h₁ hns hsb => ⟨I1.nolimit.fresh _ hsb, ?_⟩) L.kind)
    show codeAny _ _ (.expr body (lamEnv X scope s1.heap.objs.size f c')) _ _
    have kp : ∀ b o, s1.heap.get? b = some o → h₁.get? b = some o := fun b o e => hsb.extBut b o (Nat.ne_of_lt (Heap.lt_size e)) (Heap.get?_push_of_some _ e)
    have J : Inv (lamCx X (lamA X qg sg s g cdg) (envOfC qg sg s.heap.objs.size g cdg :: X.stack) s1 HZ (WE W σZ) scope f c') [] σ HZ { s1 with heap := h₁, toks := s1.toks + ([] : List (Str × Value)).length } := lam_start2 I L I1.env0 hr.r.hd un hns kp
    refine PySem.W.kla_codeExpr (wpAny_mono ((hbody _ _ s1 HZ _ (hr.deeper _)).run [] _ _ HZ Q J ht) (fun v s' hq => ?_) fun e s' hq => hq)
    exact let ⟨w', H', J', rv, q⟩ := hq; ⟨w', H', J'.os, J'.bare, J'.base, J'.hok, rv, q⟩
  · have hx := passAt tk σZ
    match r, hq with
    | .error e, hq => exact hx pinsZ HZ s1 e s' I1 hq
    | .ok (.ret u), hq => exact I1.after hq
    | .ok .next, hq => exact False.elim hq
    | .ok .brk, hq => exact False.elim hq
    | .ok .cont, hq => exact False.elim hq
end
/-- the def that calls what it got -/
def Given (X : Cx) (Ng : List Str) (x : Str) (sg : Scope) (g : Addr) (cdg : Value) (bg : List Stmt) (a : Str) (q : Str) (TT : (XK → Hp → VK → Prop) → Hp → VK → Prop) : Prop :=
  ∀ (f c' : Addr) (s : Shared) (H : Hp) (Q : VK) (tl : XK → Hp → VK → Prop), RmG 0 (lamA X x sg s g cdg) →
    (∀ (W : WX) (pn : List (Addr × Obj)) (xe : Value → Shared → Prop) (p1 p2 : Pos), Takes ((cxOf C8.CX0 X.prog X.w X.K X.mg X.base Ng x sg g cdg X.A X.stack s H C8.E0).tr pn xe) W →
      PE ((cxOf C8.CX0 X.prog X.w X.K X.mg X.base Ng x sg g cdg X.A X.stack s H C8.E0).tr pn xe) (.Call (.Name a p1) [] [] p2) (fun σZ HZ Q => σZ[0]? = some (some (.ref f)) ∧ HZ c' = some (CodeO c' q) ∧ tl (WE W σZ) HZ Q)) →
    H c' = some (CodeO c' q) → TT tl H Q →
    ∃ t, PSs (cxOf C8.CX0 X.prog X.w X.K X.mg X.base Ng x sg g cdg X.A X.stack s H C8.E0).nox bg t ∧ t { nx := fun _ H' => Q .non H', rt := Q } (L2.start Ng [.ref f]) H
def tLamG (T : List (Addr × Str)) (TT : (XK → Hp → VK → Prop) → Hp → VK → Prop) (t : XK → TE) : TE := fun σ H Q => Tabs T H ∧ ∀ H1, LamNew H H1 → Tabs T H1 → TT (fun E H' Q' => t E σ H' Q') H1 Q
section
variable {X : Cx}
/-- x(lambda: body) -/
theorem pe_lamG {T : List (Addr × Str)} {TT : (XK → Hp → VK → Prop) → Hp → VK → Prop} {x a : Str} {g c P : Addr} {k : Nat} {st : Stmt} {fd : FuncData} {Ng : List Str}
    {params : Arguments} {body : Expr} {scope : Scope} {t : XK → TE} {p lpos pos : Pos} (hg : Gl X x) (hm : X.mg x = some (.ref g)) (F : Fun X.K x x st g fd) (hb : L2.Binds X.K fd [a] []) (Sg : FnScope Ng [a] (defScope st)) (hNg : Ng[0]? = some a) (hva : Vis (defScope st) a)
    (hG : ∀ cdv, Given X Ng x (defScope st) g cdv (defBody st) a (X.env.qual ++ "<lambda>") TT)
    (TB : TabB X.base X.mg c P) (hcode : X.env.code = .ref c) (hmT : (P, X.env.qual ++ "<lambda>") ∈ T) (hu : ∀ p ∈ T, p.1 = P → p.2 = X.env.qual ++ "<lambda>") (hr : RmG (k + 2) X.A) (L : LamS X.env.scope scope) (hdef : defaultsOf params X.env = ([], []))
    (hbind : ∀ (q : Str) (cl : List (Str × Addr)) (pm cv ctv : Value), bindArgs (PySem.W.kla_fn "<lambda>" q params body scope cl pm cv ctv) ⟨[], []⟩ = pure [])
    (hbody : ∀ (A : Around) (outer : List Env) (s : Shared) (H : Hp) (E : XK) (f c' : Addr), RmG k (A.deeper (lamEnv X scope s.heap.objs.size f c')) → PE (lamCx X A outer s H E scope f c') body (t E))
    (hdb : (x == ("__debug__" : Str)) = false := by decide) (hd : (a == ("__debug__" : Str)) = false := by decide) (hcd : (a == ("__classdict__" : Str)) = false := by decide) :
    PE X (.Call (.Name x p) [.Lambda params body scope lpos] [] pos) (tLamG T TT t) := by
  obtain ⟨oc, od, kV, doc, pm, an, cdv, ct, osl, rfl, lk, hcg⟩ := F.ex
  refine ⟨fun pins s σ H Q I h => ?_⟩
  obtain ⟨hT, h⟩ := h
  refine wpAny_Call_Name_kw (ld_glob I hg hm (PySem.W.callWith_K (h₀ := X.base) I.ok.mod.kin F.kp ?_ (by rfl) (by rfl)) hdb)
  show wpAny _ _ (spliced ((false, eval (.Lambda params body scope lpos) X.env) :: backTo pos (starEach [] X.env))) _ _ s
  refine Calls.spliced_cons (lam_make3 I TB hcode hmT hu hT hdef (L.has I.ok) fun f c' pm' ctv H1 s' I1 eN T1 hf hfn hfr hco => Calls.spliced_nil ⟨I1.kIn, wpAny_call (codeAny_mono (R := CR C8.CX0 X.stack X.prog X.w H1 s' Q C8.E0) ?_ fun r s2 hq => ?_)⟩)
  · refine run_ofS (N := Ng) (ps := [a]) (us := [.ref f]) (vs := [.ref f]) lk hcg Sg hr.r I1.env0 (hb s' [.ref f] I1.kIn rfl) (.cons rfl .nil) rfl fun hr' => ?_
    have hR : RmG (k + 1) (lamA X x (defScope st) s' g cdv) := ⟨hr', hr.g⟩
    obtain ⟨t', ht', hq'⟩ := hG cdv f c' s' H1 Q (fun E H' Q' => t E σ H' Q') (hR.mono (Nat.zero_le _)) (fun W pn xe p1 p2 tk => pe_actG (i := 0) I1 L hf hfn hfr (hbind _ _ _ _ _) tk hR (fun A outer s H E hr2 => hbody A outer s H E f c' hr2) hNg hva hd hcd) hco (h H1 eN T1)
    exact ⟨t', ht'.nox, hq'⟩
  · match r, hq with
    | .error e, hq => exact (show False from hq).elim
    | .ok (.ret u), hq => exact I1.after hq
    | .ok .next, hq => exact False.elim hq
    | .ok .brk, hq => exact False.elim hq
    | .ok .cont, hq => exact False.elim hq
end
end PV

/-! met(lambda: body): try: call() / except ..: return .. / return dflt -/
namespace PV
open PySem PySem.Spec PyProof.Rows L2 LamX
theorem SR.lamNew {c : Cn} {env : En} {σ : L2.St} {H H1 F : Hp} (S : SR c env σ H F) (n : LamNew H H1) (t : Tabs c.T H1) : SR c env σ H1 F := by
  obtain ⟨n1, n2, n3⟩ := n
  refine ⟨⟨⟨fun b o e => n1 b o (S.wf.sub b o e) fun ps z => S.wf.nt b ps (by rw [e, z]), fun b o e tp => ?_, S.wf.nt, t⟩, S.gr.f, fun b o e nt nr => n1 b o (S.gr.h b o e nt nr) nt, S.gr.new⟩, fun b hb => n3 b (S.there b hb), S.rt, S.len, S.fz, fun i d e => ?_, fun i d e => ?_, S.apart⟩
  · rcases n2 b o e with h | ⟨ps, h⟩ | ⟨q, h⟩
    · exact S.wf.tup b o h tp
    · subst h
      cases tp
    · subst h
      cases tp
  · obtain ⟨a, o, h1, h2, h3, h4, h5⟩ := S.ow i d e
    exact ⟨a, o, h1, n1 a o h2 h5.ntbl, h3, h4, h5⟩
  · obtain ⟨a, o, h0, h1, h2, h3, h5⟩ := S.rf i d e
    exact ⟨a, o, h0, h1, n1 a o h2 h5.ntbl, h3, h5⟩
/-- what the clauses make of an error -/
def pick : List Hd → Xn → Option PV.D
  | [], _ => none
  | h :: r, x => match h.can.lookup x.cls with
    | some true => h.su x
    | some false => pick r x
    | none => none
/-- the clauses as they stand, told by the things that never change -/
inductive HdsG (X : Cx) (g : Gc) (n : Nat) : List ExceptHandler → List Hd → List (Value × Option Nat × Su) → Prop
  | nil : HdsG X g n [] [] []
  | bare {x : Str} {C : Addr} {h : Hd} {b₀ : Stmt} {suite : List Stmt} {np pos' : Pos} {hds : List ExceptHandler} {hs : List Hd} {l : List (Value × Option Nat × Su)} (hg : Gl X x) (hm : X.mg x = some (.ref C)) (ha : h.at_ = none)
      (hcan : ∀ y b, h.can.lookup y = some b → ∀ C', g.mg y = some (.ref C') → PySem.W.exmOne X.K (.ref C') (.ref C) = some b) (hsu : SuOk X (b₀ :: suite) (fun a cls d D σ H => tU g none a cls d h.su σ H D.rt)) (r : HdsG X g n hds hs l) (hd : (x == ("__debug__" : Str)) = false := by decide) :
      HdsG X g n (.ExceptHandler (some (.Name x np)) none (b₀ :: suite) pos' :: hds) (h :: hs) ((.ref C, none, fun a cls d D σ H => tU g none a cls d h.su σ H D.rt) :: l)
  | as {x nm : Str} {i : Nat} {C : Addr} {h : Hd} {b₀ : Stmt} {suite : List Stmt} {np pos' : Pos} {hds : List ExceptHandler} {hs : List Hd} {l : List (Value × Option Nat × Su)} (hi : X.N[i]? = some nm) (hn : X.env.kindOf nm = some .local) (hlt : i < n) (hg : Gl X x) (hm : X.mg x = some (.ref C)) (ha : h.at_ = some i)
      (hcan : ∀ y b, h.can.lookup y = some b → ∀ C', g.mg y = some (.ref C') → PySem.W.exmOne X.K (.ref C') (.ref C) = some b) (hsu : SuOk X (b₀ :: suite) (fun a cls d D σ H => tU g (some i) a cls d h.su σ H D.rt)) (r : HdsG X g n hds hs l) (hd : (x == ("__debug__" : Str)) = false := by decide) :
      HdsG X g n (.ExceptHandler (some (.Name x np)) (some nm) (b₀ :: suite) pos' :: hds) (h :: hs) ((.ref C, some i, fun a cls d D σ H => tU g (some i) a cls d h.su σ H D.rt) :: l)
theorem HdsG.mix {X : Cx} {g : Gc} {n : Nat} : ∀ {hds : List ExceptHandler} {hs : List Hd} {l : List (Value × Option Nat × Su)}, HdsG X g n hds hs l → MixOk X hds l
  | _, _, _, .nil => .nil
  | _, _, _, .bare hg hm _ _ hsu r hd => .bare ⟨hg, hd, .inl hm⟩ hsu (HdsG.mix r)
  | _, _, _, .as hi hn _ hg hm _ _ hsu r hd => .as hi hn ⟨hg, hd, .inl hm⟩ hsu (HdsG.mix r)
/-- what is wished of an error -/
def wishE (g : Gc) (hs : List Hd) (Q : VK) : XK := fun cls d H => ∃ x F, WF g F H ∧ RepX g F x cls d ∧ ∃ dd, pick hs x = some dd ∧ ∀ v H' F', Go g F H F' H' → Rep g F' dd v → Q v H'
theorem wishE_mix {X : Cx} {g : Gc} {n : Nat} {D : Ends} {Q : VK} (hQ : D.rt = Q) {cls : Value} {d : Option Addr} {σ : L2.St} {H : Hp} (hσ : σ.length = n) {x : Xn} {F : Hp} (w : WF g F H) (rx : RepX g F x cls d) {dd : PV.D} (hq : ∀ v H' F', Go g F H F' H' → Rep g F' dd v → Q v H') :
    ∀ {hds : List ExceptHandler} {hs : List Hd} {l : List (Value × Option Nat × Su)}, HdsG X g n hds hs l → pick hs x = some dd → wMix X.K (fun _ _ _ _ => False) D l cls d σ H := by
  obtain ⟨Cx, e1, e2, e3⟩ := id rx
  subst e2
  intro hds hs l hk
  induction hk with
  | nil => exact fun h => by cases h
  | @bare x' C h b₀ suite np pos' hds hs l hg hm ha hcan hsu r hd ih =>
    intro hp
    unfold pick at hp
    split at hp
    · rename_i hl
      exact ⟨true, hcan _ _ hl _ e1, fun _ a na => ⟨(fun i z => by cases z), x, F, w, rx, dd, hp, by rw [hQ]; exact hq⟩, (fun z => by cases z)⟩
    · rename_i hl
      exact ⟨false, hcan _ _ hl _ e1, (fun z => by cases z), fun _ => ih hp⟩
    · cases hp
  | @as x' nm i C h b₀ suite np pos' hds hs l hi hn hlt hg hm ha hcan hsu r hd ih =>
    intro hp
    unfold pick at hp
    split at hp
    · rename_i hl
      refine ⟨true, hcan _ _ hl _ e1, fun _ a na => ⟨fun j z => ?_, x, F, w, rx, dd, hp, by show ∀ v H' F', _ → _ → D.rt v H'; rw [hQ]; exact hq⟩, (fun z => by cases z)⟩
      cases z
      exact List.getElem?_set_self (by rw [hσ]; exact hlt)
    · rename_i hl
      exact ⟨false, hcan _ _ hl _ e1, (fun z => by cases z), fun _ => ih hp⟩
    · cases hp
/-- what is wished of what comes back -/
def wishQ (g : Gc) (dd : PV.D) (Q : VK) : VK := fun _ H => ∃ F, WF g F H ∧ ∀ v H' F', Go g F H F' H' → Rep g F' dd v → Q v H'
def TTm (g : Gc) (hs : List Hd) (dd : PV.D) : (XK → Hp → VK → Prop) → Hp → VK → Prop := fun tl H Q => ∀ E Q', (∀ cls d H', wishE g hs Q cls d H' → E cls d H') → (∀ v H', wishQ g dd Q v H' → Q' v H') → tl E H Q'
theorem takesN {X : Cx} : Takes X (fun _ _ _ _ => False) := fun _ _ x => by
  obtain ⟨_, _, _, _, _, _, _, _, _, _, _, _, _, _, _, _, z⟩ := x
  exact z.elim
theorem SR.bare {g : Gc} {F H : Hp} (w : WF g F H) (σ : L2.St) : SR ⟨g, none, H, F, false⟩ (List.replicate σ.length .no) σ H F := by
  have no : ∀ (i : Nat) (s : Sl), (List.replicate σ.length Sl.no)[i]? = some s → s = .no := fun i s h => by
    rw [List.getElem?_replicate] at h
    split at h
    · exact (Option.some.inj h).symm
    · cases h
  refine ⟨Gr.refl w, fun _ h => h, fun a e => (by cases e), by simp, fun i d e => ?_, fun i d e => ?_, fun i d e => ?_, fun i j a ⟨_, d, e⟩ => ?_⟩
  · cases no i _ e
  · cases no i _ e
  · cases no i _ e
  · rcases e with e | e <;> cases no i _ e
section
variable {X : Cx}
/-- the def keeps its word -/
theorem met_given {g : Gc} {Ng : List Str} {x a q : Str} {sg : Scope} {gA : Addr} {cdg : Value} {hs : List Hd} {dd : PV.D} {h₀ : ExceptHandler} {hds : List ExceptHandler} {de : Expr} {m0 : En → R PV.D} {e0 : En} {p1 p2 p3 p4 p5 : Pos} (hgK : g.K = X.K) (hND : Ng.Nodup) (hlen : 0 < Ng.length)
    (hh : ∀ s H, RmG 0 (lamA X x sg s gA cdg) → ∃ l, HdsG (cxOf C8.CX0 X.prog X.w X.K X.mg X.base Ng x sg gA cdg X.A X.stack s H C8.E0).nox g Ng.length (h₀ :: hds) hs l)
    (hde : ∀ s H H0 F0, PE (cxOf C8.CX0 X.prog X.w X.K X.mg X.base Ng x sg gA cdg X.A X.stack s H C8.E0).nox de (tE ⟨g, none, H0, F0, false⟩ (fun _ _ _ _ => False) m0)) (hm0 : m0 (List.replicate Ng.length .no) = .ok dd e0) :
    Given X Ng x sg gA cdg [.Try [.Expr (.Call (.Name a p1) [] [] p2) p3] (h₀ :: hds) [] [] p4, .Return (some de) p5] a q (TTm g hs dd) := by
  intro f c' s H Q tl hr act hc hT
  obtain ⟨l, hh⟩ := hh s H hr
  have hσ : (L2.start Ng [V.ref f]).length = Ng.length := by
    unfold L2.start
    simp
    omega
  have h0 : (L2.start Ng [V.ref f])[0]? = some (some (.ref f)) := rfl
  refine ⟨_, pss_cons (ps_try_mix (X := (cxOf C8.CX0 X.prog X.w X.K X.mg X.base Ng x sg gA cdg X.A X.stack s H C8.E0).nox) (tb := fun W D σ H => σ[0]? = some (some (.ref f)) ∧ H c' = some (CodeO c' q) ∧ tl (WE W σ) H (fun _ H1 => D.nx σ H1)) rfl rfl hND takesN (fun W pn xe tk _ => ?_) hh.mix)
    (pss_one (t := fun D σ H => σ.length = Ng.length ∧ ∃ F, WF g F H ∧ ∀ v H' F', Go g F H F' H' → Rep g F' dd v → D.rt v H') (⟨fun pins s1 σ1 H1 D I h => ?_⟩)), ?_⟩
  · exact (pss_one (ps_expr (pos := p3) (act W pn xe p1 p2 tk))).imp fun D σ H h => h
  · obtain ⟨hl, F, w, h⟩ := h
    refine (ps_ret (pos := p5) (hde s H H1 F)).run pins s1 σ1 H1 D I ⟨List.replicate σ1.length .no, F, SR.bare w σ1, ?_⟩
    rw [hl, hm0]
    exact fun v H' F' S' s' rv => h v H' F' ⟨S'.gr, S'.there⟩ rv
  · refine ⟨h0, hc, hT _ _ (fun cls d H' hw => ?_) fun v H' hw => ?_⟩
    · obtain ⟨x', F, w, rx, d', hp, hq⟩ := hw
      exact wishE_mix (X := (cxOf C8.CX0 X.prog X.w X.K X.mg X.base Ng x sg gA cdg X.A X.stack s H C8.E0).nox) rfl hσ w rx hq hh hp
    · obtain ⟨F, w, h⟩ := hw
      exact ⟨hσ, F, w, h⟩
theorem su_ret {g : Gc} {at_ : Option Nat} {a : Addr} {cls : Value} {d : Option Addr} {m : Xn → Option PV.D} {e : Expr} {pos : Pos} (he : PE X e (tU g at_ a cls d m)) : PSs X [.Return (some e) pos] (fun D σ H => tU g at_ a cls d m σ H D.rt) := (pss_one (ps_ret he)).imp fun D σ H q => q
/-- what met makes of an outcome -/
def mMet (hs : List Hd) (dd : PV.D) (m : En → R PV.D) : En → R PV.D := fun env => match m env with
  | .ok _ e => .ok dd e
  | .er x e => (match pick hs x with
    | some d => .ok d e
    | none => .no)
  | .no => .no
theorem met_ok {c : Cn} {W : WX} {hs : List Hd} {dd : PV.D} {m : En → R PV.D} {σ : L2.St} {H : Hp} {Q : VK} (q : tE c W (mMet hs dd m) σ H Q) : tLamG c.T (TTm c.toGc hs dd) (fun E => tE c (wD E) m) σ H Q := by
  obtain ⟨env, F, S, q⟩ := q
  refine ⟨S.wf.tab, fun H1 n T1 E Q' hE hQ => ⟨env, F, S.lamNew n T1, ?_⟩⟩
  unfold mMet at q
  cases z : m env with
  | ok d e =>
    rw [z] at q
    exact fun v H' F' S' s' rv => hQ v H' ⟨F', S'.wf, fun v2 H2 F2 g2 r2 => q v2 H2 F2 (S'.go g2) (s'.trans g2.gr.f) r2⟩
  | er x e =>
    rw [z] at q
    have q : Okp c W σ F (rlE c) Q (match pick hs x with | some d => .ok d e | none => .no) := q
    refine fun cls dx H' F' S' s' rx => hE cls dx H' ⟨x, F', S'.wf, rx, ?_⟩
    cases y : pick hs x with
    | none =>
      rw [y] at q
      exact q.elim
    | some d =>
      rw [y] at q
      exact ⟨d, rfl, fun v2 H2 F2 g2 r2 => q v2 H2 F2 (S'.go g2) (s'.trans g2.gr.f) r2⟩
  | no =>
    rw [z] at q
    exact q.elim
end
end PV

/-! what the walks of the laws of errors use -/
namespace PV
open PySem PySem.Spec PyProof.Rows L2 LamX
section
variable {X : Cx} {c : Cn} {W : WX}
theorem re_met {hs : List Hd} {dd : D} {m : En → R D} {x a : Str} {g cA P : Addr} {k : Nat} {st : Stmt} {fd : FuncData} {Ng : List Str} {params : Arguments} {body : Expr} {scope : Scope} {p lpos pos : Pos}
    (hr : RmG (k + 2) X.A) (hg : Gl X x) (hm : X.mg x = some (.ref g)) (F : Fun X.K x x st g fd) (hb : L2.Binds X.K fd [a] []) (Sg : FnScope Ng [a] (defScope st)) (hNg : Ng[0]? = some a) (hva : Vis (defScope st) a)
    (hG : ∀ cdv, Given X Ng x (defScope st) g cdv (defBody st) a (X.env.qual ++ "<lambda>") (TTm c.toGc hs dd))
    (TB : TabB X.base X.mg cA P) (hcode : X.env.code = .ref cA) (hmT : (P, X.env.qual ++ "<lambda>") ∈ c.T) (hu : ∀ p ∈ c.T, p.1 = P → p.2 = X.env.qual ++ "<lambda>") (L : LamS X.env.scope scope) (hdef : defaultsOf params X.env = ([], []))
    (hbind : ∀ (q : Str) (cl : List (Str × Addr)) (pm cv ctv : Value), bindArgs (PySem.W.kla_fn "<lambda>" q params body scope cl pm cv ctv) ⟨[], []⟩ = pure [])
    (hbody : ∀ (A : Around) (outer : List Env) (s : Shared) (H : Hp) (E : XK) (f c' : Addr), RmG k (A.deeper (lamEnv X scope s.heap.objs.size f c')) → PE (lamCx X A outer s H E scope f c') body (tE c (wD E) m))
    (hdb : (x == ("__debug__" : Str)) = false := by decide) (hd : (a == ("__debug__" : Str)) = false := by decide) (hcd : (a == ("__classdict__" : Str)) = false := by decide) :
    PE X (.Call (.Name x p) [.Lambda params body scope lpos] [] pos) (tE c W (mMet hs dd m)) :=
  (pe_lamG (t := fun E => tE c (wD E) m) hg hm F hb Sg hNg hva hG TB hcode hmT hu hr L hdef hbind hbody hdb hd hcd).imp fun σ H Q q => met_ok q
/-- which classes a clause takes -/
def Can (K : PySem.W.Frag) (mg : Str → Option Value) (C : Addr) (l : List (Str × Bool)) : Prop := ∀ y b, l.lookup y = some b → ∀ C', mg y = some (.ref C') → PySem.W.exmOne K (.ref C') (.ref C) = some b
theorem can_nil {K : PySem.W.Frag} {mg : Str → Option Value} {C : Addr} : Can K mg C [] := fun _ _ h => by cases h
theorem can_cons {K : PySem.W.Frag} {mg : Str → Option Value} {C Cy : Addr} {y : Str} {b : Bool} {l : List (Str × Bool)} (hy : mg y = some (.ref Cy)) (h : PySem.W.exmOne K (.ref Cy) (.ref C) = some b) (r : Can K mg C l) : Can K mg C ((y, b) :: l) := fun z b' e C' hz => by
  by_cases q : z = y
  · subst q
    have e' : b = b' := by simpa [List.lookup] using e
    subst e'
    rw [hy] at hz
    cases hz
    exact h
  · have q' : (z == y) = false := by simpa using q
    exact r z b' (by simpa [List.lookup, q'] using e) C' hz
/-- an error of the class at C, held against the class at S -/
theorem exm_by {K : PySem.W.Frag} {C S : Addr} {b : Bool} (h1 : PySem.W.subIn K (.ref S) (.type "BaseException") = some true) (h2 : PySem.W.isClsIn K S = true) (h3 : PySem.W.typeIn K (.ref S) = some (.type "type")) (h4 : PySem.W.subIn K (.ref C) (.ref S) = some b) : PySem.W.exmOne K (.ref C) (.ref S) = some b := by
  have e1 : (PySem.W.subIn K (.ref S) (.type "BaseException") == some true) = true := by rw [h1] <;> rfl
  have e2 : ((PySem.W.clsIn K S).isSome && PySem.W.typeIn K (.ref S) == some (.type "type")) = true := by
    have h2' : (PySem.W.clsIn K S).isSome = true := h2
    rw [h2', h3] <;> rfl
  show (if (PySem.W.subIn K (.ref S) (.type "BaseException") == some true) = true then (if ((PySem.W.clsIn K S).isSome && PySem.W.typeIn K (.ref S) == some (.type "type")) = true then PySem.W.subIn K (.ref C) (.ref S) else none) else none) = some b
  rw [if_pos e1, if_pos e2]
  exact h4
end
theorem hu_of {T : List (Addr × Str)} {P : Addr} {q : Str} (hn : (T.map (·.1)).Nodup) (hm : (P, q) ∈ T) : ∀ p ∈ T, p.1 = P → p.2 = q := by
  induction T with
  | nil => cases hm
  | cons t r ih =>
    intro p hp e
    rw [List.map_cons, List.nodup_cons] at hn
    rcases List.mem_cons.mp hp with rfl | hp
    · rcases List.mem_cons.mp hm with h | h
      · rw [← h]
      · exact absurd (List.mem_map.mpr ⟨_, h, e.symm⟩) hn.1
    · rcases List.mem_cons.mp hm with h | h
      · exact absurd (List.mem_map.mpr ⟨p, hp, by rw [e, ← h]⟩) hn.1
      · exact ih hn.2 h p hp e
/-! ### the law's end -/
theorem law_sp {K : PySem.W.Frag} {mg : Str → Option Value} {T : List (Addr × Str)} {f : List D → Rf} (h : ∀ ns : List Int, ns.length ≤ 63 → f [.ro (ns.map D.int)] = .ok (.bl true)) {H : Hp} {a : Addr} {ns : List Int} (hl : ns.length ≤ 63)
    (hT : ∀ p ∈ T, H p.1 = some (.tbl #[])) (hS : SqL K H a (ns.map V.int)) : spD ⟨K, mg, T⟩ false 1 f [.ref a] H (fun v _ => v = .bl true) fun _ _ _ => False := by
  refine ⟨rfl, noTbl H, [.ro (ns.map D.int)], ⟨fun b o e => (noTbl_of e).1, fun b o e t => noTbl_some e (fun ps z => by subst z; cases t), fun b ps e => (noTbl_of e).2 ps rfl, fun p hp => TabS.nil (hT p hp)⟩, .cons (.ro ?_ (Reps.ofInts ns)) .nil, ?_⟩
  · rcases hS with (hS | ⟨o, hS⟩) | hS
    · exact .inl (.inl (noTbl_some hS fun ps z => by cases z))
    · exact .inl (.inr ⟨o, noTbl_some hS fun ps z => by cases z⟩)
    · exact .inr hS
  · rw [h ns hl]
    intro v H' F' g' rv
    have rv := rlQ_rep rv
    cases rv
    rfl
/-- the tables of the lambdas' code: of the defs named so -/
structure TabL (q : Program) (K : PySem.W.Frag) (h : Heap) (x : Str) (c P : Addr) : Prop where
  hd : PySem.W.CodeHd h c P
  emp : h.get? P = some { cls := .none, data := .fields #[] }
  no : K.lookup P = none
theorem tabL_of {q : Program} {K : PySem.W.Frag} {h : Heap} {x : Str} {c P : Addr} {d : DefRec} (TT : TabT q K h) (h1 : (recsOf q).find? (fun e => e.name == x) = some d) (h2 : PySem.W.tabIn K x = some (c, P)) (h3 : K.lookup P = none) : TabL q K h x c P :=
  ⟨(TT x c P d h1 h2).1, (TT x c P d h1 h2).2, h3⟩
inductive TabLs (q : Program) (K : PySem.W.Frag) (h : Heap) : List (Addr × Addr) → Prop
  | nil : TabLs q K h []
  | cons {x : Str} {c P : Addr} {l : List (Addr × Addr)} : TabL q K h x c P → TabLs q K h l → TabLs q K h ((c, P) :: l)
theorem TabLs.all {q : Program} {K : PySem.W.Frag} {h : Heap} : ∀ {l : List (Addr × Addr)}, TabLs q K h l → ∀ p ∈ l, h.get? p.2 = some { cls := .none, data := .fields #[] } ∧ K.lookup p.2 = none ∧ PySem.W.CodeHd h p.1 p.2
  | _, .cons t r, p, hp => by
    rcases List.mem_cons.mp hp with rfl | hp
    · exact ⟨t.emp, t.no, t.hd⟩
    · exact TabLs.all r p hp
theorem tabIn_of {K : PySem.W.Frag} {x : Str} {f cc P : Addr} {oc o1 : Value} {od d1 : Option Addr} {sl s1 : Array (Option Value)} {fd : FuncData} {vs : Array Value} (a : PySem.W.nsIn K mainGlobals x = some (some (.ref f))) (l : K.lookup f = some ⟨oc, od, .func fd, sl⟩) (c : fd.code = .ref cc)
    (cr : K.lookup cc = some ⟨o1, d1, .fields vs, s1⟩) (ci : vs[11]? = some (.ref P)) : PySem.W.tabIn K x = some (cc, P) := by
  unfold PySem.W.tabIn
  simp only [a, l, c, cr, ci]
inductive TT2 : List (Addr × Str) → List (Addr × Addr) → Prop
  | nil : TT2 [] []
  | cons (c P : Addr) (q : Str) {T : List (Addr × Str)} {cs : List (Addr × Addr)} : TT2 T cs → TT2 ((P, q) :: T) ((c, P) :: cs)
theorem TT2.all : ∀ {T : List (Addr × Str)} {cs : List (Addr × Addr)}, TT2 T cs → ∀ p ∈ T, ∃ c, (c, p.1) ∈ cs
  | _, _, .cons c P q r, p, hp => by
    rcases List.mem_cons.mp hp with rfl | hp
    · exact ⟨c, .head _⟩
    · obtain ⟨c', h⟩ := TT2.all r p hp
      exact ⟨c', .tail _ h⟩
theorem bt_repr : bootBuiltins "repr" = some (.builtin "repr") := by decide +kernel
theorem lawG_of {l : PySem.W.OpenLaw} {w : World} {q : Program} {K : PySem.W.Frag} {mg : Str → Option Value} {fa : Addr} {h : Heap} {k : Nat} {fd : FuncData} {f : List D → Rf} {cs : List (Addr × Addr)} {T : List (Addr × Str)} (t : TabLs q K h cs) (hTc : ∀ p ∈ T, ∃ c, (c, p.1) ∈ cs) (hf : ∀ ns : List Int, ns.length ≤ 63 → f [.ro (ns.map D.int)] = .ok (.bl true))
    (hb : ∀ (s : Shared) (u : Value), BindsTo s fd ⟨[u], []⟩ [("script", u)]) (hF : ∀ base : Heap, K.In base → base.Ns mainGlobals mg → (∀ p ∈ cs, TabB base mg p.1 p.2) → FnG l.prog w K mg base (L2.CX l.prog w) k fa fd ["script"] (spD ⟨K, mg, T⟩ false 1 f)) :
    LawG l w K (L2.CX l.prog w) k 63 "script" mg fa h :=
  ⟨fd, cs, _, fun p hp => (t.all p hp).1, fun p hp => (t.all p hp).2.1, fun p hp => (t.all p hp).2.2, hb, fun H a ns hl hT _ hS => law_sp hf hl (fun p hp => let ⟨c, hc⟩ := hTc p hp; hT _ hc) hS, hF⟩
end PV

namespace PV
open L2
/-! ### loops and comprehensions by what they do -/
theorem lcL_pure {α : Type} {T : Tg} {t : En → R Bool} {m : En → R D} {vs : List Nat} {e : En} (c : α → D) (p : α → Bool) (g : α → D) : ∀ {ds : List α}, (∀ d ∈ ds, ∃ e1 e2, bindT T (c d) e = some e1 ∧ t e1 = .ok (p d) e2 ∧ (p d = false → wipeE e2 vs = e) ∧ (p d = true → ∃ e3, m e2 = .ok (g d) e3 ∧ wipeE e3 vs = e)) →
    lcL T t m vs (ds.map c) e = .ok ((ds.filter p).map g) e
  | [], _ => rfl
  | d :: r, h => by
    obtain ⟨e1, e2, h1, h2, h3, h4⟩ := h d (List.mem_cons_self ..)
    have ih := lcL_pure (T := T) (t := t) (m := m) (vs := vs) (e := e) c p g (ds := r) fun x hx => h x (List.mem_cons_of_mem _ hx)
    rw [List.map_cons]
    unfold lcL
    rw [h1]
    simp only [h2]
    cases q : p d with
    | false =>
      simp only [h3 q, ih, List.filter_cons, q]
      rfl
    | true =>
      obtain ⟨e3, h5, h6⟩ := h4 q
      simp only [h5, h6, ih, List.filter_cons, q]
      rfl
/-- .. all of them -/
theorem lcL_all {α : Type} {T : Tg} {m : En → R D} {vs : List Nat} {e : En} (c : α → D) (g : α → D) {ds : List α} (h : ∀ d ∈ ds, ∃ e1 e3, bindT T (c d) e = some e1 ∧ m e1 = .ok (g d) e3 ∧ wipeE e3 vs = e) :
    lcL T tYs m vs (ds.map c) e = .ok (ds.map g) e := by
  have := lcL_pure (T := T) (t := tYs) (m := m) (vs := vs) (e := e) c (fun _ => true) g (ds := ds) fun d hd => by
    obtain ⟨e1, e3, h1, h2, h3⟩ := h d hd
    exact ⟨e1, e1, h1, rfl, (fun z => by cases z), fun _ => ⟨e3, h2, h3⟩⟩
  rw [this]
  have e1 : ds.filter (fun _ => true) = ds := List.filter_eq_self.mpr fun _ _ => rfl
  rw [e1]
/-- .. with a state -/
theorem lcL_inv {T : Tg} {t : En → R Bool} {m : En → R D} {vs : List Nat} (P : List D → List D → En → Prop) : ∀ (ds acc : List D) (e : En),
    (∀ d r acc e, P (d :: r) acc e → ∃ e1 b e2, bindT T d e = some e1 ∧ t e1 = .ok b e2 ∧ (b = false → P r acc (wipeE e2 vs)) ∧ (b = true → ∃ y e3, m e2 = .ok y e3 ∧ P r (acc ++ [y]) (wipeE e3 vs))) →
    P ds acc e → ∃ ys e', lcL T t m vs ds e = .ok ys e' ∧ P [] (acc ++ ys) e'
  | [], acc, e, _, h => ⟨[], e, rfl, by rw [List.append_nil]; exact h⟩
  | d :: r, acc, e, hs, h => by
    obtain ⟨e1, b, e2, h1, h2, h3, h4⟩ := hs d r acc e h
    unfold lcL
    rw [h1]
    simp only [h2]
    cases b with
    | false =>
      obtain ⟨ys, e', h5, h6⟩ := lcL_inv P r acc _ hs (h3 rfl)
      exact ⟨ys, e', h5, h6⟩
    | true =>
      obtain ⟨y, e3, h5, h6⟩ := h4 rfl
      obtain ⟨ys, e', h7, h8⟩ := lcL_inv P r _ _ hs h6
      refine ⟨y :: ys, e', ?_, by rw [← List.append_cons] at h8; exact h8⟩
      simp only [h5, h7]
      rfl
theorem forL_inv {T : Tg} {m : En → Rs} (P : List D → En → Prop) (hs : ∀ d r e, P (d :: r) e → ∃ e1 e2, bindT T d e = some e1 ∧ (m e1 = .nx e2 ∨ m e1 = .ct e2) ∧ P r e2) : ∀ (ds : List D) (e : En), P ds e → ∃ e', forL T m ds e = .nx e' ∧ P [] e'
  | [], e, h => ⟨e, rfl, h⟩
  | d :: r, e, h => by
    obtain ⟨e1, e2, h1, h2, h3⟩ := hs d r e h
    obtain ⟨e', h4, h5⟩ := forL_inv P hs r e2 h3
    refine ⟨e', ?_, h5⟩
    unfold forL
    rw [h1]
    rcases h2 with h2 | h2 <;> simp only [h2, h4]
theorem whileN_inv {t : En → R Bool} {m : En → Rs} (P : Nat → En → Prop) (Q : En → Prop) (h0 : ∀ e, P 0 e → ∃ e1, t e = .ok false e1 ∧ Q e1)
    (hs : ∀ k e, P (k + 1) e → ∃ e1 e2, t e = .ok true e1 ∧ (m e1 = .nx e2 ∨ m e1 = .ct e2) ∧ P k e2) : ∀ (k n : Nat) (e : En), P k e → k < n → ∃ e', whileN n t m e = .nx e' ∧ Q e'
  | 0, 0, e, h, hn => absurd hn (Nat.lt_irrefl _)
  | k + 1, 0, e, h, hn => absurd hn (Nat.not_lt_zero _)
  | 0, n + 1, e, h, hn => by
    obtain ⟨e1, h1, h2⟩ := h0 e h
    refine ⟨e1, ?_, h2⟩
    unfold whileN
    rw [h1]
    rfl
  | k + 1, n + 1, e, h, hn => by
    obtain ⟨e1, e2, h1, h2, h3⟩ := hs k e h
    obtain ⟨e', h4, h5⟩ := whileN_inv P Q h0 hs k n e2 h3 (Nat.lt_of_succ_lt_succ hn)
    refine ⟨e', ?_, h5⟩
    unfold whileN
    rw [h1]
    simp only [R.bs, if_true]
    rcases h2 with h2 | h2 <;> simp only [h2, h4]
/-! ### lists of ints -/
def iD (l : List Int) : List D := l.map D.int
theorem intsD_map : ∀ l : List Int, intsD (l.map D.int) = some l
  | [] => rfl
  | x :: r => by
    show (intsD (r.map D.int)).map (x :: ·) = _
    rw [intsD_map r]
    rfl
theorem blsD_map : ∀ l : List Bool, blsD (l.map D.bl) = some l
  | [] => rfl
  | x :: r => by
    show (blsD (r.map D.bl)).map (x :: ·) = _
    rw [blsD_map r]
    rfl
end PV
namespace PV
open PySem PySem.Spec L2
/-! ### == of data of one kind -/
structure Enc (α : Type) [DecidableEq α] where
  c : α → D
  q : α → PyData
  hq : ∀ a, toP (c a) = some (q a)
  lay : ∀ a, (q a).canLay0 = true
  n : Nat
  dep : ∀ a, (q a).depth ≤ n
  eqv : ∀ a b, PyData.eqv (q a) (q b) = decide (a = b)
theorem Enc.eq {α : Type} [DecidableEq α] (E : Enc α) (h : E.n ≤ 64) (a b : α) : eqD (E.c a) (E.c b) = some (decide (a = b)) := by
  unfold eqD
  rw [E.hq a, E.hq b]
  have s : ∀ x, SeqAt.shaped (E.q x) = true := fun x => by
    unfold SeqAt.shaped
    rw [E.lay x, decide_eq_true (Nat.le_trans (E.dep x) h)]
    rfl
  simp only [s a, s b, E.eqv, and_self, if_true]
def Enc.int : Enc Int := ⟨.int, .int, fun _ => rfl, fun _ => (by unfold PyData.canLay0; rfl), 0, fun _ => (by unfold PyData.depth; exact Nat.le_refl _), fun a b => (by unfold PyData.eqv; rfl)⟩
def Enc.nat : Enc Nat := ⟨fun i => .int i, fun i => .int i, fun _ => rfl, fun _ => (by unfold PyData.canLay0; rfl), 0, fun _ => (by unfold PyData.depth; exact Nat.le_refl _), fun a b => (by
  unfold PyData.eqv
  show ((a : Int) == (b : Int)) = _
  by_cases h : a = b
  · subst h
    simp
  · rw [decide_eq_false h]
    exact beq_eq_false_iff_ne.mpr fun z => h (by omega))⟩
def Enc.bl : Enc Bool := ⟨.bl, .bool, fun _ => rfl, fun _ => (by unfold PyData.canLay0; rfl), 0, fun _ => (by unfold PyData.depth; exact Nat.le_refl _), fun a b => (by unfold PyData.eqv; rfl)⟩
section
variable {α : Type} [DecidableEq α]
theorem Enc.all (E : Enc α) : ∀ l : List α, toPs (l.map E.c) = some (l.map E.q)
  | [] => rfl
  | a :: r => by
    show (match toP (E.c a), toPs (r.map E.c) with | some p, some ps => some (p :: ps) | _, _ => none) = _
    rw [E.hq a, E.all r]
    rfl
theorem Enc.layAll (E : Enc α) : ∀ l : List α, PyData.canLayAll0 (l.map E.q) = true
  | [] => by
    rw [List.map_nil]
    unfold PyData.canLayAll0
    rfl
  | a :: r => by
    rw [List.map_cons]
    unfold PyData.canLayAll0
    rw [E.lay a, E.layAll r]
    rfl
theorem Enc.depAll (E : Enc α) : ∀ l : List α, PyData.depthAll (l.map E.q) ≤ E.n
  | [] => by
    rw [List.map_nil]
    unfold PyData.depthAll
    exact Nat.zero_le _
  | a :: r => by
    rw [List.map_cons]
    unfold PyData.depthAll
    exact Nat.max_le.mpr ⟨E.dep a, E.depAll r⟩
theorem Enc.eqvAll (E : Enc α) : ∀ a b : List α, PyData.eqvAll (a.map E.q) (b.map E.q) = decide (a = b)
  | [], [] => by
    rw [List.map_nil]
    unfold PyData.eqvAll
    rfl
  | [], _ :: _ => by
    rw [List.map_nil, List.map_cons]
    unfold PyData.eqvAll
    rfl
  | _ :: _, [] => by
    rw [List.map_nil, List.map_cons]
    unfold PyData.eqvAll
    rfl
  | x :: r, y :: s => by
    rw [List.map_cons, List.map_cons]
    unfold PyData.eqvAll
    rw [E.eqv x y, E.eqvAll r s]
    by_cases h : x = y
    · by_cases h2 : r = s
      · simp [h, h2]
      · simp [h, h2]
    · simp [h]
def Enc.tup (E : Enc α) : Enc (List α) := ⟨fun l => .tup (l.map E.c), fun l => .tuple (l.map E.q), fun l => (by unfold toP; rw [E.all l]; rfl), fun l => (by unfold PyData.canLay0; exact E.layAll l), E.n + 1,
  fun l => (by unfold PyData.depth; exact Nat.succ_le_succ (E.depAll l)), fun a b => (by unfold PyData.eqv; exact E.eqvAll a b)⟩
def Enc.lst (E : Enc α) : Enc (List α) := ⟨fun l => .lst (l.map E.c), fun l => .list (l.map E.q), fun l => (by unfold toP; rw [E.all l]; rfl), fun l => (by unfold PyData.canLay0; exact E.layAll l), E.n + 1,
  fun l => (by unfold PyData.depth; exact Nat.succ_le_succ (E.depAll l)), fun a b => (by unfold PyData.eqv; exact E.eqvAll a b)⟩
end
theorem eqD_int (a b : Int) : eqD (.int a) (.int b) = some (decide (a = b)) := Enc.int.eq (by decide) a b
theorem eqD_tn (a b : List Nat) : eqD (.tup (a.map fun (i : Nat) => D.int i)) (.tup (b.map fun (i : Nat) => D.int i)) = some (decide (a = b)) := Enc.nat.tup.eq (by decide) a b
theorem eqD_ti (a b : List Int) : eqD (.tup (a.map D.int)) (.tup (b.map D.int)) = some (decide (a = b)) := Enc.int.tup.eq (by decide) a b
theorem eqD_li (a b : List Int) : eqD (.lst (a.map D.int)) (.lst (b.map D.int)) = some (decide (a = b)) := Enc.int.lst.eq (by decide) a b
end PV
namespace PV
open PySem PySem.Spec L2
theorem eqD_li0 (a : List Int) : eqD (.lst (a.map D.int)) (.lst []) = some (decide (a = [])) := eqD_li a []
theorem eqD_l00 : eqD (.lst []) (.lst []) = some true := eqD_li [] []
theorem eqD_tn0 (a : List Nat) : eqD (.tup (a.map fun (i : Nat) => D.int i)) (.tup []) = some (decide (a = [])) := eqD_tn a []
end PV
namespace PV
open PySem PySem.Spec L2
theorem iRange1_nat {n : Nat} (h : n ≤ 1000000) : iRange1 [.int (n : Int)] = some ((List.range n).map fun (i : Nat) => D.int i) := by
  show (if -1000000 ≤ (n : Int) ∧ (n : Int) ≤ 1000000 then some ((List.range (n : Int).toNat).map fun (k : Nat) => D.int k) else none) = _
  rw [if_pos (by omega), Int.toNat_natCast]
theorem oRng_nat {n : Nat} (k : List D → D) (h : n ≤ 1000000) : oRngL k [.int (n : Int)] = some (k ((List.range n).map fun (i : Nat) => D.int i)) := by
  unfold oRngL
  rw [iRange1_nat h]
  rfl
end PV
namespace PV
open PySem PySem.Spec L2
theorem oMod_ok (x : Int) {j : Int} (h : j ≠ 0) : oMod [.int x, .int j] = some (.int (x.fmod j)) := by
  simp only [oMod, o2I, cMod, decide_eq_true h, if_true]
theorem oMul_ok {x j : Int} (h : cMul x j = true) : oMul [.int x, .int j] = some (.int (x * j)) := by
  simp only [oMul, h, if_true]
theorem oPow_ok {x j : Int} (h : cPow x j = true) : oPow [.int x, .int j] = some (.int (x ^ j.toNat)) := by
  simp only [oPow, o2I, h, if_true]
theorem oFdiv_ok (x : Int) {j : Int} (h : cFdiv x j = true) : oFdiv [.int x, .int j] = some (.int (x / j)) := by
  simp only [oFdiv, o2I, h, if_true]
end PV

/-! what the plain laws of errors use: what a call comes to, held against what is due, by the kernel -/
namespace PV
/-- what a caught call comes to -/
def metR (hs : List Hd) (dd : D) : Rf → Option D
  | .ok _ => some dd
  | .er x => pick hs x
  | .no => none
def metE (hs : List Hd) (dd : D) (f : List D → Rf) : R (List D) → R D
  | .ok ds e => (match metR hs dd (f ds) with
    | some r => .ok r e
    | none => .no)
  | .er x e => (match pick hs x with
    | some r => .ok r e
    | none => .no)
  | .no => .no
theorem mMet_call (hs : List Hd) (dd : D) (f : List D → Rf) (ms : List (En → R D)) (env : En) : mMet hs dd (mCall f ms) env = metE hs dd f (evS ms env) := by
  unfold mMet mCall
  cases evS ms env with
  | ok ds e =>
    show (match (match f ds with | .ok d => R.ok d e | .er x => .er x e | .no => .no : R D) with | .ok _ e => R.ok dd e | .er x e => (match pick hs x with | some d => R.ok d e | none => .no) | .no => .no) = metE hs dd f (.ok ds e)
    simp only [metE, metR]
    cases f ds <;> rfl
  | er x e => rfl
  | no => rfl
theorem metE_ok {hs : List Hd} {dd : D} {f : List D → Rf} {ds : List D} {e : En} {r : D} (h : metR hs dd (f ds) = some r) : metE hs dd f (.ok ds e) = .ok r e := by
  unfold metE
  simp only [h]
mutual
def same : D → D → Bool
  | .non, .non => true
  | .bl a, .bl b => a == b
  | .int a, .int b => a == b
  | .str a, .str b => a == b
  | .tup a, .tup b => sames a b
  | .lst a, .lst b => sames a b
  | _, _ => false
def sames : List D → List D → Bool
  | [], [] => true
  | a :: r, b :: t => same a b && sames r t
  | _, _ => false
end
mutual
theorem same_eq : ∀ {a b : D}, same a b = true → a = b
  | .non, b, h => by cases b <;> first | rfl | (unfold same at h; cases h)
  | .bl x, b, h => by
    cases b <;> first | (unfold same at h; rw [eq_of_beq h]) | (unfold same at h; cases h)
  | .int x, b, h => by
    cases b <;> first | (unfold same at h; rw [eq_of_beq h]) | (unfold same at h; cases h)
  | .str x, b, h => by
    cases b <;> first | (unfold same at h; rw [eq_of_beq h]) | (unfold same at h; cases h)
  | .tup x, b, h => by
    cases b <;> first | (unfold same at h; rw [sames_eq h]) | (unfold same at h; cases h)
  | .lst x, b, h => by
    cases b <;> first | (unfold same at h; rw [sames_eq h]) | (unfold same at h; cases h)
  | .ro x, b, h => by cases b <;> (unfold same at h; cases h)
  | .dik x, b, h => by cases b <;> (unfold same at h; cases h)
  | .dit x, b, h => by cases b <;> (unfold same at h; cases h)
  | .ins _ x, b, h => by cases b <;> (unfold same at h; cases h)
  | .fn x, b, h => by cases b <;> (unfold same at h; cases h)
theorem sames_eq : ∀ {a b : List D}, sames a b = true → a = b
  | [], [], _ => rfl
  | [], _ :: _, h => by unfold sames at h; cases h
  | _ :: _, [], h => by unfold sames at h; cases h
  | a :: r, b :: t, h => by
    unfold sames at h
    rw [Bool.and_eq_true] at h
    rw [same_eq h.1, sames_eq h.2]
end
def sameO (o : Option D) (d : D) : Bool := match o with
  | some a => same a d
  | none => false
theorem sameO_eq {o : Option D} {d : D} (h : sameO o d = true) : o = some d := by
  cases o with
  | none => cases h
  | some a => rw [same_eq h]
theorem all1 {l : List D} {F : D → Option D} {G : D → D} (h : (l.all fun v => sameO (F v) (G v)) = true) : ∀ v ∈ l, F v = some (G v) := fun v hv => sameO_eq (List.all_eq_true.mp h v hv)
theorem all2 {l m : List D} {F : D → D → Option D} {G : D → D → D} (h : (l.all fun v => m.all fun u => sameO (F v u) (G v u)) = true) : ∀ v ∈ l, ∀ u ∈ m, F v u = some (G v u) := fun v hv u hu => sameO_eq (List.all_eq_true.mp (List.all_eq_true.mp h v hv) u hu)
theorem all3 {l m k : List D} {F : D → D → D → Option D} {G : D → D → D → D} (h : (l.all fun v => m.all fun u => k.all fun w => sameO (F v u w) (G v u w)) = true) : ∀ v ∈ l, ∀ u ∈ m, ∀ w ∈ k, F v u w = some (G v u w) := fun v hv u hu w hw => sameO_eq (List.all_eq_true.mp (List.all_eq_true.mp (List.all_eq_true.mp h v hv) u hu) w hw)
/-- a plain call -/
def okV (o : Rf) : Option D := match o with
  | .ok d => some d
  | _ => none
theorem okV_eq {o : Rf} {d : D} (h : okV o = some d) : o = .ok d := by
  cases o <;> first | (cases h; rfl) | cases h
/-- the text of a value -/
def rep (d : D) : PySem.Str := match oRepr [d] with
  | some (.str z) => z
  | _ => ""
theorem rep_ok {l : List D} (h : (l.all fun v => sameO (oRepr [v]) (.str (rep v))) = true) : ∀ v ∈ l, oRepr [v] = some (.str (rep v)) := all1 h
/-- a body that ends in True -/
def isT (r : Rs) : Bool := match r with
  | .rt (.bl true) _ => true
  | _ => false
theorem isT_eq {r : Rs} (h : isT r = true) : ∃ e, r = .rt (.bl true) e := by
  cases r with
  | rt d e =>
    cases d with
    | bl b =>
      cases b with
      | true => exact ⟨e, rfl⟩
      | false => cases h
    | _ => cases h
  | _ => cases h
end PV

/-! dice, rolls and picks, the same in each law -/
namespace ERB
open PySem L2 PV
/-- slots: 0 script 1 spot 2 cell 3 great -/
def m__law_dice : En → Rs :=
  sSeq (sSet 2 (mIf (mT (mOp oLt [.s 1, .m (mOp oLen [.s 0])])) (mOp oInt [.m (mOp oIxx [.s 0, .s 1])]) (mOp oAdd [.m (mOp oMul [.m (mK (.int 127)), .s 1]), .m (mK (.int 71))]))) <|
  sSeq (sSet 3 (mOp oMod [.m (mOp oMax2 [.m (mK (.int 0)), .m (mOp oSub [.m (mOp oAbs [.s 2]), .m (mOp oPow [.m (mK (.int 10)), .m (mK (.int 16))])])]), .m (mOp oMul [.m (mOp oPow [.m (mK (.int 10)), .m (mK (.int 57))]), .m (mOp oPow [.m (mK (.int 10)), .m (mK (.int 60))])])])) <|
  sRt (mLst [mV 3, mOp oAdd [.m (mOp oAdd [.m (mOp oAdd [.m (mOp oMul [.m (mOp oMod [.m (mOp oAbs [.s 2]), .m (mK (.int 1152921504606846697))]), .m (mK (.int 109))]), .m (mOp oMul [.m (mK (.int 1031)), .s 1])]), .m (mOp oMul [.m (mK (.int 67)), .m (mOp oInt [.m (mOp oLt [.s 2, .m (mK (.int 0))])])])]), .m (mK (.int 53))], mK (.int 0)])
def f__law_dice : List D → Rf := runF 4 m__law_dice

/-- slots: 0 dice 1 most 2 found 3 one 4 two -/
def m__law_roll : En → Rs :=
  sSeq (sIf (mT (mOp oGt [.m (mOp oIxx [.s 0, .m (mK (.int 0))]), .m (mK (.int 0))])) (sSeq (sSet 2 (mOp oMod [.m (mOp oInt [.m (mOp oIxx [.s 0, .m (mK (.int 0))])]), .s 1])) <|
  sSeq (sSub 0 (mK (.int 0)) (mOp oFdiv [.m (mOp oIxx [.s 0, .m (mK (.int 0))]), .s 1])) <|
  sRt (mV 2)) (sNil)) <|
  sSeq (sSub 0 (mK (.int 2)) (mOp oAdd [.m (mOp oIxx [.s 0, .m (mK (.int 2))]), .m (mK (.int 1))])) <|
  sSeq (sSet 3 (mOp oMod [.m (mOp oInt [.m (mOp oAdd [.m (mOp oIxx [.s 0, .m (mK (.int 1))]), .m (mOp oMul [.m (mK (.int 49979687)), .m (mOp oIxx [.s 0, .m (mK (.int 2))])])])]), .m (mK (.int 2305843009213693487))])) <|
  sSeq (sSet 4 (mOp oAdd [.m (mOp oMul [.m (mOp oMod [.m (mOp oInt [.m (mOp oAdd [.m (mOp oMul [.s 3, .s 3]), .m (mOp oMul [.m (mK (.int 113)), .m (mOp oIxx [.s 0, .m (mK (.int 2))])])])]), .m (mK (.int 2305843009213693669))]), .m (mK (.int 6700417))]), .s 3])) <|
  sRt (mOp oMod [.m (mOp oInt [.m (mOp oFdiv [.s 4, .m (mK (.int 65539))])]), .s 1])
def f__law_roll : D → List D → Rr := runR 4 m__law_roll

/-- slots: 0 dice 1 items -/
def m__law_pick : En → Rs :=
  sRt (mOp oIxx [.s 1, .m (mCallR f__law_roll 0 [mOp oLen [.s 1]])])
def f__law_pick : D → List D → Rr := runR 1 m__law_pick
def GD (n : Nat) (d : D) : Prop := ∃ a b c : Int, d = .lst [.int a, .int b, .int c] ∧ 0 ≤ c ∧ c ≤ n
theorem GD.mono {n m : Nat} {d : D} (h : GD n d) (hm : n ≤ m) : GD m d := by
  obtain ⟨a, b, c, e, h1, h2⟩ := h
  exact ⟨a, b, c, e, h1, by omega⟩
theorem log2_le {x : Int} {k : Nat} (h0 : 0 ≤ x) (h : x < 2 ^ (k + 1)) : x.natAbs.log2 ≤ k := by
  rcases Nat.eq_zero_or_pos x.natAbs with z | z
  · rw [z]
    exact Nat.zero_le _
  · refine Nat.le_of_lt_succ ((Nat.log2_lt (by omega)).mpr ?_)
    have : ((x.natAbs : Nat) : Int) = x := by omega
    exact Int.ofNat_lt.mp (by rw [this]; push_cast; exact h)
theorem roll_ok {n : Nat} {d : D} {m : Int} (hd : GD n d) (hn : n ≤ 1000000) (h0 : 0 < m) (h1 : m ≤ 1000000) : ∃ (k : Int) (d' : D), f__law_roll d [.int m] = .ok (.int k) d' ∧ 0 ≤ k ∧ k < m ∧ GD (n + 1) d' := by
  obtain ⟨a, b, c, rfl, hc0, hc⟩ := hd
  have hm0 : m ≠ 0 := by omega
  have hmod : ∀ x : Int, 0 ≤ x.fmod m ∧ x.fmod m < m := fun x => ⟨Int.fmod_nonneg_of_pos x h0, Int.fmod_lt_of_pos x h0⟩
  have hmlog : m.natAbs.log2 < 9000 := Nat.lt_of_le_of_lt (log2_le (k := 19) (by omega) (by omega)) (by decide)
  by_cases ha : 0 < a
  · refine ⟨a.fmod m, .lst [.int (a / m), .int b, .int c], ?_, (hmod a).1, (hmod a).2, a / m, b, c, rfl, hc0, by omega⟩
    simp [f__law_roll, m__law_roll, runD, runF, runR, runRF, startE, rf0, sSeq, sNil, sPass, sEx, sRt, sRtN, sIf, sSet, sSetO, sPar, sAug, sSub, sAsg, sFz, sFor, mOp, evA, evP, fill, evS, mTup, mLst, mV, mK, mT, mNot, mAnd, mOr, mAndV, mOrV, mNotV, mIf, mChain, mCall, mCallL, mCallR, mIsi, mIt, iAny, mSl, evO, mGet, mOwn, PV.val, ownV, setV, free, bindT, bindTs, wipeE, backE, R.bind, R.bs, Rs.bind, Oe.ev, Oe.sl, tYs, isLst, List.map_cons, List.map_nil, List.length_cons, List.length_nil, List.replicate, List.cons_append, List.nil_append, List.append_nil, List.getElem?_cons_zero, List.getElem?_cons_succ, List.getElem?_nil, List.set_cons_zero, List.set_cons_succ, Option.some.injEq, if_true, if_false, Bool.false_eq_true, Nat.sub_self, Nat.reduceSub, Nat.reduceAdd, Nat.reduceLT, reduceCtorEq, ite_true, ite_false, Bool.not_true, Bool.not_false, Option.bind_some, Option.map_some, ne_eq, not_false_eq_true, and_self, and_true, true_and, Nat.succ_ne_self, List.contains_cons, List.contains_nil, String.reduceBEq, Bool.or_true, Bool.true_or, Bool.or_false, Bool.false_or, Bool.and_true, Bool.and_false, Bool.false_and, Bool.true_and, beq_self_eq_true, subN, tyN, Nat.reduceEqDiff, oIxx, oIx, atD, seqD, L2.atI, ixN, kSub, kSetIx, oInt, o2I, cMod, cFdiv, ha, hm0, h0, hmlog]
  · have c1 : cMul 49979687 (c + 1) = true := by
      unfold cMul
      refine decide_eq_true ?_
      have := log2_le (x := c + 1) (k := 19) (by omega) (by omega)
      have e : (49979687 : Int).natAbs.log2 = 25 := by decide +kernel
      omega
    have c2 : cMul 113 (c + 1) = true := by
      unfold cMul
      refine decide_eq_true ?_
      have := log2_le (x := c + 1) (k := 19) (by omega) (by omega)
      have e : (113 : Int).natAbs.log2 = 6 := by decide +kernel
      omega
    generalize hone : (b + 49979687 * (c + 1)).fmod 2305843009213693487 = one
    have hone1 : 0 ≤ one ∧ one < 2305843009213693487 := by
      rw [← hone]
      exact ⟨Int.fmod_nonneg_of_pos _ (by decide), Int.fmod_lt_of_pos _ (by decide)⟩
    have c3 : cMul one one = true := by
      unfold cMul
      refine decide_eq_true ?_
      have := log2_le (x := one) (k := 61) hone1.1 (by omega)
      omega
    generalize htw : (one * one + 113 * (c + 1)).fmod 2305843009213693669 = tw
    have htw1 : 0 ≤ tw ∧ tw < 2305843009213693669 := by
      rw [← htw]
      exact ⟨Int.fmod_nonneg_of_pos _ (by decide), Int.fmod_lt_of_pos _ (by decide)⟩
    have c4 : cMul tw 6700417 = true := by
      unfold cMul
      refine decide_eq_true ?_
      have := log2_le (x := tw) (k := 61) htw1.1 (by omega)
      have e : (6700417 : Int).natAbs.log2 = 22 := by decide +kernel
      omega
    have c5 : Nat.log2 65539 < 9000 := by decide +kernel
    refine ⟨((tw * 6700417 + one) / 65539).fmod m, .lst [.int a, .int b, .int (c + 1)], ?_, (hmod _).1, (hmod _).2, a, b, c + 1, rfl, by omega, by omega⟩
    simp [f__law_roll, m__law_roll, runD, runF, runR, runRF, startE, rf0, sSeq, sNil, sPass, sEx, sRt, sRtN, sIf, sSet, sSetO, sPar, sAug, sSub, sAsg, sFz, sFor, mOp, evA, evP, fill, evS, mTup, mLst, mV, mK, mT, mNot, mAnd, mOr, mAndV, mOrV, mNotV, mIf, mChain, mCall, mCallL, mCallR, mIsi, mIt, iAny, mSl, evO, mGet, mOwn, PV.val, ownV, setV, free, bindT, bindTs, wipeE, backE, R.bind, R.bs, Rs.bind, Oe.ev, Oe.sl, tYs, isLst, List.map_cons, List.map_nil, List.length_cons, List.length_nil, List.replicate, List.cons_append, List.nil_append, List.append_nil, List.getElem?_cons_zero, List.getElem?_cons_succ, List.getElem?_nil, List.set_cons_zero, List.set_cons_succ, Option.some.injEq, if_true, if_false, Bool.false_eq_true, Nat.sub_self, Nat.reduceSub, Nat.reduceAdd, Nat.reduceLT, reduceCtorEq, ite_true, ite_false, Bool.not_true, Bool.not_false, Option.bind_some, Option.map_some, ne_eq, not_false_eq_true, and_self, and_true, true_and, Nat.succ_ne_self, List.contains_cons, List.contains_nil, String.reduceBEq, Bool.or_true, Bool.true_or, Bool.or_false, Bool.false_or, Bool.and_true, Bool.and_false, Bool.false_and, Bool.true_and, beq_self_eq_true, subN, tyN, Nat.reduceEqDiff, oIxx, oIx, atD, seqD, L2.atI, ixN, kSub, kSetIx, oInt, o2I, cMod, cFdiv, ha, hm0, h0, oAdd, oMul, c1, c2, c3, c4, c5, hone, htw]
theorem cMul_small {a b : Int} (ha : a.natAbs < 2 ^ 400000) (hb : b.natAbs < 2 ^ 400000) : cMul a b = true := by
  unfold cMul
  refine decide_eq_true ?_
  have f : ∀ x : Int, x.natAbs < 2 ^ 400000 → x.natAbs.log2 < 400000 := fun x hx => by
    rcases Nat.eq_zero_or_pos x.natAbs with z | z
    · rw [z]
      decide
    · exact (Nat.log2_lt (by omega)).mpr hx
  have h1 := f a ha
  have h2 := f b hb
  omega
theorem small_pow {x : Int} (h : x.natAbs ≤ 2 ^ 64) : x.natAbs < 2 ^ 400000 := Nat.lt_of_le_of_lt h (Nat.pow_lt_pow_right (by decide) (by decide))
theorem dice_ok {ns : List Int} {spot : Nat} (hs : spot ≤ 100) : ∃ d, f__law_dice [.ro (ns.map D.int), .int spot] = .ok d ∧ GD 0 d := by
  have hlen : oLen [.ro (ns.map D.int)] = some (.int (ns.length : Nat)) := by
    show some (D.int (((ns.map D.int).length : Nat) : Int)) = _
    rw [List.length_map]
  have m1 : oMul [.int 127, .int (spot : Int)] = some (.int (127 * spot)) := by
    show (if cMul 127 spot = true then _ else _) = _
    rw [if_pos (cMul_small (small_pow (by decide)) (small_pow (by omega)))]
  have m2 : oMul [.int 1031, .int (spot : Int)] = some (.int (1031 * spot)) := by
    show (if cMul 1031 spot = true then _ else _) = _
    rw [if_pos (cMul_small (small_pow (by decide)) (small_pow (by omega)))]
  have cellx : ∃ cell : Int, (mIf (mT (mOp oLt [.s 1, .m (mOp oLen [.s 0])])) (mOp oInt [.m (mOp oIxx [.s 0, .s 1])]) (mOp oAdd [.m (mOp oMul [.m (mK (.int 127)), .s 1]), .m (mK (.int 71))])) [.fz (.ro (ns.map D.int)), .fz (.int spot), .no, .no] = .ok (.int cell) [.fz (.ro (ns.map D.int)), .fz (.int spot), .no, .no] := by
    by_cases h : spot < ns.length
    · have h' : (spot : Int) < (ns.length : Int) := by omega
      refine ⟨ns[spot], ?_⟩
      have hix : oIxx [.ro (ns.map D.int), .int (spot : Nat)] = some (.int ns[spot]) := by
        show L2.atI (ns.map D.int) (spot : Int) = _
        refine atI_nat ?_
        rw [List.getElem?_map, List.getElem?_eq_getElem h]
        rfl
      simp only [runD, runF, runR, runRF, startE, rf0, sSeq, sNil, sPass, sEx, sRt, sRtN, sIf, sSet, sSetO, sPar, sAug, sSub, sAsg, sFz, sFor, mOp, evA, evP, fill, evS, mTup, mLst, mV, mK, mT, mNot, mAnd, mOr, mAndV, mOrV, mNotV, mIf, mChain, mCall, mCallL, mCallR, mIsi, mIt, iAny, mSl, evO, mGet, mOwn, PV.val, ownV, setV, free, bindT, bindTs, wipeE, backE, R.bind, R.bs, Rs.bind, Oe.ev, Oe.sl, tYs, isLst, List.map_cons, List.map_nil, List.length_cons, List.length_nil, List.replicate, List.cons_append, List.nil_append, List.append_nil, List.getElem?_cons_zero, List.getElem?_cons_succ, List.getElem?_nil, List.set_cons_zero, List.set_cons_succ, Option.some.injEq, if_true, if_false, Bool.false_eq_true, Nat.sub_self, Nat.reduceSub, Nat.reduceAdd, Nat.reduceLT, reduceCtorEq, ite_true, ite_false, Bool.not_true, Bool.not_false, Option.bind_some, Option.map_some, ne_eq, not_false_eq_true, and_self, and_true, true_and, Nat.succ_ne_self, List.contains_cons, List.contains_nil, String.reduceBEq, Bool.or_true, Bool.true_or, Bool.or_false, Bool.false_or, Bool.and_true, Bool.and_false, Bool.false_and, Bool.true_and, beq_self_eq_true, subN, tyN, Nat.reduceEqDiff, hlen, o2I, h', decide_true, hix, oInt]
    · have h' : ¬ (spot : Int) < (ns.length : Int) := by omega
      refine ⟨127 * spot + 71, ?_⟩
      simp only [runD, runF, runR, runRF, startE, rf0, sSeq, sNil, sPass, sEx, sRt, sRtN, sIf, sSet, sSetO, sPar, sAug, sSub, sAsg, sFz, sFor, mOp, evA, evP, fill, evS, mTup, mLst, mV, mK, mT, mNot, mAnd, mOr, mAndV, mOrV, mNotV, mIf, mChain, mCall, mCallL, mCallR, mIsi, mIt, iAny, mSl, evO, mGet, mOwn, PV.val, ownV, setV, free, bindT, bindTs, wipeE, backE, R.bind, R.bs, Rs.bind, Oe.ev, Oe.sl, tYs, isLst, List.map_cons, List.map_nil, List.length_cons, List.length_nil, List.replicate, List.cons_append, List.nil_append, List.append_nil, List.getElem?_cons_zero, List.getElem?_cons_succ, List.getElem?_nil, List.set_cons_zero, List.set_cons_succ, Option.some.injEq, if_true, if_false, Bool.false_eq_true, Nat.sub_self, Nat.reduceSub, Nat.reduceAdd, Nat.reduceLT, reduceCtorEq, ite_true, ite_false, Bool.not_true, Bool.not_false, Option.bind_some, Option.map_some, ne_eq, not_false_eq_true, and_self, and_true, true_and, Nat.succ_ne_self, List.contains_cons, List.contains_nil, String.reduceBEq, Bool.or_true, Bool.true_or, Bool.or_false, Bool.false_or, Bool.and_true, Bool.and_false, Bool.false_and, Bool.true_and, beq_self_eq_true, subN, tyN, Nat.reduceEqDiff, hlen, o2I, h', decide_false, m1, oAdd]
  obtain ⟨cell, hcell⟩ := cellx
  have p1 : oPow [.int 10, .int 16] = some (.int (10 ^ 16)) := by
    show (if cPow 10 16 = true then some (D.int (10 ^ (16 : Int).toNat)) else none) = _
    rw [if_pos (by decide +kernel)]
    rfl
  have p2 : oPow [.int 10, .int 57] = some (.int (10 ^ 57)) := by
    show (if cPow 10 57 = true then some (D.int (10 ^ (57 : Int).toNat)) else none) = _
    rw [if_pos (by decide +kernel)]
    rfl
  have p3 : oPow [.int 10, .int 60] = some (.int (10 ^ 60)) := by
    show (if cPow 10 60 = true then some (D.int (10 ^ (60 : Int).toNat)) else none) = _
    rw [if_pos (by decide +kernel)]
    rfl
  have p4 : oMul [.int (10 ^ 57), .int (10 ^ 60)] = some (.int (10 ^ 117)) := by
    show (if cMul (10 ^ 57) (10 ^ 60) = true then some (D.int (10 ^ 57 * 10 ^ 60)) else none) = _
    rw [if_pos (by decide +kernel)]
    have e : (10 ^ 57 * 10 ^ 60 : Int) = 10 ^ 117 := by decide +kernel
    rw [e]
  have q1 : ∀ x : Int, oMod [.int x, .int (10 ^ 117)] = some (.int (x.fmod (10 ^ 117))) := fun x => by
    exact oMod_ok x (by decide +kernel)
  have q2 : ∀ x : Int, oMod [.int x, .int 1152921504606846697] = some (.int (x.fmod 1152921504606846697)) := fun x => by
    exact oMod_ok x (by decide)
  have q3 : ∀ x : Int, oMul [.int (x.fmod 1152921504606846697), .int 109] = some (.int (x.fmod 1152921504606846697 * 109)) := fun x => by
    have h1 := Int.fmod_nonneg_of_pos x (show (0 : Int) < 1152921504606846697 by decide)
    have h2 := Int.fmod_lt_of_pos x (show (0 : Int) < 1152921504606846697 by decide)
    show (if cMul (x.fmod 1152921504606846697) 109 = true then _ else _) = _
    rw [if_pos (cMul_small (small_pow (by omega)) (small_pow (by decide)))]
  have q4 : ∀ b : Bool, oMul [.int 67, .int (if b = true then 1 else 0)] = some (.int (67 * (if b = true then 1 else 0))) := fun b => by
    cases b <;> rfl
  refine ⟨.lst [.int (((if (if cell < 0 then -cell else cell) - 10 ^ 16 > 0 then (if cell < 0 then -cell else cell) - 10 ^ 16 else 0) : Int).fmod (10 ^ 117)), .int (((if cell < 0 then -cell else cell) : Int).fmod 1152921504606846697 * 109 + 1031 * spot + 67 * (if decide (cell < 0) = true then 1 else 0) + 53), .int 0], ?_, _, _, 0, rfl, Int.le_refl _, Int.le_refl _⟩
  generalize (10 : Int) ^ 117 = big at *
  generalize (10 : Int) ^ 57 = b57 at *
  generalize (10 : Int) ^ 60 = b60 at *
  generalize (10 : Int) ^ 16 = b16 at *
  generalize hm : (mIf (mT (mOp oLt [.s 1, .m (mOp oLen [.s 0])])) (mOp oInt [.m (mOp oIxx [.s 0, .s 1])]) (mOp oAdd [.m (mOp oMul [.m (mK (.int 127)), .s 1]), .m (mK (.int 71))])) = cellm at hcell
  simp only [f__law_dice, m__law_dice, hm]
  simp only [runD, runF, runR, runRF, startE, rf0, sSeq, sNil, sPass, sEx, sRt, sRtN, sIf, sSet, sSetO, sPar, sAug, sSub, sAsg, sFz, sFor, mOp, evA, evP, fill, evS, mTup, mLst, mV, mK, mT, mNot, mAnd, mOr, mAndV, mOrV, mNotV, mIf, mChain, mCall, mCallL, mCallR, mIsi, mIt, iAny, mSl, evO, mGet, mOwn, PV.val, ownV, setV, free, bindT, bindTs, wipeE, backE, R.bind, R.bs, Rs.bind, Oe.ev, Oe.sl, tYs, isLst, List.map_cons, List.map_nil, List.length_cons, List.length_nil, List.replicate, List.cons_append, List.nil_append, List.append_nil, List.getElem?_cons_zero, List.getElem?_cons_succ, List.getElem?_nil, List.set_cons_zero, List.set_cons_succ, Option.some.injEq, if_true, if_false, Bool.false_eq_true, Nat.sub_self, Nat.reduceSub, Nat.reduceAdd, Nat.reduceLT, reduceCtorEq, ite_true, ite_false, Bool.not_true, Bool.not_false, Option.bind_some, Option.map_some, ne_eq, not_false_eq_true, and_self, and_true, true_and, Nat.succ_ne_self, List.contains_cons, List.contains_nil, String.reduceBEq, Bool.or_true, Bool.true_or, Bool.or_false, Bool.false_or, Bool.and_true, Bool.and_false, Bool.false_and, Bool.true_and, beq_self_eq_true, subN, tyN, Nat.reduceEqDiff, hcell, oAbs, oSub, o1I, o2I, p1, oMax2, p2, p3, p4, q1, q2, q3, m2, oInt, q4, oAdd]

theorem oIxx_lst {l : List D} {i : Nat} (h : i < l.length) : oIxx [.lst l, .int (i : Nat)] = some l[i] := by
  show L2.atI l (i : Int) = _
  exact atI_nat (List.getElem?_eq_getElem h)
theorem pick_mem {n : Nat} {d : D} {l : List D} (hd : GD n d) (hn : n ≤ 1000000) (h0 : 0 < l.length) (h1 : l.length ≤ 1000000) : ∃ (x : D) (d' : D), x ∈ l ∧ f__law_pick d [.lst l] = .ok x d' ∧ GD (n + 1) d' := by
  obtain ⟨k, d1, e, k0, k1, g⟩ := roll_ok hd hn (m := (l.length : Nat)) (by omega) (by omega)
  obtain ⟨j, rfl⟩ : ∃ j : Nat, k = (j : Int) := ⟨k.toNat, by omega⟩
  have hj : j < l.length := by omega
  refine ⟨l[j], d1, List.getElem_mem hj, ?_, g⟩
  have hl : oLen [.lst l] = some (.int (l.length : Nat)) := rfl
  have hi := oIxx_lst hj
  simp only [f__law_pick, m__law_pick, runD, runF, runR, runRF, startE, rf0, sSeq, sNil, sPass, sEx, sRt, sRtN, sIf, sSet, sSetO, sPar, sAug, sSub, sAsg, sFz, sFor, mOp, evA, evP, fill, evS, mTup, mLst, mV, mK, mT, mNot, mAnd, mOr, mAndV, mOrV, mNotV, mIf, mChain, mCall, mCallL, mCallR, mIsi, mIt, iAny, mSl, evO, mGet, mOwn, PV.val, ownV, setV, free, bindT, bindTs, wipeE, backE, R.bind, R.bs, Rs.bind, Oe.ev, Oe.sl, tYs, isLst, List.map_cons, List.map_nil, List.length_cons, List.length_nil, List.replicate, List.cons_append, List.nil_append, List.append_nil, List.getElem?_cons_zero, List.getElem?_cons_succ, List.getElem?_nil, List.set_cons_zero, List.set_cons_succ, Option.some.injEq, if_true, if_false, Bool.false_eq_true, Nat.sub_self, Nat.reduceSub, Nat.reduceAdd, Nat.reduceLT, reduceCtorEq, ite_true, ite_false, Bool.not_true, Bool.not_false, Option.bind_some, Option.map_some, ne_eq, not_false_eq_true, and_self, and_true, true_and, Nat.succ_ne_self, List.contains_cons, List.contains_nil, String.reduceBEq, Bool.or_true, Bool.true_or, Bool.or_false, Bool.false_or, Bool.and_true, Bool.and_false, Bool.false_and, Bool.true_and, beq_self_eq_true, subN, tyN, Nat.reduceEqDiff, hl, e, hi]
end ERB

/-! what is told is what is due -/
namespace PV
open PySem
mutual
theorem eqv_self : ∀ {d : D} {p : PyData}, toP d = some p → PyData.eqv p p = true
  | .non, _, h => by unfold toP at h; cases h; rfl
  | .bl b, _, h => by unfold toP at h; cases h; exact beq_self_eq_true b
  | .int i, _, h => by unfold toP at h; cases h; exact beq_self_eq_true i
  | .str z, _, h => by unfold toP at h; cases h; exact beq_self_eq_true z
  | .tup xs, _, h => by
    unfold toP at h
    cases q : toPs xs with
    | none =>
      rw [q] at h
      cases h
    | some ps =>
      rw [q] at h
      cases h
      unfold PyData.eqv
      exact eqvAll_self q
  | .lst xs, _, h => by
    unfold toP at h
    cases q : toPs xs with
    | none =>
      rw [q] at h
      cases h
    | some ps =>
      rw [q] at h
      cases h
      unfold PyData.eqv
      exact eqvAll_self q
  | .ro x, _, h => by unfold toP at h; cases h
  | .dik x, _, h => by unfold toP at h; cases h
  | .dit x, _, h => by unfold toP at h; cases h
  | .ins _ x, _, h => by unfold toP at h; cases h
  | .fn x, _, h => by unfold toP at h; cases h
theorem eqvAll_self : ∀ {d : List D} {p : List PyData}, toPs d = some p → PyData.eqvAll p p = true
  | [], _, h => by unfold toPs at h; cases h; rfl
  | a :: r, _, h => by
    unfold toPs at h
    cases q1 : toP a with
    | none =>
      rw [q1] at h
      cases h
    | some p =>
      cases q2 : toPs r with
      | none =>
        rw [q1, q2] at h
        cases h
      | some ps =>
        rw [q1, q2] at h
        cases h
        unfold PyData.eqvAll
        rw [eqv_self q1, eqvAll_self q2]
        rfl
end
def flatE (d : D) : Bool := match toP d with
  | some p => SeqAt.shaped p
  | none => false
theorem eqD_self {d : D} (h : flatE d = true) : eqD d d = some true := by
  unfold flatE at h
  unfold eqD
  cases q : toP d with
  | none =>
    rw [q] at h
    cases h
  | some p =>
    rw [q] at h
    dsimp only at h ⊢
    rw [if_pos ⟨h, h⟩, eqv_self q]
theorem oEq_self {d : D} (h : flatE d = true) : oEq [d, d] = some (.bl true) := by
  show (eqD d d).map D.bl = _
  rw [eqD_self h]
  rfl
theorem oNe_self {d : D} (h : flatE d = true) : oNe [d, d] = some (.bl false) := by
  show (eqD d d).map (fun b => D.bl !b) = _
  rw [eqD_self h]
  rfl
/-- a body's way, statement by statement -/
def Re (m : En → Rs) (env : En) (r : D) (g : En → Prop) : Prop := ∃ e, m env = .rt r e ∧ g e
theorem re_step {a k : En → Rs} {env env' : En} {r : D} {g : En → Prop} (h : a env = .nx env') (t : Re k env' r g) : Re (sSeq a k) env r g := by
  obtain ⟨e, h1, h2⟩ := t
  refine ⟨e, ?_, h2⟩
  unfold sSeq
  rw [h]
  exact h1
theorem re_end {m : En → Rs} {env e : En} {r : D} {g : En → Prop} (h : m env = .rt r e) (q : g e) : Re m env r g := ⟨e, h, q⟩
theorem runR_end {n : Nat} {m : En → Rs} {d d' r : D} {ds : List D} (h : Re m (.rf d :: startE n ds) r (fun e => rf0 e = some d')) : runR n m d ds = .ok r d' := by
  obtain ⟨e, h1, h2⟩ := h
  unfold runR
  rw [h1]
  simp only [h2]
theorem runD_end {n : Nat} {m : En → Rs} {r : D} {ds : List D} (h : Re m (startE n ds) r (fun _ => True)) : runD n m ds = .ok r := by
  obtain ⟨e, h1, h2⟩ := h
  unfold runD
  rw [h1]
theorem runF_end {n : Nat} {m : En → Rs} {r : D} {ds : List D} (h : Re m (startE n ds) r (fun _ => True)) : runF n m ds = .ok r := by
  obtain ⟨e, h1, h2⟩ := h
  unfold runF
  rw [h1]
theorem metE_eq {hs : List Hd} {dd : D} {f : List D → Rf} {ds : List D} {e : En} : metE hs dd f (.ok ds e) = (match metR hs dd (f ds) with
    | some r => .ok r e
    | none => .no) := rfl
end PV

/-! the law's walk over spots -/
namespace PV
open PySem L2
theorem forS {s : Nat} {body : En → Rs} {P : En → Prop} (h : ∀ i : Nat, i ≤ 100 → ∀ e, P e → ∃ e1 e2, bindT (.n s) (.int (i : Nat)) e = some e1 ∧ body e1 = .nx e2 ∧ P e2) : ∀ (l : List Nat) (e : En), (∀ i ∈ l, i ≤ 100) → P e → ∃ e', forL (.n s) body (l.map fun (i : Nat) => D.int i) e = .nx e' ∧ P e'
  | [], e, _, p => ⟨e, rfl, p⟩
  | i :: r, e, hl, p => by
    obtain ⟨e1, e2, b1, b2, p2⟩ := h i (hl i (List.mem_cons_self ..)) e p
    obtain ⟨e', q, p'⟩ := forS h r e2 (fun j hj => hl j (List.mem_cons_of_mem _ hj)) p2
    refine ⟨e', ?_, p'⟩
    show forL (.n s) body (.int (i : Int) :: _) e = _
    unfold forL
    rw [b1]
    simp only [b2]
    exact q
/-- for spot in range(max(1, min(4, len(script)))) -/
theorem spots_ok {s : Nat} {body : En → Rs} {P : En → Prop} {ns : List Int} {e : En} (h : ∀ i : Nat, i ≤ 100 → ∀ e, P e → ∃ e1 e2, bindT (.n s) (.int (i : Nat)) e = some e1 ∧ body e1 = .nx e2 ∧ P e2) (h0 : e[0]? = some (.fz (.ro (ns.map D.int)))) (p : P e) :
    ∃ e', sFor (mIt iRange1 [mOp oMax2 [.m (mK (.int 1)), .m (mOp oMin2 [.m (mK (.int 4)), .m (mOp oLen [.s 0])])]]) (.n s) body e = .nx e' ∧ P e' := by
  obtain ⟨r, hr, hr3⟩ : ∃ r : Nat, ((if (if (ns.length : Int) < 4 then (ns.length : Int) else 4) > 1 then (if (ns.length : Int) < 4 then (ns.length : Int) else 4) else 1) : Int) = r ∧ r ≤ 4 := by
    by_cases h : (ns.length : Int) < 4
    · simp only [h, if_true]
      by_cases h2 : (ns.length : Int) > 1
      · exact ⟨ns.length, by simp only [h2, if_true], by omega⟩
      · exact ⟨1, by simp only [h2, if_false]; rfl, by decide⟩
    · simp only [h, if_false]
      exact ⟨4, rfl, by decide⟩
  have o1 : oLen [.ro (ns.map D.int)] = some (.int (ns.length : Nat)) := by
    show some (D.int (((ns.map D.int).length : Nat) : Int)) = _
    rw [List.length_map]
  have r1 : iRange1 [.int (r : Int)] = some ((List.range r).map fun (i : Nat) => D.int i) := iRange1_nat (by omega)
  have hm : (mIt iRange1 [mOp oMax2 [.m (mK (.int 1)), .m (mOp oMin2 [.m (mK (.int 4)), .m (mOp oLen [.s 0])])]]) e = .ok ((List.range r).map fun (i : Nat) => D.int i) e := by
    simp only [runD, runF, runR, runRF, startE, rf0, sSeq, sNil, sPass, sEx, sRt, sRtN, sIf, sSet, sSetO, sPar, sAug, sSub, sAsg, sFz, sFor, mOp, evA, evP, fill, evS, mTup, mLst, mV, mK, mT, mNot, mAnd, mOr, mAndV, mOrV, mNotV, mIf, mChain, mCall, mCallL, mCallR, mIsi, mIt, iAny, mSl, evO, mGet, mOwn, PV.val, ownV, setV, free, bindT, bindTs, wipeE, backE, R.bind, R.bs, Rs.bind, Oe.ev, Oe.sl, tYs, isLst, List.map_cons, List.map_nil, List.length_cons, List.length_nil, List.replicate, List.cons_append, List.nil_append, List.append_nil, List.getElem?_cons_zero, List.getElem?_cons_succ, List.getElem?_nil, List.set_cons_zero, List.set_cons_succ, Option.some.injEq, if_true, if_false, Bool.false_eq_true, Nat.sub_self, Nat.reduceSub, Nat.reduceAdd, Nat.reduceLT, reduceCtorEq, ite_true, ite_false, Bool.not_true, Bool.not_false, Option.bind_some, Option.map_some, ne_eq, not_false_eq_true, and_self, and_true, true_and, Nat.succ_ne_self, List.contains_cons, List.contains_nil, String.reduceBEq, Bool.or_true, Bool.true_or, Bool.or_false, Bool.false_or, Bool.and_true, Bool.and_false, Bool.false_and, Bool.true_and, beq_self_eq_true, subN, tyN, Nat.reduceEqDiff, h0, o1, oMin2, oMax2, o2I, hr, r1]
  obtain ⟨e', h1, h2⟩ := forS h (List.range r) e (fun i hi => by have := List.mem_range.mp hi; omega) p
  refine ⟨e', ?_, h2⟩
  unfold sFor
  simp only [hm, R.bs]
  exact h1
/-- a law's body: the spots, then the rest -/
theorem law_end {n : Nat} {a t : En → Rs} {ds : List D} {e' : En} (h : a (startE n ds) = .nx e') (h2 : isT (t e') = true) : runD n (sSeq a t) ds = .ok (.bl true) := by
  obtain ⟨e2, h3⟩ := isT_eq h2
  refine runD_end (re_step h ⟨e2, h3, trivial⟩)
end PV


namespace K03
open PySem PySem.Spec PyProof.Rows L2 PV LamX
def topS (i : Nat) : Stmt := PySem.Challenge.pw_ringtables_k03_errors_of_lots.main.body.getD i (.Pass ⟨0, 0, 0, 0⟩)
abbrev st__law_dice : Stmt := topS 53
theorem sc__law_dice : FnScope ["script", "spot", "cell", "great"] ["script", "spot"] (defScope st__law_dice) := ⟨rfl, rfl, rfl, by decide +kernel, rfl, by decide +kernel, by decide +kernel⟩
/-- slots: 0 script 1 spot 2 cell 3 great -/
def m__law_dice : En → Rs :=
  sSeq (sSet 2 (mIf (mT (mOp oLt [.s 1, .m (mOp oLen [.s 0])])) (mOp oInt [.m (mOp oIxx [.s 0, .s 1])]) (mOp oAdd [.m (mOp oMul [.m (mK (.int 127)), .s 1]), .m (mK (.int 71))]))) <|
  sSeq (sSet 3 (mOp oMod [.m (mOp oMax2 [.m (mK (.int 0)), .m (mOp oSub [.m (mOp oAbs [.s 2]), .m (mOp oPow [.m (mK (.int 10)), .m (mK (.int 16))])])]), .m (mOp oMul [.m (mOp oPow [.m (mK (.int 10)), .m (mK (.int 57))]), .m (mOp oPow [.m (mK (.int 10)), .m (mK (.int 60))])])])) <|
  sRt (mLst [mV 3, mOp oAdd [.m (mOp oAdd [.m (mOp oAdd [.m (mOp oMul [.m (mOp oMod [.m (mOp oAbs [.s 2]), .m (mK (.int 1152921504606846697))]), .m (mK (.int 109))]), .m (mOp oMul [.m (mK (.int 1031)), .s 1])]), .m (mOp oMul [.m (mK (.int 67)), .m (mOp oInt [.m (mOp oLt [.s 2, .m (mK (.int 0))])])])]), .m (mK (.int 53))], mK (.int 0)])
def f__law_dice : List D → Rf := runF 4 m__law_dice
abbrev st__law_met : Stmt := topS 56
theorem sc__law_met : FnScope ["call", "error"] ["call"] (defScope st__law_met) := ⟨rfl, rfl, rfl, by decide +kernel, rfl, by decide +kernel, by decide +kernel⟩
def hs__law_met : List Hd := [⟨[("InvalidLot", true), ("InvalidNumber", false), ("InvalidOperation", false)], none, uTup (uK (.str "refused")) (uK (.str "lot"))⟩,
  ⟨[("InvalidLot", false), ("InvalidNumber", true), ("InvalidOperation", false)], some 1, uTup (uK (.str "refused")) (uOp oAdd (uK (.str "number ")) (uCall oRepr (uFld "InvalidNumber" "given")))⟩,
  ⟨[("InvalidLot", false), ("InvalidNumber", false), ("InvalidOperation", true)], none, uTup (uK (.str "refused")) (uK (.str "operation"))⟩]
def dd__law_met : D := .tup [.str "refused", .str "fine"]
abbrev st_is_whole : Stmt := topS 27
theorem sc_is_whole : FnScope ["value"] ["value"] (defScope st_is_whole) := ⟨rfl, rfl, rfl, by decide +kernel, rfl, by decide +kernel, by decide +kernel⟩
/-- slots: 0 value -/
def m_is_whole : En → Rs :=
  sRt (mAndV (mIsi "int" (mV 0)) (mNotV (mIsi "bool" (mV 0))))
def f_is_whole : List D → Rf := runD 1 m_is_whole
abbrev st_is_below : Stmt := topS 28
theorem sc_is_below : FnScope ["value", "many"] ["value", "many"] (defScope st_is_below) := ⟨rfl, rfl, rfl, by decide +kernel, rfl, by decide +kernel, by decide +kernel⟩
/-- slots: 0 value 1 many -/
def m_is_below : En → Rs :=
  sRt (mAndV (mCall f_is_whole [mV 0]) (mChain oLe oLt (mK (.int 0)) (mV 0) (mV 1)))
def f_is_below : List D → Rf := runD 2 m_is_below
abbrev st_is_rising : Stmt := topS 30
theorem sc_is_rising : FnScope ["value", "many", "one", "other"] ["value", "many"] (defScope st_is_rising) := ⟨rfl, rfl, rfl, by decide +kernel, rfl, by decide +kernel, by decide +kernel⟩
/-- slots: 0 value 1 many 2 one 3 other -/
def m_is_rising : En → Rs :=
  sSeq (sIf (mOr (mNot (mT (mIsi "tuple" (mV 0)))) (mNot (mT (mOp oAll [.m (mLc (iAny (mV 0)) (.n 2) (tYs) (mCall f_is_below [mV 2, mV 1]) [2])])))) (sRt (mK (.bl false))) (sNil)) <|
  sRt (mOp oAll [.m (mLc (mIt iZip2 [mV 0, mSl (.s 0) (some (mK (.int 1))) none]) (.t [.n 2, .n 3]) (tYs) (mOp oLt [.s 2, .s 3]) [2, 3])])
def f_is_rising : List D → Rf := runD 4 m_is_rising
abbrev st_are_lots_in : Stmt := topS 32
theorem sc_are_lots_in : FnScope ["value", "lot"] ["value"] (defScope st_are_lots_in) := ⟨rfl, rfl, rfl, by decide +kernel, rfl, by decide +kernel, by decide +kernel⟩
/-- slots: 0 value 1 lot -/
def m_are_lots_in : En → Rs :=
  sRt (mAndV (mIsi "tuple" (mV 0)) (mAndV (mOp oLe [.m (mOp oLen [.s 0]), .m (mK (.int 64))]) (mOp oAll [.m (mLc (iAny (mV 0)) (.n 1) (tYs) (mCall f_is_rising [mV 1, mK (.int 24)]) [1])])))
def f_are_lots_in : List D → Rf := runD 2 m_are_lots_in
abbrev st_require_lots : Stmt := topS 36
theorem sc_require_lots : FnScope ["value"] ["value"] (defScope st_require_lots) := ⟨rfl, rfl, rfl, by decide +kernel, rfl, by decide +kernel, by decide +kernel⟩
/-- slots: 0 value -/
def m_require_lots : En → Rs :=
  sIf (mNot (mT (mCall f_are_lots_in [mV 0]))) (sRz "InvalidLot") (sNil)
def f_require_lots : List D → Rf := runD 1 m_require_lots
abbrev st_lot_of : Stmt := topS 14
theorem sc_lot_of : FnScope ["mask", "found", "left", "low"] ["mask"] (defScope st_lot_of) := ⟨rfl, rfl, rfl, by decide +kernel, rfl, by decide +kernel, by decide +kernel⟩
/-- slots: 0 mask 1 found 2 left 3 low -/
def m_lot_of : En → Rs :=
  sSeq (sPar 1 2 (.fr (mLst [])) (.st (mV 0))) <|
  sSeq (sWhile (mT (mOp oNe [.s 2, .m (mK (.int 0))])) (sSeq (sSet 3 (mOp oAnd [.s 2, .m (mOp oNeg [.s 2])])) <|
  sSeq (sEx (mOwn 1 (mOp oSub [.m (mOp oBits [.s 3]), .m (mK (.int 1))]) kAppend)) <|
  sAug 2 oXor (mV 3))) <|
  sRt (mOp oTuple [.s 1])
def f_lot_of : List D → Rf := runD 4 m_lot_of
abbrev st_told_lots : Stmt := topS 34
theorem sc_told_lots : FnScope ["masks", "mask"] ["masks"] (defScope st_told_lots) := ⟨rfl, rfl, rfl, by decide +kernel, rfl, by decide +kernel, by decide +kernel⟩
/-- slots: 0 masks 1 mask -/
def m_told_lots : En → Rs :=
  sRt (mOp oTuple [.m (mLc (iAny (mV 0)) (.n 1) (tYs) (mCall f_lot_of [mV 1]) [1])])
def f_told_lots : List D → Rf := runD 2 m_told_lots
abbrev st_head_of : Stmt := topS 15
theorem sc_head_of : FnScope ["mask"] ["mask"] (defScope st_head_of) := ⟨rfl, rfl, rfl, by decide +kernel, rfl, by decide +kernel, by decide +kernel⟩
/-- slots: 0 mask -/
def m_head_of : En → Rs :=
  sRt (mOp oAnd [.s 0, .m (mOp oNeg [.s 0])])
def f_head_of : List D → Rf := runD 1 m_head_of
abbrev st_told_form : Stmt := topS 18
theorem sc_told_form : FnScope ["masks", "found", "zeros", "at", "mask", "left", "told", "head", "bit", "heads"] ["masks"] (defScope st_told_form) := ⟨rfl, rfl, rfl, by decide +kernel, rfl, by decide +kernel, by decide +kernel⟩
/-- slots: 0 masks 1 found 2 zeros 3 at 4 mask 5 left 6 told 7 head 8 bit 9 heads -/
def m_told_form : En → Rs :=
  sSeq (sMul [1, 2] [.fr (mK (.dik [])), .fr (mLst [])]) <|
  sSeq (sFor (iEn (mV 0)) (.t [.n 3, .n 4]) (sSeq (sPar 5 6 (.st (mV 4)) (.st (mOp oShl [.m (mK (.int 1)), .s 3]))) <|
  sSeq (sFor (iAny (mOp oSortedY [.s 1])) (.n 7) (sIf (mT (mOp oNe [.m (mOp oAnd [.s 5, .s 7]), .m (mK (.int 0))])) (sPar 5 6 (.st (mOp oXor [.s 5, .m (mOp oIxx [.m (mOp oIxx [.s 1, .s 7]), .m (mK (.int 0))])])) (.st (mOp oXor [.s 6, .m (mOp oIxx [.m (mOp oIxx [.s 1, .s 7]), .m (mK (.int 1))])]))) (sNil))) <|
  sSeq (sIf (mT (mOp oEq [.s 5, .m (mK (.int 0))])) (sSeq (sEx (mOwn 2 (mV 6) kAppend)) <|
  sCt) (sNil)) <|
  sSeq (sSet 8 (mCall f_head_of [mV 5])) <|
  sSeq (sFor (iAny (mOp oSortedY [.s 1])) (.n 7) (sIf (mT (mOp oNe [.m (mOp oAnd [.m (mOp oIxx [.m (mOp oIxx [.s 1, .s 7]), .m (mK (.int 0))]), .s 8]), .m (mK (.int 0))])) (sSub 1 (mV 7) (mTup [mOp oXor [.m (mOp oIxx [.m (mOp oIxx [.s 1, .s 7]), .m (mK (.int 0))]), .s 5], mOp oXor [.m (mOp oIxx [.m (mOp oIxx [.s 1, .s 7]), .m (mK (.int 1))]), .s 6]])) (sNil))) <|
  sSub 1 (mV 8) (mTup [mV 5, mV 6]))) <|
  sSeq (sSet 9 (mOp oSortedY [.s 1])) <|
  sFz 2 <| sRt (mTup [mLc (iAny (mV 9)) (.n 7) (tYs) (mOp oIxx [.m (mOp oIxx [.s 1, .s 7]), .m (mK (.int 0))]) [7], mLc (iAny (mV 9)) (.n 7) (tYs) (mOp oIxx [.m (mOp oIxx [.s 1, .s 7]), .m (mK (.int 1))]) [7], mV 2])
def f_told_form : List D → Rf := runD 10 m_told_form
abbrev st_form_masks : Stmt := topS 19
theorem sc_form_masks : FnScope ["masks"] ["masks"] (defScope st_form_masks) := ⟨rfl, rfl, rfl, by decide +kernel, rfl, by decide +kernel, by decide +kernel⟩
/-- slots: 0 masks -/
def m_form_masks : En → Rs :=
  sRt (mOp oIxx [.m (mCall f_told_form [mV 0]), .m (mK (.int 0))])
def f_form_masks : List D → Rf := runD 1 m_form_masks
abbrev st_mask_of : Stmt := topS 13
theorem sc_mask_of : FnScope ["lot", "line"] ["lot"] (defScope st_mask_of) := ⟨rfl, rfl, rfl, by decide +kernel, rfl, by decide +kernel, by decide +kernel⟩
/-- slots: 0 lot 1 line -/
def m_mask_of : En → Rs :=
  sRt (mOp oSum [.m (mLc (iAny (mV 0)) (.n 1) (tYs) (mOp oShl [.m (mK (.int 1)), .s 1]) [1])])
def f_mask_of : List D → Rf := runD 2 m_mask_of
abbrev st_masks_of : Stmt := topS 33
theorem sc_masks_of : FnScope ["lots", "lot"] ["lots"] (defScope st_masks_of) := ⟨rfl, rfl, rfl, by decide +kernel, rfl, by decide +kernel, by decide +kernel⟩
/-- slots: 0 lots 1 lot -/
def m_masks_of : En → Rs :=
  sRt (mLc (iAny (mV 0)) (.n 1) (tYs) (mCall f_mask_of [mV 1]) [1])
def f_masks_of : List D → Rf := runD 2 m_masks_of
abbrev st_form_of : Stmt := topS 45
theorem sc_form_of : FnScope ["lots"] ["lots"] (defScope st_form_of) := ⟨rfl, rfl, rfl, by decide +kernel, rfl, by decide +kernel, by decide +kernel⟩
/-- slots: 0 lots -/
def m_form_of : En → Rs :=
  sSeq (sEx (mCall f_require_lots [mV 0])) <|
  sRt (mCall f_told_lots [mCall f_form_masks [mCall f_masks_of [mV 0]]])
def f_form_of : List D → Rf := runD 1 m_form_of
abbrev st_require_many : Stmt := topS 37
theorem sc_require_many : FnScope ["value"] ["value"] (defScope st_require_many) := ⟨rfl, rfl, rfl, by decide +kernel, rfl, by decide +kernel, by decide +kernel⟩
/-- slots: 0 value -/
def m_require_many : En → Rs :=
  sIf (mOr (mNot (mT (mCall f_is_whole [mV 0]))) (mNot (mT (mChain oLe oLe (mK (.int 1)) (mV 0) (mK (.int 24)))))) (sRz1 "InvalidNumber" "given" (mV 0)) (sNil)
def f_require_many : List D → Rf := runD 1 m_require_many
abbrev st_opposite_masks : Stmt := topS 22
theorem sc_opposite_masks : FnScope ["many", "form", "heads", "found", "line", "bit", "one"] ["many", "form"] (defScope st_opposite_masks) := ⟨rfl, rfl, rfl, by decide +kernel, rfl, by decide +kernel, by decide +kernel⟩
/-- slots: 0 many 1 form 2 heads 3 found 4 line 5 bit 6 one -/
def m_opposite_masks : En → Rs :=
  sSeq (sSet 2 (mOp oSum [.m (mLc (iAny (mV 1)) (.n 6) (tYs) (mCall f_head_of [mV 6]) [6])])) <|
  sSeq (sSetO 3 (mLst [])) <|
  sSeq (sFor (mIt iRange1 [mV 0]) (.n 4) (sSeq (sSet 5 (mOp oShl [.m (mK (.int 1)), .s 4])) <|
  sIf (mT (mOp oEq [.m (mOp oAnd [.s 2, .s 5]), .m (mK (.int 0))])) (sEx (mOwn 3 (mOp oOr [.s 5, .m (mOp oSum [.m (mLc (iAny (mV 1)) (.n 6) (mT (mOp oNe [.m (mOp oAnd [.s 6, .s 5]), .m (mK (.int 0))])) (mCall f_head_of [mV 6]) [6])])]) kAppend)) (sNil))) <|
  sFz 3 <| sRt (mCall f_form_masks [mV 3])
def f_opposite_masks : List D → Rf := runD 7 m_opposite_masks
abbrev st_opposite_form : Stmt := topS 46
theorem sc_opposite_form : FnScope ["many", "lots", "lot"] ["many", "lots"] (defScope st_opposite_form) := ⟨rfl, rfl, rfl, by decide +kernel, rfl, by decide +kernel, by decide +kernel⟩
/-- slots: 0 many 1 lots 2 lot -/
def m_opposite_form : En → Rs :=
  sSeq (sEx (mCall f_require_many [mV 0])) <|
  sSeq (sEx (mCall f_require_lots [mV 1])) <|
  sSeq (sIf (mNot (mT (mOp oAll [.m (mLc (iAny (mV 1)) (.n 2) (tYs) (mCall f_is_rising [mV 2, mV 0]) [2])]))) (sRz "InvalidOperation") (sNil)) <|
  sRt (mCall f_told_lots [mCall f_opposite_masks [mV 0, mCall f_form_masks [mCall f_masks_of [mV 1]]]])
def f_opposite_form : List D → Rf := runD 3 m_opposite_form
abbrev st_sum_of_masks : Stmt := topS 25
theorem sc_sum_of_masks : FnScope ["masks", "pick", "found", "at"] ["masks", "pick"] (defScope st_sum_of_masks) := ⟨rfl, rfl, rfl, by decide +kernel, rfl, by decide +kernel, by decide +kernel⟩
/-- slots: 0 masks 1 pick 2 found 3 at -/
def m_sum_of_masks : En → Rs :=
  sSeq (sSet 2 (mK (.int 0))) <|
  sSeq (sFor (iAny (mV 1)) (.n 3) (sAug 2 oXor (mOp oIxx [.s 0, .s 3]))) <|
  sRt (mV 2)
def f_sum_of_masks : List D → Rf := runD 4 m_sum_of_masks
abbrev st_sum_of_pick : Stmt := topS 44
theorem sc_sum_of_pick : FnScope ["lots", "pick"] ["lots", "pick"] (defScope st_sum_of_pick) := ⟨rfl, rfl, rfl, by decide +kernel, rfl, by decide +kernel, by decide +kernel⟩
/-- slots: 0 lots 1 pick -/
def m_sum_of_pick : En → Rs :=
  sSeq (sEx (mCall f_require_lots [mV 0])) <|
  sSeq (sIf (mNot (mT (mCall f_is_rising [mV 1, mOp oLen [.s 0]]))) (sRz "InvalidOperation") (sNil)) <|
  sRt (mCall f_lot_of [mCall f_sum_of_masks [mCall f_masks_of [mV 0], mV 1]])
def f_sum_of_pick : List D → Rf := runD 2 m_sum_of_pick
abbrev st__law_roll : Stmt := topS 54
theorem sc__law_roll : FnScope ["dice", "most", "found", "one", "two"] ["dice", "most"] (defScope st__law_roll) := ⟨rfl, rfl, rfl, by decide +kernel, rfl, by decide +kernel, by decide +kernel⟩
/-- slots: 0 dice 1 most 2 found 3 one 4 two -/
def m__law_roll : En → Rs :=
  sSeq (sIf (mT (mOp oGt [.m (mOp oIxx [.s 0, .m (mK (.int 0))]), .m (mK (.int 0))])) (sSeq (sSet 2 (mOp oMod [.m (mOp oInt [.m (mOp oIxx [.s 0, .m (mK (.int 0))])]), .s 1])) <|
  sSeq (sSub 0 (mK (.int 0)) (mOp oFdiv [.m (mOp oIxx [.s 0, .m (mK (.int 0))]), .s 1])) <|
  sRt (mV 2)) (sNil)) <|
  sSeq (sSub 0 (mK (.int 2)) (mOp oAdd [.m (mOp oIxx [.s 0, .m (mK (.int 2))]), .m (mK (.int 1))])) <|
  sSeq (sSet 3 (mOp oMod [.m (mOp oInt [.m (mOp oAdd [.m (mOp oIxx [.s 0, .m (mK (.int 1))]), .m (mOp oMul [.m (mK (.int 49979687)), .m (mOp oIxx [.s 0, .m (mK (.int 2))])])])]), .m (mK (.int 2305843009213693487))])) <|
  sSeq (sSet 4 (mOp oAdd [.m (mOp oMul [.m (mOp oMod [.m (mOp oInt [.m (mOp oAdd [.m (mOp oMul [.s 3, .s 3]), .m (mOp oMul [.m (mK (.int 113)), .m (mOp oIxx [.s 0, .m (mK (.int 2))])])])]), .m (mK (.int 2305843009213693669))]), .m (mK (.int 6700417))]), .s 3])) <|
  sRt (mOp oMod [.m (mOp oInt [.m (mOp oFdiv [.s 4, .m (mK (.int 65539))])]), .s 1])
def f__law_roll : D → List D → Rr := runR 4 m__law_roll
abbrev st__law_pick : Stmt := topS 55
theorem sc__law_pick : FnScope ["dice", "items"] ["dice", "items"] (defScope st__law_pick) := ⟨rfl, rfl, rfl, by decide +kernel, rfl, by decide +kernel, by decide +kernel⟩
/-- slots: 0 dice 1 items -/
def m__law_pick : En → Rs :=
  sRt (mOp oIxx [.s 1, .m (mCallR f__law_roll 0 [mOp oLen [.s 1]])])
def f__law_pick : D → List D → Rr := runR 1 m__law_pick
abbrev st_is_lot_of : Stmt := topS 41
theorem sc_is_lot_of : FnScope ["many", "value"] ["many", "value"] (defScope st_is_lot_of) := ⟨rfl, rfl, rfl, by decide +kernel, rfl, by decide +kernel, by decide +kernel⟩
/-- slots: 0 many 1 value -/
def m_is_lot_of : En → Rs :=
  sSeq (sEx (mCall f_require_many [mV 0])) <|
  sRt (mCall f_is_rising [mV 1, mV 0])
def f_is_lot_of : List D → Rf := runD 2 m_is_lot_of
abbrev st_require_lot : Stmt := topS 35
theorem sc_require_lot : FnScope ["value"] ["value"] (defScope st_require_lot) := ⟨rfl, rfl, rfl, by decide +kernel, rfl, by decide +kernel, by decide +kernel⟩
/-- slots: 0 value -/
def m_require_lot : En → Rs :=
  sIf (mNot (mT (mCall f_is_rising [mV 0, mK (.int 24)]))) (sRz "InvalidLot") (sNil)
def f_require_lot : List D → Rf := runD 1 m_require_lot
abbrev st_require_two : Stmt := topS 38
theorem sc_require_two : FnScope ["one", "other"] ["one", "other"] (defScope st_require_two) := ⟨rfl, rfl, rfl, by decide +kernel, rfl, by decide +kernel, by decide +kernel⟩
/-- slots: 0 one 1 other -/
def m_require_two : En → Rs :=
  sSeq (sEx (mCall f_require_lot [mV 0])) <|
  sEx (mCall f_require_lot [mV 1])
def f_require_two : List D → Rf := runD 2 m_require_two
abbrev st_lot_sum : Stmt := topS 42
theorem sc_lot_sum : FnScope ["one", "other"] ["one", "other"] (defScope st_lot_sum) := ⟨rfl, rfl, rfl, by decide +kernel, rfl, by decide +kernel, by decide +kernel⟩
/-- slots: 0 one 1 other -/
def m_lot_sum : En → Rs :=
  sSeq (sEx (mCall f_require_two [mV 0, mV 1])) <|
  sRt (mCall f_lot_of [mOp oXor [.m (mCall f_mask_of [mV 0]), .m (mCall f_mask_of [mV 1])]])
def f_lot_sum : List D → Rf := runD 2 m_lot_sum
abbrev st_size_of : Stmt := topS 16
theorem sc_size_of : FnScope ["mask"] ["mask"] (defScope st_size_of) := ⟨rfl, rfl, rfl, by decide +kernel, rfl, by decide +kernel, by decide +kernel⟩
/-- slots: 0 mask -/
def m_size_of : En → Rs :=
  sRt (mOp oLen [.m (mCall f_lot_of [mV 0])])
def f_size_of : List D → Rf := runD 1 m_size_of
abbrev st_is_odd : Stmt := topS 17
theorem sc_is_odd : FnScope ["mask"] ["mask"] (defScope st_is_odd) := ⟨rfl, rfl, rfl, by decide +kernel, rfl, by decide +kernel, by decide +kernel⟩
/-- slots: 0 mask -/
def m_is_odd : En → Rs :=
  sRt (mOp oEq [.m (mOp oMod [.m (mCall f_size_of [mV 0]), .m (mK (.int 2))]), .m (mK (.int 1))])
def f_is_odd : List D → Rf := runD 1 m_is_odd
abbrev st_does_meet_oddly : Stmt := topS 43
theorem sc_does_meet_oddly : FnScope ["one", "other"] ["one", "other"] (defScope st_does_meet_oddly) := ⟨rfl, rfl, rfl, by decide +kernel, rfl, by decide +kernel, by decide +kernel⟩
/-- slots: 0 one 1 other -/
def m_does_meet_oddly : En → Rs :=
  sSeq (sEx (mCall f_require_two [mV 0, mV 1])) <|
  sRt (mCall f_is_odd [mOp oAnd [.m (mCall f_mask_of [mV 0]), .m (mCall f_mask_of [mV 1])]])
def f_does_meet_oddly : List D → Rf := runD 2 m_does_meet_oddly
abbrev st_common_masks : Stmt := topS 26
theorem sc_common_masks : FnScope ["many", "form", "more", "both"] ["many", "form", "more"] (defScope st_common_masks) := ⟨rfl, rfl, rfl, by decide +kernel, rfl, by decide +kernel, by decide +kernel⟩
/-- slots: 0 many 1 form 2 more 3 both -/
def m_common_masks : En → Rs :=
  sSeq (sSet 3 (mLstS [.s (mCall f_opposite_masks [mV 0, mV 1]), .s (mCall f_opposite_masks [mV 0, mV 2])])) <|
  sRt (mCall f_opposite_masks [mV 0, mCall f_form_masks [mV 3]])
def f_common_masks : List D → Rf := runD 4 m_common_masks
abbrev st_common_form : Stmt := topS 51
theorem sc_common_form : FnScope ["lots", "more", "forms", "some"] ["lots", "more"] (defScope st_common_form) := ⟨rfl, rfl, rfl, by decide +kernel, rfl, by decide +kernel, by decide +kernel⟩
/-- slots: 0 lots 1 more 2 forms 3 some -/
def m_common_form : En → Rs :=
  sSeq (sEx (mCall f_require_lots [mV 0])) <|
  sSeq (sEx (mCall f_require_lots [mV 1])) <|
  sSeq (sSet 2 (mLc (iAny (mTup [mV 0, mV 1])) (.n 3) (tYs) (mCall f_form_masks [mCall f_masks_of [mV 3]]) [3])) <|
  sRt (mCall f_told_lots [mCall f_common_masks [mK (.int 24), mOp oIxx [.s 2, .m (mK (.int 0))], mOp oIxx [.s 2, .m (mK (.int 1))]]])
def f_common_form : List D → Rf := runD 4 m_common_form
abbrev st_require_lots_and_lot : Stmt := topS 39
theorem sc_require_lots_and_lot : FnScope ["lots", "lot"] ["lots", "lot"] (defScope st_require_lots_and_lot) := ⟨rfl, rfl, rfl, by decide +kernel, rfl, by decide +kernel, by decide +kernel⟩
/-- slots: 0 lots 1 lot -/
def m_require_lots_and_lot : En → Rs :=
  sSeq (sEx (mCall f_require_lots [mV 0])) <|
  sEx (mCall f_require_lot [mV 1])
def f_require_lots_and_lot : List D → Rf := runD 2 m_require_lots_and_lot
abbrev st_reduced : Stmt := topS 20
theorem sc_reduced : FnScope ["mask", "form", "left", "one"] ["mask", "form"] (defScope st_reduced) := ⟨rfl, rfl, rfl, by decide +kernel, rfl, by decide +kernel, by decide +kernel⟩
/-- slots: 0 mask 1 form 2 left 3 one -/
def m_reduced : En → Rs :=
  sSeq (sSet 2 (mV 0)) <|
  sSeq (sFor (iAny (mV 1)) (.n 3) (sIf (mT (mOp oNe [.m (mOp oAnd [.s 2, .m (mCall f_head_of [mV 3])]), .m (mK (.int 0))])) (sAug 2 oXor (mV 3)) (sNil))) <|
  sRt (mV 2)
def f_reduced : List D → Rf := runD 4 m_reduced
abbrev st_is_sum_in : Stmt := topS 21
theorem sc_is_sum_in : FnScope ["mask", "form"] ["mask", "form"] (defScope st_is_sum_in) := ⟨rfl, rfl, rfl, by decide +kernel, rfl, by decide +kernel, by decide +kernel⟩
/-- slots: 0 mask 1 form -/
def m_is_sum_in : En → Rs :=
  sRt (mOp oEq [.m (mCall f_reduced [mV 0, mV 1]), .m (mK (.int 0))])
def f_is_sum_in : List D → Rf := runD 2 m_is_sum_in
abbrev st_test_mask : Stmt := topS 23
theorem sc_test_mask : FnScope ["mask", "form", "line", "one"] ["mask", "form"] (defScope st_test_mask) := ⟨rfl, rfl, rfl, by decide +kernel, rfl, by decide +kernel, by decide +kernel⟩
/-- slots: 0 mask 1 form 2 line 3 one -/
def m_test_mask : En → Rs :=
  sSeq (sSet 2 (mCall f_head_of [mCall f_reduced [mV 0, mV 1]])) <|
  sRt (mOp oOr [.s 2, .m (mOp oSum [.m (mLc (iAny (mV 1)) (.n 3) (mT (mOp oNe [.m (mOp oAnd [.s 3, .s 2]), .m (mK (.int 0))])) (mCall f_head_of [mV 3]) [3])])])
def f_test_mask : List D → Rf := runD 4 m_test_mask
abbrev st_sum_or_test : Stmt := topS 47
theorem sc_sum_or_test : FnScope ["lots", "lot", "form", "picks", "zeros", "mask", "told", "one", "pick"] ["lots", "lot"] (defScope st_sum_or_test) := ⟨rfl, rfl, rfl, by decide +kernel, rfl, by decide +kernel, by decide +kernel⟩
/-- slots: 0 lots 1 lot 2 form 3 picks 4 zeros 5 mask 6 told 7 one 8 pick -/
def m_sum_or_test : En → Rs :=
  sSeq (sEx (mCall f_require_lots_and_lot [mV 0, mV 1])) <|
  sSeq (sAsg (.t [.n 2, .n 3, .n 4]) (mCall f_told_form [mCall f_masks_of [mV 0]])) <|
  sSeq (sPar 5 6 (.st (mCall f_mask_of [mV 1])) (.st (mK (.int 0)))) <|
  sSeq (sIf (mNot (mT (mCall f_is_sum_in [mV 5, mV 2]))) (sRt (mTup [mK (.str "test"), mCall f_lot_of [mCall f_test_mask [mV 5, mV 2]]])) (sNil)) <|
  sSeq (sFor (mIt iZip2 [mV 2, mV 3]) (.t [.n 7, .n 8]) (sIf (mT (mOp oNe [.m (mOp oAnd [.s 5, .m (mCall f_head_of [mV 7])]), .m (mK (.int 0))])) (sAug 6 oXor (mV 8)) (sNil))) <|
  sRt (mTup [mK (.str "sum"), mCall f_lot_of [mV 6]])
def f_sum_or_test : List D → Rf := runD 9 m_sum_or_test
abbrev st_is_told : Stmt := topS 31
theorem sc_is_told : FnScope ["value", "word", "many"] ["value", "word", "many"] (defScope st_is_told) := ⟨rfl, rfl, rfl, by decide +kernel, rfl, by decide +kernel, by decide +kernel⟩
/-- slots: 0 value 1 word 2 many -/
def m_is_told : En → Rs :=
  sRt (mAndV (mIsi "tuple" (mV 0)) (mAndV (mOp oEq [.m (mOp oLen [.s 0]), .s 2]) (mAndV (mIsi "str" (mOp oIxx [.s 0, .m (mK (.int 0))])) (mOp oEq [.m (mOp oIxx [.s 0, .m (mK (.int 0))]), .s 1]))))
def f_is_told : List D → Rf := runD 3 m_is_told
abbrev st_is_sum_or_test : Stmt := topS 48
theorem sc_is_sum_or_test : FnScope ["lots", "lot", "value", "masks", "mask", "other", "one"] ["lots", "lot", "value"] (defScope st_is_sum_or_test) := ⟨rfl, rfl, rfl, by decide +kernel, rfl, by decide +kernel, by decide +kernel⟩
/-- slots: 0 lots 1 lot 2 value 3 masks 4 mask 5 other 6 one -/
def m_is_sum_or_test : En → Rs :=
  sSeq (sEx (mCall f_require_lots_and_lot [mV 0, mV 1])) <|
  sSeq (sPar 3 4 (.st (mCall f_masks_of [mV 0])) (.st (mCall f_mask_of [mV 1]))) <|
  sSeq (sIf (mT (mCall f_is_told [mV 2, mK (.str "sum"), mK (.int 2)])) (sRt (mAndV (mCall f_is_rising [mOp oIxx [.s 2, .m (mK (.int 1))], mOp oLen [.s 0]]) (mOp oEq [.m (mCall f_sum_of_masks [mV 3, mOp oIxx [.s 2, .m (mK (.int 1))]]), .s 4]))) (sNil)) <|
  sSeq (sIf (mOr (mNot (mT (mCall f_is_told [mV 2, mK (.str "test"), mK (.int 2)]))) (mNot (mT (mCall f_is_rising [mOp oIxx [.s 2, .m (mK (.int 1))], mK (.int 24)])))) (sRt (mK (.bl false))) (sNil)) <|
  sSeq (sSet 5 (mCall f_mask_of [mOp oIxx [.s 2, .m (mK (.int 1))]])) <|
  sRt (mAndV (mCall f_is_odd [mOp oAnd [.s 5, .s 4]]) (mNotV (mOp oAny [.m (mLc (iAny (mV 3)) (.n 6) (tYs) (mCall f_is_odd [mOp oAnd [.s 5, .s 6]]) [6])])))
def f_is_sum_or_test : List D → Rf := runD 7 m_is_sum_or_test
abbrev st_is_bit : Stmt := topS 29
theorem sc_is_bit : FnScope ["value"] ["value"] (defScope st_is_bit) := ⟨rfl, rfl, rfl, by decide +kernel, rfl, by decide +kernel, by decide +kernel⟩
/-- slots: 0 value -/
def m_is_bit : En → Rs :=
  sRt (mCall f_is_below [mV 0, mK (.int 2)])
def f_is_bit : List D → Rf := runD 1 m_is_bit
abbrev st_require_bits : Stmt := topS 40
theorem sc_require_bits : FnScope ["lots", "bits", "bit"] ["lots", "bits"] (defScope st_require_bits) := ⟨rfl, rfl, rfl, by decide +kernel, rfl, by decide +kernel, by decide +kernel⟩
/-- slots: 0 lots 1 bits 2 bit -/
def m_require_bits : En → Rs :=
  sSeq (sEx (mCall f_require_lots [mV 0])) <|
  sIf (mOr (mNot (mT (mIsi "tuple" (mV 1)))) (mOr (mT (mOp oNe [.m (mOp oLen [.s 1]), .m (mOp oLen [.s 0])])) (mNot (mT (mOp oAll [.m (mLc (iAny (mV 1)) (.n 2) (tYs) (mCall f_is_bit [mV 2]) [2])]))))) (sRz "InvalidOperation") (sNil)
def f_require_bits : List D → Rf := runD 3 m_require_bits
abbrev st_met_by : Stmt := topS 24
theorem sc_met_by : FnScope ["masks", "bits", "form", "picks", "zeros", "goal", "pick", "at", "bit", "one"] ["masks", "bits"] (defScope st_met_by) := ⟨rfl, rfl, rfl, by decide +kernel, rfl, by decide +kernel, by decide +kernel⟩
/-- slots: 0 masks 1 bits 2 form 3 picks 4 zeros 5 goal 6 pick 7 at 8 bit 9 one -/
def m_met_by : En → Rs :=
  sSeq (sAsg (.t [.n 2, .n 3, .n 4]) (mCall f_told_form [mV 0])) <|
  sSeq (sSet 5 (mCall f_mask_of [mLc (iEn (mV 1)) (.t [.n 7, .n 8]) (mT (mOp oEq [.s 8, .m (mK (.int 1))])) (mV 7) [7, 8]])) <|
  sSeq (sFor (iAny (mV 4)) (.n 6) (sIf (mT (mCall f_is_odd [mOp oAnd [.s 6, .s 5]])) (sRt (mTup [mK .non, mV 6])) (sNil))) <|
  sRt (mTup [mOp oSum [.m (mLc (mIt iZip2 [mV 2, mV 3]) (.t [.n 9, .n 6]) (mT (mCall f_is_odd [mOp oAnd [.s 6, .s 5]])) (mCall f_head_of [mV 9]) [9, 6])], mK .non])
def f_met_by : List D → Rf := runD 10 m_met_by
abbrev st_met_or_bar : Stmt := topS 49
theorem sc_met_or_bar : FnScope ["lots", "bits", "found", "pick"] ["lots", "bits"] (defScope st_met_or_bar) := ⟨rfl, rfl, rfl, by decide +kernel, rfl, by decide +kernel, by decide +kernel⟩
/-- slots: 0 lots 1 bits 2 found 3 pick -/
def m_met_or_bar : En → Rs :=
  sSeq (sEx (mCall f_require_bits [mV 0, mV 1])) <|
  sSeq (sAsg (.t [.n 2, .n 3]) (mCall f_met_by [mCall f_masks_of [mV 0], mV 1])) <|
  sRt (mIf (mT (mOp oIsN [.s 2, .m (mK .non)])) (mTup [mK (.str "bar"), mCall f_lot_of [mV 3]]) (mTup [mK (.str "lot"), mCall f_lot_of [mV 2]]))
def f_met_or_bar : List D → Rf := runD 4 m_met_or_bar
abbrev st_is_met_or_bar : Stmt := topS 50
theorem sc_is_met_or_bar : FnScope ["lots", "bits", "value", "masks", "other", "one", "bit", "at"] ["lots", "bits", "value"] (defScope st_is_met_or_bar) := ⟨rfl, rfl, rfl, by decide +kernel, rfl, by decide +kernel, by decide +kernel⟩
/-- slots: 0 lots 1 bits 2 value 3 masks 4 other 5 one 6 bit 7 at -/
def m_is_met_or_bar : En → Rs :=
  sSeq (sEx (mCall f_require_bits [mV 0, mV 1])) <|
  sSeq (sSet 3 (mCall f_masks_of [mV 0])) <|
  sSeq (sIf (mT (mCall f_is_told [mV 2, mK (.str "lot"), mK (.int 2)])) (sSeq (sIf (mNot (mT (mCall f_is_rising [mOp oIxx [.s 2, .m (mK (.int 1))], mK (.int 24)]))) (sRt (mK (.bl false))) (sNil)) <|
  sSeq (sSet 4 (mCall f_mask_of [mOp oIxx [.s 2, .m (mK (.int 1))]])) <|
  sRt (mOp oAll [.m (mLc (mIt iZip2 [mV 3, mV 1]) (.t [.n 5, .n 6]) (tYs) (mOp oEq [.m (mCall f_is_odd [mOp oAnd [.s 4, .s 5]]), .m (mOp oEq [.s 6, .m (mK (.int 1))])]) [5, 6])])) (sNil)) <|
  sSeq (sIf (mOr (mNot (mT (mCall f_is_told [mV 2, mK (.str "bar"), mK (.int 2)]))) (mNot (mT (mCall f_is_rising [mOp oIxx [.s 2, .m (mK (.int 1))], mOp oLen [.s 0]])))) (sRt (mK (.bl false))) (sNil)) <|
  sRt (mAndV (mOp oEq [.m (mCall f_sum_of_masks [mV 3, mOp oIxx [.s 2, .m (mK (.int 1))]]), .m (mK (.int 0))]) (mOp oEq [.m (mOp oMod [.m (mOp oSum [.m (mLc (iAny (mOp oIxx [.s 2, .m (mK (.int 1))])) (.n 7) (tYs) (mOp oIxx [.s 1, .s 7]) [7])]), .m (mK (.int 2))]), .m (mK (.int 1))]))
def f_is_met_or_bar : List D → Rf := runD 8 m_is_met_or_bar
abbrev st__law_right : Stmt := topS 57
theorem sc__law_right : FnScope ["dice", "lots", "lot", "bad", "odd", "pick", "bits", "many", "told", "due", "word"] ["dice"] (defScope st__law_right) := ⟨rfl, rfl, rfl, by decide +kernel, rfl, by decide +kernel, by decide +kernel⟩
def k__law_right_0 : En → R D := mLst [mK .non, mK (.int 0), mLst [mK (.int 0)], mTup [mK (.int 1), mK (.int 0)], mTup [mK (.int 0), mK (.int 0)], mTup [mK (.int 24)], mTup [mOp oNeg [.m (mK (.int 1))]], mTup [mK (.bl true)], mK (.str "0"), mK (.dik []), mTup [mTup [mK (.int 0)]], mTup [mK .non], mTup [mOp oPow [.m (mK (.int 10)), .m (mK (.int 60))]]]
def k__law_right_1 : En → R D := mLst [mK .non, mK (.int 0), mLst [mTup [mK (.int 0)]], mTup [mK (.int 0)], mTup [mTup [mK (.int 1), mK (.int 0)]], mTup [mTup [mK (.int 24)]], mTup [mTup [mK (.int 0)], mK .non], mOp oMul [.m (mTup [mTup [mK (.int 0)]]), .m (mK (.int 65))], mK (.str "0"), mK (.dik []), mTup [mTup [mK (.bl true)]], mTup [mLst [mK (.int 0)]], mTup [mTup [mK (.int 0), mK (.int 0)]]]
def k__law_right_2 : En → R D := mLst [mK .non, mK (.int 0), mLst [mK (.int 0)], mTup [mK (.int 1), mK (.int 0)], mTup [mK (.int 0), mK (.int 0)], mTup [mK (.int 3)], mTup [mOp oNeg [.m (mK (.int 1))]], mTup [mK (.bl false)], mK (.str "0"), mK (.dik []), mTup [mTup [mK (.int 0)]]]
def k__law_right_3 : En → R D := mTup [mK (.int 0), mK (.int 1), mK (.int 1), mK (.int 0)]
def k__law_right_4 : En → R D := mLst [mK .non, mK (.int 0), mTup [], mTup [mK (.int 0), mK (.int 1)], k__law_right_3, mLst [mK (.int 0), mK (.int 1), mK (.int 0)], mTup [mK (.int 0), mK (.int 1), mK (.int 2)], mTup [mK (.int 0), mK (.int 1), mK (.bl true)], mTup [mK (.int 0), mK (.int 1), mK .non], mK (.str "010")]
def k__law_right_5 : En → R D := mLst [mK .non, mK (.int 0), mK (.int 25), mOp oNeg [.m (mK (.int 1))], mK (.bl true), mK (.str "3"), mTup [mK (.int 3)], mOp oPow [.m (mK (.int 10)), .m (mK (.int 60))]]
/-- slots: 0 dice 1 lots 2 lot 3 bad 4 odd 5 pick 6 bits 7 many 8 told 9 due 10 word -/
def m__law_right : En → Rs :=
  sSeq (sAsg (.t [.n 1, .n 2]) (mTup [mTup [mTup [mK (.int 0), mK (.int 1)], mTup [mK (.int 1), mK (.int 2)], mTup [mK (.int 0), mK (.int 2)]], mTup [mK (.int 0), mK (.int 5)]])) <|
  sSeq (sSet 3 (mCallR f__law_pick 0 [k__law_right_0])) <|
  sSeq (sSet 4 (mCallR f__law_pick 0 [k__law_right_1])) <|
  sSeq (sSet 5 (mCallR f__law_pick 0 [k__law_right_2])) <|
  sSeq (sSet 6 (mCallR f__law_pick 0 [k__law_right_4])) <|
  sSeq (sSet 7 (mCallR f__law_pick 0 [k__law_right_5])) <|
  sSeq (sSetO 8 (mLst [mMet hs__law_met dd__law_met (mCall f_lot_sum [mV 3, mV 3])])) <|
  sSeq (sEx (mOwn 8 (mMet hs__law_met dd__law_met (mCall f_lot_sum [mV 2, mV 3])) kAppend)) <|
  sSeq (sEx (mOwn 8 (mMet hs__law_met dd__law_met (mCall f_does_meet_oddly [mV 3, mV 2])) kAppend)) <|
  sSeq (sEx (mOwn 8 (mMet hs__law_met dd__law_met (mCall f_does_meet_oddly [mV 2, mV 3])) kAppend)) <|
  sSeq (sEx (mOwn 8 (mMet hs__law_met dd__law_met (mCall f_form_of [mV 4])) kAppend)) <|
  sSeq (sEx (mOwn 8 (mMet hs__law_met dd__law_met (mCall f_common_form [mV 4, mV 4])) kAppend)) <|
  sSeq (sEx (mOwn 8 (mMet hs__law_met dd__law_met (mCall f_common_form [mV 1, mV 4])) kAppend)) <|
  sSeq (sEx (mOwn 8 (mMet hs__law_met dd__law_met (mCall f_sum_of_pick [mV 4, mV 5])) kAppend)) <|
  sSeq (sEx (mOwn 8 (mMet hs__law_met dd__law_met (mCall f_sum_of_pick [mV 1, mV 5])) kAppend)) <|
  sSeq (sSet 9 (mOp oAdd [.m (mOp oMul [.m (mLst [mK (.str "lot")]), .m (mK (.int 8))]), .m (mLst [mK (.str "operation")])])) <|
  sSeq (sEx (mOwn 8 (mMet hs__law_met dd__law_met (mCall f_sum_or_test [mV 4, mV 3])) kAppend)) <|
  sSeq (sEx (mOwn 8 (mMet hs__law_met dd__law_met (mCall f_sum_or_test [mV 1, mV 3])) kAppend)) <|
  sSeq (sEx (mOwn 8 (mMet hs__law_met dd__law_met (mCall f_is_sum_or_test [mV 4, mV 3, mK .non])) kAppend)) <|
  sSeq (sEx (mOwn 8 (mMet hs__law_met dd__law_met (mCall f_is_sum_or_test [mV 1, mV 3, mK .non])) kAppend)) <|
  sSeq (sEx (mOwn 8 (mMet hs__law_met dd__law_met (mCall f_met_or_bar [mV 4, mV 6])) kAppend)) <|
  sSeq (sEx (mOwn 8 (mMet hs__law_met dd__law_met (mCall f_met_or_bar [mV 1, mV 6])) kAppend)) <|
  sSeq (sEx (mOwn 8 (mMet hs__law_met dd__law_met (mCall f_is_met_or_bar [mV 4, mV 6, mK .non])) kAppend)) <|
  sSeq (sEx (mOwn 8 (mMet hs__law_met dd__law_met (mCall f_is_met_or_bar [mV 1, mV 6, mK .non])) kAppend)) <|
  sSeq (sSet 9 (mOp oAdd [.m (mOp oAdd [.s 9, .m (mOp oMul [.m (mLst [mK (.str "lot")]), .m (mK (.int 5))])]), .m (mLst [mK (.str "operation"), mK (.str "lot"), mK (.str "operation")])])) <|
  sSeq (sEx (mOwn 8 (mMet hs__law_met dd__law_met (mCall f_opposite_form [mV 7, mV 4])) kAppend)) <|
  sSeq (sEx (mOwn 8 (mMet hs__law_met dd__law_met (mCall f_opposite_form [mK (.int 3), mV 4])) kAppend)) <|
  sSeq (sEx (mOwn 8 (mMet hs__law_met dd__law_met (mCall f_opposite_form [mK (.int 3), mTup [mTup [mK (.int 0), mK (.int 1)], mTup [mK (.int 2), mK (.int 3)]]])) kAppend)) <|
  sSeq (sEx (mOwn 8 (mMet hs__law_met dd__law_met (mCall f_is_lot_of [mV 7, mV 3])) kAppend)) <|
  sSeq (sEx (mOwn 8 (mMet hs__law_met dd__law_met (mCall f_opposite_form [mK (.int 3), mV 1])) kAppend)) <|
  sSeq (sSet 9 (mOp oAdd [.s 9, .m (mLst [mOp oAdd [.m (mK (.str "number ")), .m (mOp oRepr [.s 7])], mK (.str "lot"), mK (.str "operation"), mOp oAdd [.m (mK (.str "number ")), .m (mOp oRepr [.s 7])], mK (.str "fine")])])) <|
  sRt (mAndV (mOp oEq [.s 8, .m (mLc (iAny (mV 9)) (.n 10) (tYs) (mTup [mK (.str "refused"), mV 10]) [10])]) (mNotV (mCall f_is_lot_of [mK (.int 24), mV 3])))
def f__law_right : D → List D → Rr := runR 10 m__law_right
abbrev st_law : Stmt := topS 58
theorem sc_law : FnScope ["script", "spot", "dice", "full", "told", "at"] ["script"] (defScope st_law) := ⟨rfl, rfl, rfl, by decide +kernel, rfl, by decide +kernel, by decide +kernel⟩
/-- slots: 0 script 1 spot 2 dice 3 full 4 told 5 at -/
def m_law : En → Rs :=
  sSeq (sFor (mIt iRange1 [mOp oMax2 [.m (mK (.int 1)), .m (mOp oMin2 [.m (mK (.int 4)), .m (mOp oLen [.s 0])])]]) (.n 1) (sSeq (sSetO 2 (mCall f__law_dice [mV 0, mV 1])) <|
  sIf (mOr (mNot (mT (mCallR f__law_right 2 []))) (mNot (mT (mCallR f__law_right 2 [])))) (sRt (mK (.bl false))) (sNil))) <|
  sSeq (sSet 3 (mOp oTuple [.m (mLc (mIt iRange1 [mK (.int 64)]) (.n 5) (tYs) (mTup [mOp oMod [.s 5, .m (mK (.int 24))]]) [5])])) <|
  sSeq (sIf (mOr (mT (mOp oNe [.m (mCall f_form_of [mV 3]), .m (mOp oTuple [.m (mLc (mIt iRange1 [mK (.int 24)]) (.n 5) (tYs) (mTup [mV 5]) [5])])])) (mOr (mT (mOp oNe [.m (mCall f_opposite_form [mK (.int 24), mV 3]), .m (mTup [])])) (mT (mOp oNe [.m (mCall f_sum_of_pick [mV 3, mOp (oRngL .tup) [.m (mK (.int 64))]]), .m (mOp (oRngL .tup) [.m (mK (.int 16))])])))) (sRt (mK (.bl false))) (sNil)) <|
  sSeq (sSetO 4 (mLst [mMet hs__law_met dd__law_met (mCall f_form_of [mOp oAdd [.s 3, .m (mTup [mTup [mK (.int 0)]])]])])) <|
  sSeq (sEx (mOwn 4 (mMet hs__law_met dd__law_met (mCall f_met_or_bar [mTup [], mTup []])) kAppend)) <|
  sSeq (sEx (mOwn 4 (mMet hs__law_met dd__law_met (mCall f_met_or_bar [mTup [], mTup [mK (.int 0)]])) kAppend)) <|
  sRt (mOp oEq [.s 4, .m (mLst [mTup [mK (.str "refused"), mK (.str "lot")], mTup [mK (.str "refused"), mK (.str "fine")], mTup [mK (.str "refused"), mK (.str "operation")]])])
def f_law : List D → Rf := runD 6 m_law
end K03


namespace K03
open PySem PySem.Spec PyProof.Rows L2 PV LamX
structure Md (P : Program) (K : PySem.W.Frag) (mg : Str → Option Value) where
  f__law_dice : Addr
  fd__law_dice : FuncData
  F__law_dice : Fun K "_law_dice" "_law_dice" st__law_dice f__law_dice fd__law_dice
  g__law_dice : mg "_law_dice" = some (.ref f__law_dice)
  b__law_dice : L2.Binds K fd__law_dice ["script", "spot"] []
  f__law_met : Addr
  fd__law_met : FuncData
  F__law_met : Fun K "_law_met" "_law_met" st__law_met f__law_met fd__law_met
  g__law_met : mg "_law_met" = some (.ref f__law_met)
  b__law_met : L2.Binds K fd__law_met ["call"] []
  f_is_whole : Addr
  fd_is_whole : FuncData
  F_is_whole : Fun K "is_whole" "is_whole" st_is_whole f_is_whole fd_is_whole
  g_is_whole : mg "is_whole" = some (.ref f_is_whole)
  b_is_whole : L2.Binds K fd_is_whole ["value"] []
  f_is_below : Addr
  fd_is_below : FuncData
  F_is_below : Fun K "is_below" "is_below" st_is_below f_is_below fd_is_below
  g_is_below : mg "is_below" = some (.ref f_is_below)
  b_is_below : L2.Binds K fd_is_below ["value", "many"] []
  f_is_rising : Addr
  fd_is_rising : FuncData
  F_is_rising : Fun K "is_rising" "is_rising" st_is_rising f_is_rising fd_is_rising
  g_is_rising : mg "is_rising" = some (.ref f_is_rising)
  b_is_rising : L2.Binds K fd_is_rising ["value", "many"] []
  f_are_lots_in : Addr
  fd_are_lots_in : FuncData
  F_are_lots_in : Fun K "are_lots_in" "are_lots_in" st_are_lots_in f_are_lots_in fd_are_lots_in
  g_are_lots_in : mg "are_lots_in" = some (.ref f_are_lots_in)
  b_are_lots_in : L2.Binds K fd_are_lots_in ["value"] []
  f_require_lots : Addr
  fd_require_lots : FuncData
  F_require_lots : Fun K "require_lots" "require_lots" st_require_lots f_require_lots fd_require_lots
  g_require_lots : mg "require_lots" = some (.ref f_require_lots)
  b_require_lots : L2.Binds K fd_require_lots ["value"] []
  f_lot_of : Addr
  fd_lot_of : FuncData
  F_lot_of : Fun K "lot_of" "lot_of" st_lot_of f_lot_of fd_lot_of
  g_lot_of : mg "lot_of" = some (.ref f_lot_of)
  b_lot_of : L2.Binds K fd_lot_of ["mask"] []
  f_told_lots : Addr
  fd_told_lots : FuncData
  F_told_lots : Fun K "told_lots" "told_lots" st_told_lots f_told_lots fd_told_lots
  g_told_lots : mg "told_lots" = some (.ref f_told_lots)
  b_told_lots : L2.Binds K fd_told_lots ["masks"] []
  f_head_of : Addr
  fd_head_of : FuncData
  F_head_of : Fun K "head_of" "head_of" st_head_of f_head_of fd_head_of
  g_head_of : mg "head_of" = some (.ref f_head_of)
  b_head_of : L2.Binds K fd_head_of ["mask"] []
  f_told_form : Addr
  fd_told_form : FuncData
  F_told_form : Fun K "told_form" "told_form" st_told_form f_told_form fd_told_form
  g_told_form : mg "told_form" = some (.ref f_told_form)
  b_told_form : L2.Binds K fd_told_form ["masks"] []
  f_form_masks : Addr
  fd_form_masks : FuncData
  F_form_masks : Fun K "form_masks" "form_masks" st_form_masks f_form_masks fd_form_masks
  g_form_masks : mg "form_masks" = some (.ref f_form_masks)
  b_form_masks : L2.Binds K fd_form_masks ["masks"] []
  f_mask_of : Addr
  fd_mask_of : FuncData
  F_mask_of : Fun K "mask_of" "mask_of" st_mask_of f_mask_of fd_mask_of
  g_mask_of : mg "mask_of" = some (.ref f_mask_of)
  b_mask_of : L2.Binds K fd_mask_of ["lot"] []
  f_masks_of : Addr
  fd_masks_of : FuncData
  F_masks_of : Fun K "masks_of" "masks_of" st_masks_of f_masks_of fd_masks_of
  g_masks_of : mg "masks_of" = some (.ref f_masks_of)
  b_masks_of : L2.Binds K fd_masks_of ["lots"] []
  f_form_of : Addr
  fd_form_of : FuncData
  F_form_of : Fun K "form_of" "form_of" st_form_of f_form_of fd_form_of
  g_form_of : mg "form_of" = some (.ref f_form_of)
  b_form_of : L2.Binds K fd_form_of ["lots"] []
  f_require_many : Addr
  fd_require_many : FuncData
  F_require_many : Fun K "require_many" "require_many" st_require_many f_require_many fd_require_many
  g_require_many : mg "require_many" = some (.ref f_require_many)
  b_require_many : L2.Binds K fd_require_many ["value"] []
  f_opposite_masks : Addr
  fd_opposite_masks : FuncData
  F_opposite_masks : Fun K "opposite_masks" "opposite_masks" st_opposite_masks f_opposite_masks fd_opposite_masks
  g_opposite_masks : mg "opposite_masks" = some (.ref f_opposite_masks)
  b_opposite_masks : L2.Binds K fd_opposite_masks ["many", "form"] []
  f_opposite_form : Addr
  fd_opposite_form : FuncData
  F_opposite_form : Fun K "opposite_form" "opposite_form" st_opposite_form f_opposite_form fd_opposite_form
  g_opposite_form : mg "opposite_form" = some (.ref f_opposite_form)
  b_opposite_form : L2.Binds K fd_opposite_form ["many", "lots"] []
  f_sum_of_masks : Addr
  fd_sum_of_masks : FuncData
  F_sum_of_masks : Fun K "sum_of_masks" "sum_of_masks" st_sum_of_masks f_sum_of_masks fd_sum_of_masks
  g_sum_of_masks : mg "sum_of_masks" = some (.ref f_sum_of_masks)
  b_sum_of_masks : L2.Binds K fd_sum_of_masks ["masks", "pick"] []
  f_sum_of_pick : Addr
  fd_sum_of_pick : FuncData
  F_sum_of_pick : Fun K "sum_of_pick" "sum_of_pick" st_sum_of_pick f_sum_of_pick fd_sum_of_pick
  g_sum_of_pick : mg "sum_of_pick" = some (.ref f_sum_of_pick)
  b_sum_of_pick : L2.Binds K fd_sum_of_pick ["lots", "pick"] []
  f__law_roll : Addr
  fd__law_roll : FuncData
  F__law_roll : Fun K "_law_roll" "_law_roll" st__law_roll f__law_roll fd__law_roll
  g__law_roll : mg "_law_roll" = some (.ref f__law_roll)
  b__law_roll : L2.Binds K fd__law_roll ["dice", "most"] []
  f__law_pick : Addr
  fd__law_pick : FuncData
  F__law_pick : Fun K "_law_pick" "_law_pick" st__law_pick f__law_pick fd__law_pick
  g__law_pick : mg "_law_pick" = some (.ref f__law_pick)
  b__law_pick : L2.Binds K fd__law_pick ["dice", "items"] []
  f_is_lot_of : Addr
  fd_is_lot_of : FuncData
  F_is_lot_of : Fun K "is_lot_of" "is_lot_of" st_is_lot_of f_is_lot_of fd_is_lot_of
  g_is_lot_of : mg "is_lot_of" = some (.ref f_is_lot_of)
  b_is_lot_of : L2.Binds K fd_is_lot_of ["many", "value"] []
  f_require_lot : Addr
  fd_require_lot : FuncData
  F_require_lot : Fun K "require_lot" "require_lot" st_require_lot f_require_lot fd_require_lot
  g_require_lot : mg "require_lot" = some (.ref f_require_lot)
  b_require_lot : L2.Binds K fd_require_lot ["value"] []
  f_require_two : Addr
  fd_require_two : FuncData
  F_require_two : Fun K "require_two" "require_two" st_require_two f_require_two fd_require_two
  g_require_two : mg "require_two" = some (.ref f_require_two)
  b_require_two : L2.Binds K fd_require_two ["one", "other"] []
  f_lot_sum : Addr
  fd_lot_sum : FuncData
  F_lot_sum : Fun K "lot_sum" "lot_sum" st_lot_sum f_lot_sum fd_lot_sum
  g_lot_sum : mg "lot_sum" = some (.ref f_lot_sum)
  b_lot_sum : L2.Binds K fd_lot_sum ["one", "other"] []
  f_size_of : Addr
  fd_size_of : FuncData
  F_size_of : Fun K "size_of" "size_of" st_size_of f_size_of fd_size_of
  g_size_of : mg "size_of" = some (.ref f_size_of)
  b_size_of : L2.Binds K fd_size_of ["mask"] []
  f_is_odd : Addr
  fd_is_odd : FuncData
  F_is_odd : Fun K "is_odd" "is_odd" st_is_odd f_is_odd fd_is_odd
  g_is_odd : mg "is_odd" = some (.ref f_is_odd)
  b_is_odd : L2.Binds K fd_is_odd ["mask"] []
  f_does_meet_oddly : Addr
  fd_does_meet_oddly : FuncData
  F_does_meet_oddly : Fun K "does_meet_oddly" "does_meet_oddly" st_does_meet_oddly f_does_meet_oddly fd_does_meet_oddly
  g_does_meet_oddly : mg "does_meet_oddly" = some (.ref f_does_meet_oddly)
  b_does_meet_oddly : L2.Binds K fd_does_meet_oddly ["one", "other"] []
  f_common_masks : Addr
  fd_common_masks : FuncData
  F_common_masks : Fun K "common_masks" "common_masks" st_common_masks f_common_masks fd_common_masks
  g_common_masks : mg "common_masks" = some (.ref f_common_masks)
  b_common_masks : L2.Binds K fd_common_masks ["many", "form", "more"] []
  f_common_form : Addr
  fd_common_form : FuncData
  F_common_form : Fun K "common_form" "common_form" st_common_form f_common_form fd_common_form
  g_common_form : mg "common_form" = some (.ref f_common_form)
  b_common_form : L2.Binds K fd_common_form ["lots", "more"] []
  f_require_lots_and_lot : Addr
  fd_require_lots_and_lot : FuncData
  F_require_lots_and_lot : Fun K "require_lots_and_lot" "require_lots_and_lot" st_require_lots_and_lot f_require_lots_and_lot fd_require_lots_and_lot
  g_require_lots_and_lot : mg "require_lots_and_lot" = some (.ref f_require_lots_and_lot)
  b_require_lots_and_lot : L2.Binds K fd_require_lots_and_lot ["lots", "lot"] []
  f_reduced : Addr
  fd_reduced : FuncData
  F_reduced : Fun K "reduced" "reduced" st_reduced f_reduced fd_reduced
  g_reduced : mg "reduced" = some (.ref f_reduced)
  b_reduced : L2.Binds K fd_reduced ["mask", "form"] []
  f_is_sum_in : Addr
  fd_is_sum_in : FuncData
  F_is_sum_in : Fun K "is_sum_in" "is_sum_in" st_is_sum_in f_is_sum_in fd_is_sum_in
  g_is_sum_in : mg "is_sum_in" = some (.ref f_is_sum_in)
  b_is_sum_in : L2.Binds K fd_is_sum_in ["mask", "form"] []
  f_test_mask : Addr
  fd_test_mask : FuncData
  F_test_mask : Fun K "test_mask" "test_mask" st_test_mask f_test_mask fd_test_mask
  g_test_mask : mg "test_mask" = some (.ref f_test_mask)
  b_test_mask : L2.Binds K fd_test_mask ["mask", "form"] []
  f_sum_or_test : Addr
  fd_sum_or_test : FuncData
  F_sum_or_test : Fun K "sum_or_test" "sum_or_test" st_sum_or_test f_sum_or_test fd_sum_or_test
  g_sum_or_test : mg "sum_or_test" = some (.ref f_sum_or_test)
  b_sum_or_test : L2.Binds K fd_sum_or_test ["lots", "lot"] []
  f_is_told : Addr
  fd_is_told : FuncData
  F_is_told : Fun K "is_told" "is_told" st_is_told f_is_told fd_is_told
  g_is_told : mg "is_told" = some (.ref f_is_told)
  b_is_told : L2.Binds K fd_is_told ["value", "word", "many"] []
  f_is_sum_or_test : Addr
  fd_is_sum_or_test : FuncData
  F_is_sum_or_test : Fun K "is_sum_or_test" "is_sum_or_test" st_is_sum_or_test f_is_sum_or_test fd_is_sum_or_test
  g_is_sum_or_test : mg "is_sum_or_test" = some (.ref f_is_sum_or_test)
  b_is_sum_or_test : L2.Binds K fd_is_sum_or_test ["lots", "lot", "value"] []
  f_is_bit : Addr
  fd_is_bit : FuncData
  F_is_bit : Fun K "is_bit" "is_bit" st_is_bit f_is_bit fd_is_bit
  g_is_bit : mg "is_bit" = some (.ref f_is_bit)
  b_is_bit : L2.Binds K fd_is_bit ["value"] []
  f_require_bits : Addr
  fd_require_bits : FuncData
  F_require_bits : Fun K "require_bits" "require_bits" st_require_bits f_require_bits fd_require_bits
  g_require_bits : mg "require_bits" = some (.ref f_require_bits)
  b_require_bits : L2.Binds K fd_require_bits ["lots", "bits"] []
  f_met_by : Addr
  fd_met_by : FuncData
  F_met_by : Fun K "met_by" "met_by" st_met_by f_met_by fd_met_by
  g_met_by : mg "met_by" = some (.ref f_met_by)
  b_met_by : L2.Binds K fd_met_by ["masks", "bits"] []
  f_met_or_bar : Addr
  fd_met_or_bar : FuncData
  F_met_or_bar : Fun K "met_or_bar" "met_or_bar" st_met_or_bar f_met_or_bar fd_met_or_bar
  g_met_or_bar : mg "met_or_bar" = some (.ref f_met_or_bar)
  b_met_or_bar : L2.Binds K fd_met_or_bar ["lots", "bits"] []
  f_is_met_or_bar : Addr
  fd_is_met_or_bar : FuncData
  F_is_met_or_bar : Fun K "is_met_or_bar" "is_met_or_bar" st_is_met_or_bar f_is_met_or_bar fd_is_met_or_bar
  g_is_met_or_bar : mg "is_met_or_bar" = some (.ref f_is_met_or_bar)
  b_is_met_or_bar : L2.Binds K fd_is_met_or_bar ["lots", "bits", "value"] []
  f__law_right : Addr
  fd__law_right : FuncData
  F__law_right : Fun K "_law_right" "_law_right" st__law_right f__law_right fd__law_right
  g__law_right : mg "_law_right" = some (.ref f__law_right)
  b__law_right : L2.Binds K fd__law_right ["dice"] []
  f_law : Addr
  fd_law : FuncData
  F_law : Fun K "law" "law" st_law f_law fd_law
  g_law : mg "law" = some (.ref f_law)
  b_law : L2.Binds K fd_law ["script"] []
  z_abs : mg "abs" = none
  z_all : mg "all" = none
  z_any : mg "any" = none
  z_bool : mg "bool" = none
  z_enumerate : mg "enumerate" = none
  z_int : mg "int" = none
  z_isinstance : mg "isinstance" = none
  z_len : mg "len" = none
  z_max : mg "max" = none
  z_min : mg "min" = none
  z_range : mg "range" = none
  z_repr : mg "repr" = none
  z_sorted : mg "sorted" = none
  z_str : mg "str" = none
  z_sum : mg "sum" = none
  z_tuple : mg "tuple" = none
  z_zip : mg "zip" = none
  c_BAR : ∃ t, mg "BAR" = some (.str "bar" t)
  c_LOT : ∃ t, mg "LOT" = some (.str "lot" t)
  c_MOST_LINES : ∃ t, mg "MOST_LINES" = some (.int 24 t)
  c_MOST_LOTS : ∃ t, mg "MOST_LOTS" = some (.int 64 t)
  c_PAIR : ∃ t, mg "PAIR" = some (.int 2 t)
  c_SUM : ∃ t, mg "SUM" = some (.str "sum" t)
  c_TEST : ∃ t, mg "TEST" = some (.str "test" t)
  a_InvalidLot : Addr
  ga_InvalidLot : mg "InvalidLot" = some (.ref a_InvalidLot)
  e_InvalidLot : ErP K mg "InvalidLot"
  a_InvalidNumber : Addr
  ga_InvalidNumber : mg "InvalidNumber" = some (.ref a_InvalidNumber)
  i_InvalidNumber : Addr
  e_InvalidNumber : PX.ErC P K mg "InvalidNumber" "given" "IndexError" "IndexError.__new__" "IndexError.__init__" [.type "IndexError", .type "LookupError", .type "Exception", .type "BaseException", .type "object"] a_InvalidNumber i_InvalidNumber
  a_InvalidOperation : Addr
  ga_InvalidOperation : mg "InvalidOperation" = some (.ref a_InvalidOperation)
  e_InvalidOperation : ErP K mg "InvalidOperation"
  x_InvalidLot_InvalidLot : PySem.W.exmOne K (.ref a_InvalidLot) (.ref a_InvalidLot) = some true
  x_InvalidLot_InvalidNumber : PySem.W.exmOne K (.ref a_InvalidLot) (.ref a_InvalidNumber) = some false
  x_InvalidLot_InvalidOperation : PySem.W.exmOne K (.ref a_InvalidLot) (.ref a_InvalidOperation) = some false
  x_InvalidNumber_InvalidLot : PySem.W.exmOne K (.ref a_InvalidNumber) (.ref a_InvalidLot) = some false
  x_InvalidNumber_InvalidNumber : PySem.W.exmOne K (.ref a_InvalidNumber) (.ref a_InvalidNumber) = some true
  x_InvalidNumber_InvalidOperation : PySem.W.exmOne K (.ref a_InvalidNumber) (.ref a_InvalidOperation) = some false
  x_InvalidOperation_InvalidLot : PySem.W.exmOne K (.ref a_InvalidOperation) (.ref a_InvalidLot) = some false
  x_InvalidOperation_InvalidNumber : PySem.W.exmOne K (.ref a_InvalidOperation) (.ref a_InvalidNumber) = some false
  x_InvalidOperation_InvalidOperation : PySem.W.exmOne K (.ref a_InvalidOperation) (.ref a_InvalidOperation) = some true
  cc__law_right : Addr
  P__law_right : Addr
  cd__law_right : fd__law_right.code = .ref cc__law_right
  cc_law : Addr
  P_law : Addr
  cd_law : fd_law.code = .ref cc_law
  bl : ∀ (s : Shared) (v : Value), BindsTo s fd_law ⟨[v], []⟩ [("script", v)]
  nd : (([(P__law_right, ("_law_right" : Str) ++ ".<locals>." ++ "<lambda>"), (P_law, ("law" : Str) ++ ".<locals>." ++ "<lambda>")] : List (Addr × Str)).map (·.1)).Nodup
abbrev gc {P : Program} {K : PySem.W.Frag} {mg : Str → Option Value} (M : Md P K mg) : Gc := ⟨K, mg, [(M.P__law_right, ("_law_right" : Str) ++ ".<locals>." ++ "<lambda>"), (M.P_law, ("law" : Str) ++ ".<locals>." ++ "<lambda>")]⟩
structure Bd {P : Program} {K : PySem.W.Frag} {mg : Str → Option Value} (M : Md P K mg) (base : Heap) : Prop where
  t__law_right : LamX.TabB base mg M.cc__law_right M.P__law_right
  t_law : LamX.TabB base mg M.cc_law M.P_law
  ok : True
section
variable {P : Program} {w : World} {K : PySem.W.Frag} {mg : Str → Option Value} {base : Heap}
theorem ok__law_dice (M : Md P K mg) (B : Bd M base) : FnG P w K mg base (L2.CX P w) 1 M.f__law_dice M.fd__law_dice ["script", "spot"] (spD (gc M) true 2 f__law_dice) :=
  okF M.F__law_dice sc__law_dice (by decide) fun cdv A outer s H E H0 F0 hcv hr =>
  (rss_cons (rs_set sc__law_dice.nd rfl (by first | exact .inl rfl | exact .inr rfl) (re_if (rt_cmp op_lt oa_lt (pv 1) (re_cb call_lenX oa_len rfl M.z_len bt_len (ro_cons (pv 0) ro_nil)) (by first | exact nobehind _ (by decide) (by decide) | rfl)) (re_ct call_int1 oa_int rfl M.z_int bt_int (ro_cons (re_ixx rfl hr.units (pv 0) (pv 1) (fun _ _ => rfl) (fun _ _ => rfl)) ro_nil)) (re_op op_addX oa_add (re_op op_mulXX oa_mul re_int (pv 1)) re_int)))
  (rss_cons (rs_set sc__law_dice.nd rfl (by first | exact .inl rfl | exact .inr rfl) (re_op op_modN oa_mod (re_cb (call_max2 rfl) oa_max2 rfl M.z_max bt_max (ro_cons re_int (ro_cons (re_op op_sub oa_sub (re_cb call_abs oa_abs rfl M.z_abs bt_abs (ro_cons (pv 2) ro_nil)) (re_op op_pow oa_pow re_int re_int)) ro_nil))) (re_op op_mulXX oa_mul (re_op op_pow oa_pow re_int re_int) (re_op op_pow oa_pow re_int re_int))))
  (rss_one (rs_rtF (re_lst (ra_cons (re_var (pv 3)) (ra_cons (re_op op_addX oa_add (re_op op_addX oa_add (re_op op_addX oa_add (re_op op_mulXX oa_mul (re_op op_modN oa_mod (re_cb call_abs oa_abs rfl M.z_abs bt_abs (ro_cons (pv 2) ro_nil)) re_int) re_int) (re_op op_mulXX oa_mul re_int (pv 1))) (re_op op_mulXX oa_mul re_int (re_ct call_int1 oa_int rfl M.z_int bt_int (ro_cons (re_cmp op_lt oa_lt (pv 2) re_int (by first | exact nobehind _ (by decide) (by decide) | rfl)) ro_nil)))) re_int) (ra_cons re_int ra_nil))))))))
theorem given__law_met {X : Cx} {P : Program} {K : PySem.W.Frag} {mg : Str → Option Value} (M : Md P K mg) (h1 : X.prog = P) (h2 : X.K = K) (h3 : X.mg = mg) (cdv : Value) (q : Str) : Given X ["call", "error"] "_law_met" (defScope st__law_met) M.f__law_met cdv (defBody st__law_met) "call" q (TTm (gc M) hs__law_met dd__law_met) := by
  subst h1 h2 h3
  exact met_given (g := gc M) rfl (by decide) (by decide) (fun s H hr => ⟨_, (.bare rfl M.ga_InvalidLot rfl (can_cons M.ga_InvalidLot M.x_InvalidLot_InvalidLot (can_cons M.ga_InvalidNumber M.x_InvalidNumber_InvalidLot (can_cons M.ga_InvalidOperation M.x_InvalidOperation_InvalidLot can_nil))) (fun a oe cls d pn hz hf => su_ret (ru_tup ru_str ru_str))
    (.as rfl rfl (by decide) rfl M.ga_InvalidNumber rfl (can_cons M.ga_InvalidLot M.x_InvalidLot_InvalidNumber (can_cons M.ga_InvalidNumber M.x_InvalidNumber_InvalidNumber (can_cons M.ga_InvalidOperation M.x_InvalidOperation_InvalidNumber can_nil))) (fun a oe cls d pn hz hf => su_ret (ru_tup ru_str (ru_op op_addX oa_add ru_str (ru_cb (cr_repr hr.g hr.units) oa_repr rfl M.z_repr bt_repr (ru_fld ⟨M.e_InvalidNumber.ga, M.e_InvalidNumber.gg, M.e_InvalidNumber.exC, M.e_InvalidNumber.hdC⟩ M.e_InvalidNumber.noN M.ga_InvalidNumber hz hf (pv 1))))))
    (.bare rfl M.ga_InvalidOperation rfl (can_cons M.ga_InvalidLot M.x_InvalidLot_InvalidOperation (can_cons M.ga_InvalidNumber M.x_InvalidNumber_InvalidOperation (can_cons M.ga_InvalidOperation M.x_InvalidOperation_InvalidOperation can_nil))) (fun a oe cls d pn hz hf => su_ret (ru_tup ru_str ru_str))
    .nil)))⟩)
    (fun s H H0 F0 => by exact (re_tup (ra_cons re_str (ra_cons re_str ra_nil)))) rfl
theorem ok_is_whole (M : Md P K mg) (B : Bd M base) : FnG P w K mg base (L2.CX P w) 1 M.f_is_whole M.fd_is_whole ["value"] (spD (gc M) false 1 f_is_whole) :=
  okD M.F_is_whole sc_is_whole (by decide) fun cdv A outer s H E H0 F0 hcv hr =>
  (rss_one (rs_rt (re_and (re_isi rfl rfl M.z_isinstance bt_isinstance rfl M.z_int bt_int (re_var (pv 0))) (re_one (re_not (re_isi rfl rfl M.z_isinstance bt_isinstance rfl M.z_bool bt_bool (re_var (pv 0))))))))
theorem ok_is_below (M : Md P K mg) (B : Bd M base) : FnG P w K mg base (L2.CX P w) 2 M.f_is_below M.fd_is_below ["value", "many"] (spD (gc M) false 2 f_is_below) :=
  okD M.F_is_below sc_is_below (by decide) fun cdv A outer s H E H0 F0 hcv hr =>
  (rss_one (rs_rt (re_and (re_call (ok_is_whole M B) (hr.mono (by decide)) rfl M.g_is_whole M.F_is_whole.kp M.b_is_whole (takes_of rfl rfl rfl rfl) (ra_cons (re_var (pv 0)) ra_nil)) (re_one (re_chain op_le op_lt oa_le oa_lt re_int (re_var (pv 0)) (re_var (pv 1)))))))
theorem ok_is_rising (M : Md P K mg) (B : Bd M base) : FnG P w K mg base (L2.CX P w) 3 M.f_is_rising M.fd_is_rising ["value", "many"] (spD (gc M) false 2 f_is_rising) :=
  okD M.F_is_rising sc_is_rising (by decide) fun cdv A outer s H E H0 F0 hcv hr =>
  (rss_cons (rs_if (PW.pt (rw_or (rt_not (rt_val (re_isi rfl rfl M.z_isinstance bt_isinstance rfl M.z_tuple bt_tuple (re_var (pv 0))))) (rw_or1 (rt_not (rt_val (re_cb (cr_all rfl) oa_all rfl M.z_all bt_all (ro_cons (re_fz (re_lc rfl sc_is_rising.nd (blkOk_by (own := [("one", 2)]) (by kernel_rfl)) (by decide) (ri_any rfl (re_var (pv 0))) (fun _ _ _ _ _ => PGx fun _ => (rg_name sc_is_rising.nd rfl (by first | exact .inl rfl | exact .inr rfl))) (fun _ _ _ _ _ => PTx0) (fun _ _ _ _ _ => PEx fun _ => (re_call (ok_is_below M B) (hr.mono (by decide)) rfl M.g_is_below M.F_is_below.kp M.b_is_below tk0 (ra_cons (re_var (pv 2)) (ra_cons (re_var (pv 1)) ra_nil)))))) ro_nil))))))) (rss_one (rs_rt re_bl)) rss_nil)
  (rss_one (rs_rt (re_cb (cr_all rfl) oa_all rfl M.z_all bt_all (ro_cons (re_fz (re_lc rfl sc_is_rising.nd (blkOk_by (own := [("one", 2), ("other", 3)]) (by kernel_rfl)) (by decide) (ri_zip rfl rfl M.z_zip (re_var (pv 0)) (re_sl rfl (pv 0) (.some re_int) .none)) (fun _ _ _ _ _ => PGx fun _ => (rg_tup rfl rfl (rgs_cons (rg_name sc_is_rising.nd rfl (by first | exact .inl rfl | exact .inr rfl)) (rgs_cons (rg_name sc_is_rising.nd rfl (by first | exact .inl rfl | exact .inr rfl)) rgs_nil)))) (fun _ _ _ _ _ => PTx0) (fun _ _ _ _ _ => PEx fun _ => (re_cmp op_lt oa_lt (pv 2) (pv 3) (by first | exact nobehind _ (by decide) (by decide) | rfl))))) ro_nil)))))
theorem ok_are_lots_in (M : Md P K mg) (B : Bd M base) : FnG P w K mg base (L2.CX P w) 4 M.f_are_lots_in M.fd_are_lots_in ["value"] (spD (gc M) false 1 f_are_lots_in) :=
  okD M.F_are_lots_in sc_are_lots_in (by decide) fun cdv A outer s H E H0 F0 hcv hr =>
  (rss_one (rs_rt (re_and (re_isi rfl rfl M.z_isinstance bt_isinstance rfl M.z_tuple bt_tuple (re_var (pv 0))) (re_and (re_cmp op_le oa_le (re_cb call_lenX oa_len rfl M.z_len bt_len (ro_cons (pv 0) ro_nil)) (re_gint rfl M.c_MOST_LOTS) (by first | exact nobehind _ (by decide) (by decide) | rfl)) (re_one (re_cb (cr_all rfl) oa_all rfl M.z_all bt_all (ro_cons (re_fz (re_lc rfl sc_are_lots_in.nd (blkOk_by (own := [("lot", 1)]) (by kernel_rfl)) (by decide) (ri_any rfl (re_var (pv 0))) (fun _ _ _ _ _ => PGx fun _ => (rg_name sc_are_lots_in.nd rfl (by first | exact .inl rfl | exact .inr rfl))) (fun _ _ _ _ _ => PTx0) (fun _ _ _ _ _ => PEx fun _ => (re_call (ok_is_rising M B) (hr.mono (by decide)) rfl M.g_is_rising M.F_is_rising.kp M.b_is_rising tk0 (ra_cons (re_var (pv 1)) (ra_cons (re_gint rfl M.c_MOST_LINES) ra_nil)))))) ro_nil)))))))
theorem ok_require_lots (M : Md P K mg) (B : Bd M base) : FnG P w K mg base (L2.CX P w) 5 M.f_require_lots M.fd_require_lots ["value"] (spD (gc M) false 1 f_require_lots) :=
  okD M.F_require_lots sc_require_lots (by decide) fun cdv A outer s H E H0 F0 hcv hr =>
  (rss_one (rs_if (rt_not (rt_val (re_call (ok_are_lots_in M B) (hr.mono (by decide)) rfl M.g_are_lots_in M.F_are_lots_in.kp M.b_are_lots_in (takes_of rfl rfl rfl rfl) (ra_cons (re_var (pv 0)) ra_nil)))) (rss_one (rs_raise0 M.e_InvalidLot rfl (takes_of rfl rfl rfl rfl) rfl rfl)) rss_nil))
theorem ok_lot_of (M : Md P K mg) (B : Bd M base) : FnG P w K mg base (L2.CX P w) 1 M.f_lot_of M.fd_lot_of ["mask"] (spD (gc M) false 1 f_lot_of) :=
  okD M.F_lot_of sc_lot_of (by decide) fun cdv A outer s H E H0 F0 hcv hr =>
  (rss_cons (rs_par rfl sc_lot_of.nd rfl rfl (by decide) rfl rfl (re_lst ra_nil) (fun _ => (re_var (pv 0))))
  (rss_cons (rs_while (passes_of rfl) (rt_cmp (op_neD hr.units) oa_ne (pv 2) re_int (by first | exact nobehind _ (by decide) (by decide) | rfl)) (rss_cons (rs_set sc_lot_of.nd rfl (by first | exact .inl rfl | exact .inr rfl) (re_op op_and oa_and (pv 2) (re_un un_neg oa_neg (pv 2))))
  (rss_cons (rs_ex (re_append rfl (pv 1) (re_op op_sub oa_sub (re_bits (pv 3)) re_int)))
  (rss_one (rs_aug sc_lot_of.nd rfl (by first | exact .inl rfl | exact .inr rfl) iop_xor oa_xor (re_var (pv 3)))))))
  (rss_one (rs_rt (re_ct call_tuple_of oa_tuple rfl M.z_tuple bt_tuple (ro_cons (pv 1) ro_nil))))))
theorem ok_told_lots (M : Md P K mg) (B : Bd M base) : FnG P w K mg base (L2.CX P w) 2 M.f_told_lots M.fd_told_lots ["masks"] (spD (gc M) false 1 f_told_lots) :=
  okD M.F_told_lots sc_told_lots (by decide) fun cdv A outer s H E H0 F0 hcv hr =>
  (rss_one (rs_rt (re_ct call_tuple_of oa_tuple rfl M.z_tuple bt_tuple (ro_cons (re_fz (re_lc rfl sc_told_lots.nd (blkOk_by (own := [("mask", 1)]) (by kernel_rfl)) (by decide) (ri_any rfl (re_var (pv 0))) (fun _ _ _ _ _ => PGx fun _ => (rg_name sc_told_lots.nd rfl (by first | exact .inl rfl | exact .inr rfl))) (fun _ _ _ _ _ => PTx0) (fun _ _ _ _ _ => PEx fun _ => (re_call (ok_lot_of M B) (hr.mono (by decide)) rfl M.g_lot_of M.F_lot_of.kp M.b_lot_of tk0 (ra_cons (re_var (pv 1)) ra_nil))))) ro_nil))))
theorem ok_head_of (M : Md P K mg) (B : Bd M base) : FnG P w K mg base (L2.CX P w) 1 M.f_head_of M.fd_head_of ["mask"] (spD (gc M) false 1 f_head_of) :=
  okD M.F_head_of sc_head_of (by decide) fun cdv A outer s H E H0 F0 hcv hr =>
  (rss_one (rs_rt (re_op op_and oa_and (pv 0) (re_un un_neg oa_neg (pv 0)))))
theorem ok_told_form (M : Md P K mg) (B : Bd M base) : FnG P w K mg base (L2.CX P w) 2 M.f_told_form M.fd_told_form ["masks"] (spD (gc M) false 1 f_told_form) :=
  okD M.F_told_form sc_told_form (by decide) fun cdv A outer s H E H0 F0 hcv hr =>
  (rss_cons (rs_mul rfl rfl (rok_cons (fun _ => re_dnew) (rok_cons (fun _ => (re_lst ra_nil)) rok_nil)) (rgn_cons sc_told_form.nd rfl (by first | exact .inl rfl | exact .inr rfl) (rgn_cons sc_told_form.nd rfl (by first | exact .inl rfl | exact .inr rfl) rgn_nil)))
  (rss_cons (rs_for (passes_of rfl) rfl (ri_enum rfl rfl M.z_enumerate (re_var (pv 0))) (rg_tup rfl rfl (rgs_cons (rg_name sc_told_form.nd rfl (by first | exact .inl rfl | exact .inr rfl)) (rgs_cons (rg_name sc_told_form.nd rfl (by first | exact .inl rfl | exact .inr rfl)) rgs_nil))) (rss_cons (rs_par rfl sc_told_form.nd rfl rfl (by decide) rfl rfl (re_var (pv 4)) (fun _ => (re_op op_shl oa_shl re_int (pv 3))))
  (rss_cons (rs_for (passes_of rfl) rfl (ri_any rfl (re_fz (re_cbF (cr_sortedY rfl hr.units) of_sortedY rfl M.z_sorted bt_sorted (ro_cons (pv 1) ro_nil)))) (rg_name sc_told_form.nd rfl (by first | exact .inl rfl | exact .inr rfl)) (rss_one (rs_if (rt_cmp (op_neD hr.units) oa_ne (re_op op_and oa_and (pv 5) (pv 7)) re_int (by first | exact nobehind _ (by decide) (by decide) | rfl)) (rss_one (rs_par rfl sc_told_form.nd rfl rfl (by decide) rfl rfl (re_op op_xor oa_xor (pv 5) (re_ixx rfl hr.units (re_ixx rfl hr.units (pv 1) (pv 7) (fun _ _ => rfl) (fun _ _ => rfl)) re_int (fun _ _ => rfl) (fun _ _ => rfl))) (fun _ => (re_op op_xor oa_xor (pv 6) (re_ixx rfl hr.units (re_ixx rfl hr.units (pv 1) (pv 7) (fun _ _ => rfl) (fun _ _ => rfl)) re_int (fun _ _ => rfl) (fun _ _ => rfl)))))) rss_nil)))
  (rss_cons (rs_if (rt_cmp (op_eqD hr.units) oa_eq (pv 5) re_int (by first | exact nobehind _ (by decide) (by decide) | rfl)) (rss_cons (rs_ex (re_append rfl (pv 2) (re_var (pv 6))))
  (rss_one rs_ct)) rss_nil)
  (rss_cons (rs_set sc_told_form.nd rfl (by first | exact .inl rfl | exact .inr rfl) (re_call (ok_head_of M B) (hr.mono (by decide)) rfl M.g_head_of M.F_head_of.kp M.b_head_of (takes_of rfl rfl rfl rfl) (ra_cons (re_var (pv 5)) ra_nil)))
  (rss_cons (rs_for (passes_of rfl) rfl (ri_any rfl (re_fz (re_cbF (cr_sortedY rfl hr.units) of_sortedY rfl M.z_sorted bt_sorted (ro_cons (pv 1) ro_nil)))) (rg_name sc_told_form.nd rfl (by first | exact .inl rfl | exact .inr rfl)) (rss_one (rs_if (rt_cmp (op_neD hr.units) oa_ne (re_op op_and oa_and (re_ixx rfl hr.units (re_ixx rfl hr.units (pv 1) (pv 7) (fun _ _ => rfl) (fun _ _ => rfl)) re_int (fun _ _ => rfl) (fun _ _ => rfl)) (pv 8)) re_int (by first | exact nobehind _ (by decide) (by decide) | rfl)) (rss_one (rs_sub hr.units (pv 1) (re_var (pv 7)) (re_tup (ra_cons (re_op op_xor oa_xor (re_ixx rfl hr.units (re_ixx rfl hr.units (pv 1) (pv 7) (fun _ _ => rfl) (fun _ _ => rfl)) re_int (fun _ _ => rfl) (fun _ _ => rfl)) (pv 5)) (ra_cons (re_op op_xor oa_xor (re_ixx rfl hr.units (re_ixx rfl hr.units (pv 1) (pv 7) (fun _ _ => rfl) (fun _ _ => rfl)) re_int (fun _ _ => rfl) (fun _ _ => rfl)) (pv 6)) ra_nil))))) rss_nil)))
  (rss_one (rs_sub hr.units (pv 1) (re_var (pv 8)) (re_tup (ra_cons (re_var (pv 5)) (ra_cons (re_var (pv 6)) ra_nil)))))))))))
  (rss_cons (rs_set sc_told_form.nd rfl (by first | exact .inl rfl | exact .inr rfl) (re_fz (re_cbF (cr_sortedY rfl hr.units) of_sortedY rfl M.z_sorted bt_sorted (ro_cons (pv 1) ro_nil))))
  (rss_fz (rss_one (rs_rt (re_tup (ra_cons (re_fz (re_lc rfl sc_told_form.nd (blkOk_by (own := [("head", 7)]) (by kernel_rfl)) (by decide) (ri_any rfl (re_var (pv 9))) (fun _ _ _ _ _ => PGx fun _ => (rg_name sc_told_form.nd rfl (by first | exact .inl rfl | exact .inr rfl))) (fun _ _ _ _ _ => PTx0) (fun _ _ _ _ _ => PEx fun _ => (re_ixx rfl hr.units (re_ixx rfl hr.units (pv 1) (pv 7) (fun _ _ => rfl) (fun _ _ => rfl)) re_int (fun _ _ => rfl) (fun _ _ => rfl))))) (ra_cons (re_fz (re_lc rfl sc_told_form.nd (blkOk_by (own := [("head", 7)]) (by kernel_rfl)) (by decide) (ri_any rfl (re_var (pv 9))) (fun _ _ _ _ _ => PGx fun _ => (rg_name sc_told_form.nd rfl (by first | exact .inl rfl | exact .inr rfl))) (fun _ _ _ _ _ => PTx0) (fun _ _ _ _ _ => PEx fun _ => (re_ixx rfl hr.units (re_ixx rfl hr.units (pv 1) (pv 7) (fun _ _ => rfl) (fun _ _ => rfl)) re_int (fun _ _ => rfl) (fun _ _ => rfl))))) (ra_cons (re_var (pv 2)) ra_nil))))))))))
theorem ok_form_masks (M : Md P K mg) (B : Bd M base) : FnG P w K mg base (L2.CX P w) 3 M.f_form_masks M.fd_form_masks ["masks"] (spD (gc M) false 1 f_form_masks) :=
  okD M.F_form_masks sc_form_masks (by decide) fun cdv A outer s H E H0 F0 hcv hr =>
  (rss_one (rs_rt (re_ixx rfl hr.units (re_call (ok_told_form M B) (hr.mono (by decide)) rfl M.g_told_form M.F_told_form.kp M.b_told_form (takes_of rfl rfl rfl rfl) (ra_cons (re_var (pv 0)) ra_nil)) re_int (fun _ _ => rfl) (fun _ _ => rfl))))
theorem ok_mask_of (M : Md P K mg) (B : Bd M base) : FnG P w K mg base (L2.CX P w) 1 M.f_mask_of M.fd_mask_of ["lot"] (spD (gc M) false 1 f_mask_of) :=
  okD M.F_mask_of sc_mask_of (by decide) fun cdv A outer s H E H0 F0 hcv hr =>
  (rss_one (rs_rt (re_cb (cr_sum rfl) oa_sum rfl M.z_sum bt_sum (ro_cons (re_fz (re_lc rfl sc_mask_of.nd (blkOk_by (own := [("line", 1)]) (by kernel_rfl)) (by decide) (ri_any rfl (re_var (pv 0))) (fun _ _ _ _ _ => PGx fun _ => (rg_name sc_mask_of.nd rfl (by first | exact .inl rfl | exact .inr rfl))) (fun _ _ _ _ _ => PTx0) (fun _ _ _ _ _ => PEx fun _ => (re_op op_shl oa_shl re_int (pv 1))))) ro_nil))))
theorem ok_masks_of (M : Md P K mg) (B : Bd M base) : FnG P w K mg base (L2.CX P w) 2 M.f_masks_of M.fd_masks_of ["lots"] (spD (gc M) false 1 f_masks_of) :=
  okD M.F_masks_of sc_masks_of (by decide) fun cdv A outer s H E H0 F0 hcv hr =>
  (rss_one (rs_rt (re_fz (re_lc rfl sc_masks_of.nd (blkOk_by (own := [("lot", 1)]) (by kernel_rfl)) (by decide) (ri_any rfl (re_var (pv 0))) (fun _ _ _ _ _ => PGx fun _ => (rg_name sc_masks_of.nd rfl (by first | exact .inl rfl | exact .inr rfl))) (fun _ _ _ _ _ => PTx0) (fun _ _ _ _ _ => PEx fun _ => (re_call (ok_mask_of M B) (hr.mono (by decide)) rfl M.g_mask_of M.F_mask_of.kp M.b_mask_of tk0 (ra_cons (re_var (pv 1)) ra_nil)))))))
theorem ok_form_of (M : Md P K mg) (B : Bd M base) : FnG P w K mg base (L2.CX P w) 6 M.f_form_of M.fd_form_of ["lots"] (spD (gc M) false 1 f_form_of) :=
  okD M.F_form_of sc_form_of (by decide) fun cdv A outer s H E H0 F0 hcv hr =>
  (rss_cons (rs_ex (re_call (ok_require_lots M B) (hr.mono (by decide)) rfl M.g_require_lots M.F_require_lots.kp M.b_require_lots (takes_of rfl rfl rfl rfl) (ra_cons (re_var (pv 0)) ra_nil)))
  (rss_one (rs_rt (re_call (ok_told_lots M B) (hr.mono (by decide)) rfl M.g_told_lots M.F_told_lots.kp M.b_told_lots (takes_of rfl rfl rfl rfl) (ra_cons (re_call (ok_form_masks M B) (hr.mono (by decide)) rfl M.g_form_masks M.F_form_masks.kp M.b_form_masks (takes_of rfl rfl rfl rfl) (ra_cons (re_call (ok_masks_of M B) (hr.mono (by decide)) rfl M.g_masks_of M.F_masks_of.kp M.b_masks_of (takes_of rfl rfl rfl rfl) (ra_cons (re_var (pv 0)) ra_nil)) ra_nil)) ra_nil)))))
theorem ok_require_many (M : Md P K mg) (B : Bd M base) : FnG P w K mg base (L2.CX P w) 2 M.f_require_many M.fd_require_many ["value"] (spD (gc M) false 1 f_require_many) :=
  okD M.F_require_many sc_require_many (by decide) fun cdv A outer s H E H0 F0 hcv hr =>
  (rss_one (rs_if (PW.pt (rw_or (rt_not (rt_val (re_call (ok_is_whole M B) (hr.mono (by decide)) rfl M.g_is_whole M.F_is_whole.kp M.b_is_whole (takes_of rfl rfl rfl rfl) (ra_cons (re_var (pv 0)) ra_nil)))) (rw_or1 (rt_not (rt_chain op_le op_le oa_le oa_le re_int (re_var (pv 0)) (re_gint rfl M.c_MOST_LINES)))))) (rss_one (rs_raise1 M.e_InvalidNumber hr rfl (takes_of rfl rfl rfl rfl) rfl (re_var (pv 0)) rfl)) rss_nil))
theorem ok_opposite_masks (M : Md P K mg) (B : Bd M base) : FnG P w K mg base (L2.CX P w) 4 M.f_opposite_masks M.fd_opposite_masks ["many", "form"] (spD (gc M) false 2 f_opposite_masks) :=
  okD M.F_opposite_masks sc_opposite_masks (by decide) fun cdv A outer s H E H0 F0 hcv hr =>
  (rss_cons (rs_set sc_opposite_masks.nd rfl (by first | exact .inl rfl | exact .inr rfl) (re_cb (cr_sum rfl) oa_sum rfl M.z_sum bt_sum (ro_cons (re_fz (re_lc rfl sc_opposite_masks.nd (blkOk_by (own := [("one", 6)]) (by kernel_rfl)) (by decide) (ri_any rfl (re_var (pv 1))) (fun _ _ _ _ _ => PGx fun _ => (rg_name sc_opposite_masks.nd rfl (by first | exact .inl rfl | exact .inr rfl))) (fun _ _ _ _ _ => PTx0) (fun _ _ _ _ _ => PEx fun _ => (re_call (ok_head_of M B) (hr.mono (by decide)) rfl M.g_head_of M.F_head_of.kp M.b_head_of tk0 (ra_cons (re_var (pv 6)) ra_nil))))) ro_nil)))
  (rss_cons (rs_setO sc_opposite_masks.nd rfl (by first | exact .inl rfl | exact .inr rfl) (re_lst ra_nil))
  (rss_cons (rs_for (passes_of rfl) rfl (ri_range1 rfl M.z_range (re_var (pv 0))) (rg_name sc_opposite_masks.nd rfl (by first | exact .inl rfl | exact .inr rfl)) (rss_cons (rs_set sc_opposite_masks.nd rfl (by first | exact .inl rfl | exact .inr rfl) (re_op op_shl oa_shl re_int (pv 4)))
  (rss_one (rs_if (rt_cmp (op_eqD hr.units) oa_eq (re_op op_and oa_and (pv 2) (pv 5)) re_int (by first | exact nobehind _ (by decide) (by decide) | rfl)) (rss_one (rs_ex (re_append rfl (pv 3) (re_op op_or oa_or (pv 5) (re_cb (cr_sum rfl) oa_sum rfl M.z_sum bt_sum (ro_cons (re_fz (re_lc rfl sc_opposite_masks.nd (blkOk_by (own := [("one", 6)]) (by kernel_rfl)) (by decide) (ri_any rfl (re_var (pv 1))) (fun _ _ _ _ _ => PGx fun _ => (rg_name sc_opposite_masks.nd rfl (by first | exact .inl rfl | exact .inr rfl))) (fun _ _ _ _ _ => PTx1 fun _ => (rt_cmp (op_neD hr.units) oa_ne (re_op op_and oa_and (pv 6) (pv 5)) re_int (by first | exact nobehind _ (by decide) (by decide) | rfl))) (fun _ _ _ _ _ => PEx fun _ => (re_call (ok_head_of M B) (hr.mono (by decide)) rfl M.g_head_of M.F_head_of.kp M.b_head_of tk0 (ra_cons (re_var (pv 6)) ra_nil))))) ro_nil)))))) rss_nil))))
  (rss_fz (rss_one (rs_rt (re_call (ok_form_masks M B) (hr.mono (by decide)) rfl M.g_form_masks M.F_form_masks.kp M.b_form_masks (takes_of rfl rfl rfl rfl) (ra_cons (re_var (pv 3)) ra_nil))))))))
theorem ok_opposite_form (M : Md P K mg) (B : Bd M base) : FnG P w K mg base (L2.CX P w) 6 M.f_opposite_form M.fd_opposite_form ["many", "lots"] (spD (gc M) false 2 f_opposite_form) :=
  okD M.F_opposite_form sc_opposite_form (by decide) fun cdv A outer s H E H0 F0 hcv hr =>
  (rss_cons (rs_ex (re_call (ok_require_many M B) (hr.mono (by decide)) rfl M.g_require_many M.F_require_many.kp M.b_require_many (takes_of rfl rfl rfl rfl) (ra_cons (re_var (pv 0)) ra_nil)))
  (rss_cons (rs_ex (re_call (ok_require_lots M B) (hr.mono (by decide)) rfl M.g_require_lots M.F_require_lots.kp M.b_require_lots (takes_of rfl rfl rfl rfl) (ra_cons (re_var (pv 1)) ra_nil)))
  (rss_cons (rs_if (rt_not (rt_val (re_cb (cr_all rfl) oa_all rfl M.z_all bt_all (ro_cons (re_fz (re_lc rfl sc_opposite_form.nd (blkOk_by (own := [("lot", 2)]) (by kernel_rfl)) (by decide) (ri_any rfl (re_var (pv 1))) (fun _ _ _ _ _ => PGx fun _ => (rg_name sc_opposite_form.nd rfl (by first | exact .inl rfl | exact .inr rfl))) (fun _ _ _ _ _ => PTx0) (fun _ _ _ _ _ => PEx fun _ => (re_call (ok_is_rising M B) (hr.mono (by decide)) rfl M.g_is_rising M.F_is_rising.kp M.b_is_rising tk0 (ra_cons (re_var (pv 2)) (ra_cons (re_var (pv 0)) ra_nil)))))) ro_nil)))) (rss_one (rs_raise0 M.e_InvalidOperation rfl (takes_of rfl rfl rfl rfl) rfl rfl)) rss_nil)
  (rss_one (rs_rt (re_call (ok_told_lots M B) (hr.mono (by decide)) rfl M.g_told_lots M.F_told_lots.kp M.b_told_lots (takes_of rfl rfl rfl rfl) (ra_cons (re_call (ok_opposite_masks M B) (hr.mono (by decide)) rfl M.g_opposite_masks M.F_opposite_masks.kp M.b_opposite_masks (takes_of rfl rfl rfl rfl) (ra_cons (re_var (pv 0)) (ra_cons (re_call (ok_form_masks M B) (hr.mono (by decide)) rfl M.g_form_masks M.F_form_masks.kp M.b_form_masks (takes_of rfl rfl rfl rfl) (ra_cons (re_call (ok_masks_of M B) (hr.mono (by decide)) rfl M.g_masks_of M.F_masks_of.kp M.b_masks_of (takes_of rfl rfl rfl rfl) (ra_cons (re_var (pv 1)) ra_nil)) ra_nil)) ra_nil))) ra_nil)))))))
theorem ok_sum_of_masks (M : Md P K mg) (B : Bd M base) : FnG P w K mg base (L2.CX P w) 1 M.f_sum_of_masks M.fd_sum_of_masks ["masks", "pick"] (spD (gc M) false 2 f_sum_of_masks) :=
  okD M.F_sum_of_masks sc_sum_of_masks (by decide) fun cdv A outer s H E H0 F0 hcv hr =>
  (rss_cons (rs_set sc_sum_of_masks.nd rfl (by first | exact .inl rfl | exact .inr rfl) re_int)
  (rss_cons (rs_for (passes_of rfl) rfl (ri_any rfl (re_var (pv 1))) (rg_name sc_sum_of_masks.nd rfl (by first | exact .inl rfl | exact .inr rfl)) (rss_one (rs_aug sc_sum_of_masks.nd rfl (by first | exact .inl rfl | exact .inr rfl) iop_xor oa_xor (re_ixx rfl hr.units (pv 0) (pv 3) (fun _ _ => rfl) (fun _ _ => rfl)))))
  (rss_one (rs_rt (re_var (pv 2))))))
theorem ok_sum_of_pick (M : Md P K mg) (B : Bd M base) : FnG P w K mg base (L2.CX P w) 6 M.f_sum_of_pick M.fd_sum_of_pick ["lots", "pick"] (spD (gc M) false 2 f_sum_of_pick) :=
  okD M.F_sum_of_pick sc_sum_of_pick (by decide) fun cdv A outer s H E H0 F0 hcv hr =>
  (rss_cons (rs_ex (re_call (ok_require_lots M B) (hr.mono (by decide)) rfl M.g_require_lots M.F_require_lots.kp M.b_require_lots (takes_of rfl rfl rfl rfl) (ra_cons (re_var (pv 0)) ra_nil)))
  (rss_cons (rs_if (rt_not (rt_val (re_call (ok_is_rising M B) (hr.mono (by decide)) rfl M.g_is_rising M.F_is_rising.kp M.b_is_rising (takes_of rfl rfl rfl rfl) (ra_cons (re_var (pv 1)) (ra_cons (re_cb call_lenX oa_len rfl M.z_len bt_len (ro_cons (pv 0) ro_nil)) ra_nil))))) (rss_one (rs_raise0 M.e_InvalidOperation rfl (takes_of rfl rfl rfl rfl) rfl rfl)) rss_nil)
  (rss_one (rs_rt (re_call (ok_lot_of M B) (hr.mono (by decide)) rfl M.g_lot_of M.F_lot_of.kp M.b_lot_of (takes_of rfl rfl rfl rfl) (ra_cons (re_call (ok_sum_of_masks M B) (hr.mono (by decide)) rfl M.g_sum_of_masks M.F_sum_of_masks.kp M.b_sum_of_masks (takes_of rfl rfl rfl rfl) (ra_cons (re_call (ok_masks_of M B) (hr.mono (by decide)) rfl M.g_masks_of M.F_masks_of.kp M.b_masks_of (takes_of rfl rfl rfl rfl) (ra_cons (re_var (pv 0)) ra_nil)) (ra_cons (re_var (pv 1)) ra_nil))) ra_nil))))))
theorem ok__law_roll (M : Md P K mg) (B : Bd M base) : FnG P w K mg base (L2.CX P w) 1 M.f__law_roll M.fd__law_roll ["dice", "most"] (spR (gc M) false 1 f__law_roll) :=
  okR M.F__law_roll sc__law_roll rfl (by decide) fun cdv A outer s H E ra H0 F0 hcv hr =>
  (rss_cons (rs_if (rt_cmp op_gt oa_gt (re_ixx rfl hr.units (pv 0) re_int (fun _ _ => rfl) (fun _ _ => rfl)) re_int (by first | exact nobehind _ (by decide) (by decide) | rfl)) (rss_cons (rs_set sc__law_roll.nd rfl (by first | exact .inl rfl | exact .inr rfl) (re_op op_modN oa_mod (re_ct call_int1 oa_int rfl M.z_int bt_int (ro_cons (re_ixx rfl hr.units (pv 0) re_int (fun _ _ => rfl) (fun _ _ => rfl)) ro_nil)) (pv 1)))
  (rss_cons (rs_sub hr.units (pv 0) re_int (re_op op_fdivW oa_fdiv (re_ixx rfl hr.units (pv 0) re_int (fun _ _ => rfl) (fun _ _ => rfl)) (pv 1)))
  (rss_one (rs_rt (re_var (pv 2)))))) rss_nil)
  (rss_cons (rs_sub hr.units (pv 0) re_int (re_op op_addX oa_add (re_ixx rfl hr.units (pv 0) re_int (fun _ _ => rfl) (fun _ _ => rfl)) re_int))
  (rss_cons (rs_set sc__law_roll.nd rfl (by first | exact .inl rfl | exact .inr rfl) (re_op op_modN oa_mod (re_ct call_int1 oa_int rfl M.z_int bt_int (ro_cons (re_op op_addX oa_add (re_ixx rfl hr.units (pv 0) re_int (fun _ _ => rfl) (fun _ _ => rfl)) (re_op op_mulXX oa_mul re_int (re_ixx rfl hr.units (pv 0) re_int (fun _ _ => rfl) (fun _ _ => rfl)))) ro_nil)) re_int))
  (rss_cons (rs_set sc__law_roll.nd rfl (by first | exact .inl rfl | exact .inr rfl) (re_op op_addX oa_add (re_op op_mulXX oa_mul (re_op op_modN oa_mod (re_ct call_int1 oa_int rfl M.z_int bt_int (ro_cons (re_op op_addX oa_add (re_op op_mulXX oa_mul (pv 3) (pv 3)) (re_op op_mulXX oa_mul re_int (re_ixx rfl hr.units (pv 0) re_int (fun _ _ => rfl) (fun _ _ => rfl)))) ro_nil)) re_int) re_int) (pv 3)))
  (rss_one (rs_rt (re_op op_modN oa_mod (re_ct call_int1 oa_int rfl M.z_int bt_int (ro_cons (re_op op_fdivW oa_fdiv (pv 4) re_int) ro_nil)) (pv 1))))))))
theorem ok__law_pick (M : Md P K mg) (B : Bd M base) : FnG P w K mg base (L2.CX P w) 2 M.f__law_pick M.fd__law_pick ["dice", "items"] (spR (gc M) false 1 f__law_pick) :=
  okR M.F__law_pick sc__law_pick rfl (by decide) fun cdv A outer s H E ra H0 F0 hcv hr =>
  (rss_one (rs_rt (re_ixx rfl hr.units (pv 1) (re_callR (ok__law_roll M B) (hr.mono (by decide)) rfl M.g__law_roll M.F__law_roll.kp M.b__law_roll (takes_of rfl rfl rfl rfl) (pv 0) (ra_cons (re_cb call_lenX oa_len rfl M.z_len bt_len (ro_cons (pv 1) ro_nil)) ra_nil)) (fun _ _ => rfl) (fun _ _ => rfl))))
theorem ok_is_lot_of (M : Md P K mg) (B : Bd M base) : FnG P w K mg base (L2.CX P w) 4 M.f_is_lot_of M.fd_is_lot_of ["many", "value"] (spD (gc M) false 2 f_is_lot_of) :=
  okD M.F_is_lot_of sc_is_lot_of (by decide) fun cdv A outer s H E H0 F0 hcv hr =>
  (rss_cons (rs_ex (re_call (ok_require_many M B) (hr.mono (by decide)) rfl M.g_require_many M.F_require_many.kp M.b_require_many (takes_of rfl rfl rfl rfl) (ra_cons (re_var (pv 0)) ra_nil)))
  (rss_one (rs_rt (re_call (ok_is_rising M B) (hr.mono (by decide)) rfl M.g_is_rising M.F_is_rising.kp M.b_is_rising (takes_of rfl rfl rfl rfl) (ra_cons (re_var (pv 1)) (ra_cons (re_var (pv 0)) ra_nil))))))
theorem ok_require_lot (M : Md P K mg) (B : Bd M base) : FnG P w K mg base (L2.CX P w) 4 M.f_require_lot M.fd_require_lot ["value"] (spD (gc M) false 1 f_require_lot) :=
  okD M.F_require_lot sc_require_lot (by decide) fun cdv A outer s H E H0 F0 hcv hr =>
  (rss_one (rs_if (rt_not (rt_val (re_call (ok_is_rising M B) (hr.mono (by decide)) rfl M.g_is_rising M.F_is_rising.kp M.b_is_rising (takes_of rfl rfl rfl rfl) (ra_cons (re_var (pv 0)) (ra_cons (re_gint rfl M.c_MOST_LINES) ra_nil))))) (rss_one (rs_raise0 M.e_InvalidLot rfl (takes_of rfl rfl rfl rfl) rfl rfl)) rss_nil))
theorem ok_require_two (M : Md P K mg) (B : Bd M base) : FnG P w K mg base (L2.CX P w) 5 M.f_require_two M.fd_require_two ["one", "other"] (spD (gc M) false 2 f_require_two) :=
  okD M.F_require_two sc_require_two (by decide) fun cdv A outer s H E H0 F0 hcv hr =>
  (rss_cons (rs_ex (re_call (ok_require_lot M B) (hr.mono (by decide)) rfl M.g_require_lot M.F_require_lot.kp M.b_require_lot (takes_of rfl rfl rfl rfl) (ra_cons (re_var (pv 0)) ra_nil)))
  (rss_one (rs_ex (re_call (ok_require_lot M B) (hr.mono (by decide)) rfl M.g_require_lot M.F_require_lot.kp M.b_require_lot (takes_of rfl rfl rfl rfl) (ra_cons (re_var (pv 1)) ra_nil)))))
theorem ok_lot_sum (M : Md P K mg) (B : Bd M base) : FnG P w K mg base (L2.CX P w) 6 M.f_lot_sum M.fd_lot_sum ["one", "other"] (spD (gc M) false 2 f_lot_sum) :=
  okD M.F_lot_sum sc_lot_sum (by decide) fun cdv A outer s H E H0 F0 hcv hr =>
  (rss_cons (rs_ex (re_call (ok_require_two M B) (hr.mono (by decide)) rfl M.g_require_two M.F_require_two.kp M.b_require_two (takes_of rfl rfl rfl rfl) (ra_cons (re_var (pv 0)) (ra_cons (re_var (pv 1)) ra_nil))))
  (rss_one (rs_rt (re_call (ok_lot_of M B) (hr.mono (by decide)) rfl M.g_lot_of M.F_lot_of.kp M.b_lot_of (takes_of rfl rfl rfl rfl) (ra_cons (re_op op_xor oa_xor (re_call (ok_mask_of M B) (hr.mono (by decide)) rfl M.g_mask_of M.F_mask_of.kp M.b_mask_of (takes_of rfl rfl rfl rfl) (ra_cons (re_var (pv 0)) ra_nil)) (re_call (ok_mask_of M B) (hr.mono (by decide)) rfl M.g_mask_of M.F_mask_of.kp M.b_mask_of (takes_of rfl rfl rfl rfl) (ra_cons (re_var (pv 1)) ra_nil))) ra_nil)))))
theorem ok_size_of (M : Md P K mg) (B : Bd M base) : FnG P w K mg base (L2.CX P w) 2 M.f_size_of M.fd_size_of ["mask"] (spD (gc M) false 1 f_size_of) :=
  okD M.F_size_of sc_size_of (by decide) fun cdv A outer s H E H0 F0 hcv hr =>
  (rss_one (rs_rt (re_cb call_lenX oa_len rfl M.z_len bt_len (ro_cons (re_call (ok_lot_of M B) (hr.mono (by decide)) rfl M.g_lot_of M.F_lot_of.kp M.b_lot_of (takes_of rfl rfl rfl rfl) (ra_cons (re_var (pv 0)) ra_nil)) ro_nil))))
theorem ok_is_odd (M : Md P K mg) (B : Bd M base) : FnG P w K mg base (L2.CX P w) 3 M.f_is_odd M.fd_is_odd ["mask"] (spD (gc M) false 1 f_is_odd) :=
  okD M.F_is_odd sc_is_odd (by decide) fun cdv A outer s H E H0 F0 hcv hr =>
  (rss_one (rs_rt (re_cmp (op_eqD hr.units) oa_eq (re_op op_modN oa_mod (re_call (ok_size_of M B) (hr.mono (by decide)) rfl M.g_size_of M.F_size_of.kp M.b_size_of (takes_of rfl rfl rfl rfl) (ra_cons (re_var (pv 0)) ra_nil)) (re_gint rfl M.c_PAIR)) re_int (by first | exact nobehind _ (by decide) (by decide) | rfl))))
theorem ok_does_meet_oddly (M : Md P K mg) (B : Bd M base) : FnG P w K mg base (L2.CX P w) 6 M.f_does_meet_oddly M.fd_does_meet_oddly ["one", "other"] (spD (gc M) false 2 f_does_meet_oddly) :=
  okD M.F_does_meet_oddly sc_does_meet_oddly (by decide) fun cdv A outer s H E H0 F0 hcv hr =>
  (rss_cons (rs_ex (re_call (ok_require_two M B) (hr.mono (by decide)) rfl M.g_require_two M.F_require_two.kp M.b_require_two (takes_of rfl rfl rfl rfl) (ra_cons (re_var (pv 0)) (ra_cons (re_var (pv 1)) ra_nil))))
  (rss_one (rs_rt (re_call (ok_is_odd M B) (hr.mono (by decide)) rfl M.g_is_odd M.F_is_odd.kp M.b_is_odd (takes_of rfl rfl rfl rfl) (ra_cons (re_op op_and oa_and (re_call (ok_mask_of M B) (hr.mono (by decide)) rfl M.g_mask_of M.F_mask_of.kp M.b_mask_of (takes_of rfl rfl rfl rfl) (ra_cons (re_var (pv 0)) ra_nil)) (re_call (ok_mask_of M B) (hr.mono (by decide)) rfl M.g_mask_of M.F_mask_of.kp M.b_mask_of (takes_of rfl rfl rfl rfl) (ra_cons (re_var (pv 1)) ra_nil))) ra_nil)))))
theorem ok_common_masks (M : Md P K mg) (B : Bd M base) : FnG P w K mg base (L2.CX P w) 5 M.f_common_masks M.fd_common_masks ["many", "form", "more"] (spD (gc M) false 3 f_common_masks) :=
  okD M.F_common_masks sc_common_masks (by decide) fun cdv A outer s H E H0 F0 hcv hr =>
  (rss_cons (rs_set sc_common_masks.nd rfl (by first | exact .inl rfl | exact .inr rfl) (re_fz (re_lstS (rai_s rfl (re_call (ok_opposite_masks M B) (hr.mono (by decide)) rfl M.g_opposite_masks M.F_opposite_masks.kp M.b_opposite_masks (takes_of rfl rfl rfl rfl) (ra_cons (re_var (pv 0)) (ra_cons (re_var (pv 1)) ra_nil))) (rai_s rfl (re_call (ok_opposite_masks M B) (hr.mono (by decide)) rfl M.g_opposite_masks M.F_opposite_masks.kp M.b_opposite_masks (takes_of rfl rfl rfl rfl) (ra_cons (re_var (pv 0)) (ra_cons (re_var (pv 2)) ra_nil))) rai_nil)))))
  (rss_one (rs_rt (re_call (ok_opposite_masks M B) (hr.mono (by decide)) rfl M.g_opposite_masks M.F_opposite_masks.kp M.b_opposite_masks (takes_of rfl rfl rfl rfl) (ra_cons (re_var (pv 0)) (ra_cons (re_call (ok_form_masks M B) (hr.mono (by decide)) rfl M.g_form_masks M.F_form_masks.kp M.b_form_masks (takes_of rfl rfl rfl rfl) (ra_cons (re_var (pv 3)) ra_nil)) ra_nil))))))
theorem ok_common_form (M : Md P K mg) (B : Bd M base) : FnG P w K mg base (L2.CX P w) 6 M.f_common_form M.fd_common_form ["lots", "more"] (spD (gc M) false 2 f_common_form) :=
  okD M.F_common_form sc_common_form (by decide) fun cdv A outer s H E H0 F0 hcv hr =>
  (rss_cons (rs_ex (re_call (ok_require_lots M B) (hr.mono (by decide)) rfl M.g_require_lots M.F_require_lots.kp M.b_require_lots (takes_of rfl rfl rfl rfl) (ra_cons (re_var (pv 0)) ra_nil)))
  (rss_cons (rs_ex (re_call (ok_require_lots M B) (hr.mono (by decide)) rfl M.g_require_lots M.F_require_lots.kp M.b_require_lots (takes_of rfl rfl rfl rfl) (ra_cons (re_var (pv 1)) ra_nil)))
  (rss_cons (rs_lcZ rfl sc_common_form.nd rfl rfl rfl (blkOk_by (own := [("some", 3)]) (by kernel_rfl)) (by decide) (ri_any rfl (re_tup (ra_cons (re_var (pv 0)) (ra_cons (re_var (pv 1)) ra_nil)))) (fun _ _ _ _ _ => PGx fun _ => (rg_name sc_common_form.nd rfl (by first | exact .inl rfl | exact .inr rfl))) (fun _ _ _ _ _ => PTx0) (fun _ _ _ _ _ => PEx fun _ => (re_call (ok_form_masks M B) (hr.mono (by decide)) rfl M.g_form_masks M.F_form_masks.kp M.b_form_masks tk0 (ra_cons (re_call (ok_masks_of M B) (hr.mono (by decide)) rfl M.g_masks_of M.F_masks_of.kp M.b_masks_of tk0 (ra_cons (re_var (pv 3)) ra_nil)) ra_nil))))
  (rss_one (rs_rt (re_call (ok_told_lots M B) (hr.mono (by decide)) rfl M.g_told_lots M.F_told_lots.kp M.b_told_lots (takes_of rfl rfl rfl rfl) (ra_cons (re_call (ok_common_masks M B) (hr.mono (by decide)) rfl M.g_common_masks M.F_common_masks.kp M.b_common_masks (takes_of rfl rfl rfl rfl) (ra_cons (re_gint rfl M.c_MOST_LINES) (ra_cons (re_ixx rfl hr.units (pv 2) re_int (fun _ _ => rfl) (fun _ _ => rfl)) (ra_cons (re_ixx rfl hr.units (pv 2) re_int (fun _ _ => rfl) (fun _ _ => rfl)) ra_nil)))) ra_nil)))))))
theorem ok_require_lots_and_lot (M : Md P K mg) (B : Bd M base) : FnG P w K mg base (L2.CX P w) 6 M.f_require_lots_and_lot M.fd_require_lots_and_lot ["lots", "lot"] (spD (gc M) false 2 f_require_lots_and_lot) :=
  okD M.F_require_lots_and_lot sc_require_lots_and_lot (by decide) fun cdv A outer s H E H0 F0 hcv hr =>
  (rss_cons (rs_ex (re_call (ok_require_lots M B) (hr.mono (by decide)) rfl M.g_require_lots M.F_require_lots.kp M.b_require_lots (takes_of rfl rfl rfl rfl) (ra_cons (re_var (pv 0)) ra_nil)))
  (rss_one (rs_ex (re_call (ok_require_lot M B) (hr.mono (by decide)) rfl M.g_require_lot M.F_require_lot.kp M.b_require_lot (takes_of rfl rfl rfl rfl) (ra_cons (re_var (pv 1)) ra_nil)))))
theorem ok_reduced (M : Md P K mg) (B : Bd M base) : FnG P w K mg base (L2.CX P w) 2 M.f_reduced M.fd_reduced ["mask", "form"] (spD (gc M) false 2 f_reduced) :=
  okD M.F_reduced sc_reduced (by decide) fun cdv A outer s H E H0 F0 hcv hr =>
  (rss_cons (rs_set sc_reduced.nd rfl (by first | exact .inl rfl | exact .inr rfl) (re_var (pv 0)))
  (rss_cons (rs_for (passes_of rfl) rfl (ri_any rfl (re_var (pv 1))) (rg_name sc_reduced.nd rfl (by first | exact .inl rfl | exact .inr rfl)) (rss_one (rs_if (rt_cmp (op_neD hr.units) oa_ne (re_op op_and oa_and (pv 2) (re_call (ok_head_of M B) (hr.mono (by decide)) rfl M.g_head_of M.F_head_of.kp M.b_head_of (takes_of rfl rfl rfl rfl) (ra_cons (re_var (pv 3)) ra_nil))) re_int (by first | exact nobehind _ (by decide) (by decide) | rfl)) (rss_one (rs_aug sc_reduced.nd rfl (by first | exact .inl rfl | exact .inr rfl) iop_xor oa_xor (re_var (pv 3)))) rss_nil)))
  (rss_one (rs_rt (re_var (pv 2))))))
theorem ok_is_sum_in (M : Md P K mg) (B : Bd M base) : FnG P w K mg base (L2.CX P w) 3 M.f_is_sum_in M.fd_is_sum_in ["mask", "form"] (spD (gc M) false 2 f_is_sum_in) :=
  okD M.F_is_sum_in sc_is_sum_in (by decide) fun cdv A outer s H E H0 F0 hcv hr =>
  (rss_one (rs_rt (re_cmp (op_eqD hr.units) oa_eq (re_call (ok_reduced M B) (hr.mono (by decide)) rfl M.g_reduced M.F_reduced.kp M.b_reduced (takes_of rfl rfl rfl rfl) (ra_cons (re_var (pv 0)) (ra_cons (re_var (pv 1)) ra_nil))) re_int (by first | exact nobehind _ (by decide) (by decide) | rfl))))
theorem ok_test_mask (M : Md P K mg) (B : Bd M base) : FnG P w K mg base (L2.CX P w) 3 M.f_test_mask M.fd_test_mask ["mask", "form"] (spD (gc M) false 2 f_test_mask) :=
  okD M.F_test_mask sc_test_mask (by decide) fun cdv A outer s H E H0 F0 hcv hr =>
  (rss_cons (rs_set sc_test_mask.nd rfl (by first | exact .inl rfl | exact .inr rfl) (re_call (ok_head_of M B) (hr.mono (by decide)) rfl M.g_head_of M.F_head_of.kp M.b_head_of (takes_of rfl rfl rfl rfl) (ra_cons (re_call (ok_reduced M B) (hr.mono (by decide)) rfl M.g_reduced M.F_reduced.kp M.b_reduced (takes_of rfl rfl rfl rfl) (ra_cons (re_var (pv 0)) (ra_cons (re_var (pv 1)) ra_nil))) ra_nil)))
  (rss_one (rs_rt (re_op op_or oa_or (pv 2) (re_cb (cr_sum rfl) oa_sum rfl M.z_sum bt_sum (ro_cons (re_fz (re_lc rfl sc_test_mask.nd (blkOk_by (own := [("one", 3)]) (by kernel_rfl)) (by decide) (ri_any rfl (re_var (pv 1))) (fun _ _ _ _ _ => PGx fun _ => (rg_name sc_test_mask.nd rfl (by first | exact .inl rfl | exact .inr rfl))) (fun _ _ _ _ _ => PTx1 fun _ => (rt_cmp (op_neD hr.units) oa_ne (re_op op_and oa_and (pv 3) (pv 2)) re_int (by first | exact nobehind _ (by decide) (by decide) | rfl))) (fun _ _ _ _ _ => PEx fun _ => (re_call (ok_head_of M B) (hr.mono (by decide)) rfl M.g_head_of M.F_head_of.kp M.b_head_of tk0 (ra_cons (re_var (pv 3)) ra_nil))))) ro_nil))))))
theorem ok_sum_or_test (M : Md P K mg) (B : Bd M base) : FnG P w K mg base (L2.CX P w) 7 M.f_sum_or_test M.fd_sum_or_test ["lots", "lot"] (spD (gc M) false 2 f_sum_or_test) :=
  okD M.F_sum_or_test sc_sum_or_test (by decide) fun cdv A outer s H E H0 F0 hcv hr =>
  (rss_cons (rs_ex (re_call (ok_require_lots_and_lot M B) (hr.mono (by decide)) rfl M.g_require_lots_and_lot M.F_require_lots_and_lot.kp M.b_require_lots_and_lot (takes_of rfl rfl rfl rfl) (ra_cons (re_var (pv 0)) (ra_cons (re_var (pv 1)) ra_nil))))
  (rss_cons (rs_asg (re_call (ok_told_form M B) (hr.mono (by decide)) rfl M.g_told_form M.F_told_form.kp M.b_told_form (takes_of rfl rfl rfl rfl) (ra_cons (re_call (ok_masks_of M B) (hr.mono (by decide)) rfl M.g_masks_of M.F_masks_of.kp M.b_masks_of (takes_of rfl rfl rfl rfl) (ra_cons (re_var (pv 0)) ra_nil)) ra_nil)) (rg_tup rfl rfl (rgs_cons (rg_name sc_sum_or_test.nd rfl (by first | exact .inl rfl | exact .inr rfl)) (rgs_cons (rg_name sc_sum_or_test.nd rfl (by first | exact .inl rfl | exact .inr rfl)) (rgs_cons (rg_name sc_sum_or_test.nd rfl (by first | exact .inl rfl | exact .inr rfl)) rgs_nil)))))
  (rss_cons (rs_par rfl sc_sum_or_test.nd rfl rfl (by decide) rfl rfl (re_call (ok_mask_of M B) (hr.mono (by decide)) rfl M.g_mask_of M.F_mask_of.kp M.b_mask_of (takes_of rfl rfl rfl rfl) (ra_cons (re_var (pv 1)) ra_nil)) (fun _ => re_int))
  (rss_cons (rs_if (rt_not (rt_val (re_call (ok_is_sum_in M B) (hr.mono (by decide)) rfl M.g_is_sum_in M.F_is_sum_in.kp M.b_is_sum_in (takes_of rfl rfl rfl rfl) (ra_cons (re_var (pv 5)) (ra_cons (re_var (pv 2)) ra_nil))))) (rss_one (rs_rt (re_tup (ra_cons (re_gstr rfl M.c_TEST) (ra_cons (re_call (ok_lot_of M B) (hr.mono (by decide)) rfl M.g_lot_of M.F_lot_of.kp M.b_lot_of (takes_of rfl rfl rfl rfl) (ra_cons (re_call (ok_test_mask M B) (hr.mono (by decide)) rfl M.g_test_mask M.F_test_mask.kp M.b_test_mask (takes_of rfl rfl rfl rfl) (ra_cons (re_var (pv 5)) (ra_cons (re_var (pv 2)) ra_nil))) ra_nil)) ra_nil))))) rss_nil)
  (rss_cons (rs_for (passes_of rfl) rfl (ri_zip rfl rfl M.z_zip (re_var (pv 2)) (re_var (pv 3))) (rg_tup rfl rfl (rgs_cons (rg_name sc_sum_or_test.nd rfl (by first | exact .inl rfl | exact .inr rfl)) (rgs_cons (rg_name sc_sum_or_test.nd rfl (by first | exact .inl rfl | exact .inr rfl)) rgs_nil))) (rss_one (rs_if (rt_cmp (op_neD hr.units) oa_ne (re_op op_and oa_and (pv 5) (re_call (ok_head_of M B) (hr.mono (by decide)) rfl M.g_head_of M.F_head_of.kp M.b_head_of (takes_of rfl rfl rfl rfl) (ra_cons (re_var (pv 7)) ra_nil))) re_int (by first | exact nobehind _ (by decide) (by decide) | rfl)) (rss_one (rs_aug sc_sum_or_test.nd rfl (by first | exact .inl rfl | exact .inr rfl) iop_xor oa_xor (re_var (pv 8)))) rss_nil)))
  (rss_one (rs_rt (re_tup (ra_cons (re_gstr rfl M.c_SUM) (ra_cons (re_call (ok_lot_of M B) (hr.mono (by decide)) rfl M.g_lot_of M.F_lot_of.kp M.b_lot_of (takes_of rfl rfl rfl rfl) (ra_cons (re_var (pv 6)) ra_nil)) ra_nil))))))))))
theorem ok_is_told (M : Md P K mg) (B : Bd M base) : FnG P w K mg base (L2.CX P w) 1 M.f_is_told M.fd_is_told ["value", "word", "many"] (spD (gc M) false 3 f_is_told) :=
  okD M.F_is_told sc_is_told (by decide) fun cdv A outer s H E H0 F0 hcv hr =>
  (rss_one (rs_rt (re_and (re_isi rfl rfl M.z_isinstance bt_isinstance rfl M.z_tuple bt_tuple (re_var (pv 0))) (re_and (re_cmp (op_eqD hr.units) oa_eq (re_cb call_lenX oa_len rfl M.z_len bt_len (ro_cons (pv 0) ro_nil)) (pv 2) (by first | exact nobehind _ (by decide) (by decide) | rfl)) (re_and (re_isi rfl rfl M.z_isinstance bt_isinstance rfl M.z_str bt_str (re_ixx rfl hr.units (pv 0) re_int (fun _ _ => rfl) (fun _ _ => rfl))) (re_one (re_cmp (op_eqD hr.units) oa_eq (re_ixx rfl hr.units (pv 0) re_int (fun _ _ => rfl) (fun _ _ => rfl)) (pv 1) (by first | exact nobehind _ (by decide) (by decide) | rfl))))))))
theorem ok_is_sum_or_test (M : Md P K mg) (B : Bd M base) : FnG P w K mg base (L2.CX P w) 7 M.f_is_sum_or_test M.fd_is_sum_or_test ["lots", "lot", "value"] (spD (gc M) false 3 f_is_sum_or_test) :=
  okD M.F_is_sum_or_test sc_is_sum_or_test (by decide) fun cdv A outer s H E H0 F0 hcv hr =>
  (rss_cons (rs_ex (re_call (ok_require_lots_and_lot M B) (hr.mono (by decide)) rfl M.g_require_lots_and_lot M.F_require_lots_and_lot.kp M.b_require_lots_and_lot (takes_of rfl rfl rfl rfl) (ra_cons (re_var (pv 0)) (ra_cons (re_var (pv 1)) ra_nil))))
  (rss_cons (rs_par rfl sc_is_sum_or_test.nd rfl rfl (by decide) rfl rfl (re_call (ok_masks_of M B) (hr.mono (by decide)) rfl M.g_masks_of M.F_masks_of.kp M.b_masks_of (takes_of rfl rfl rfl rfl) (ra_cons (re_var (pv 0)) ra_nil)) (fun _ => (re_call (ok_mask_of M B) (hr.mono (by decide)) rfl M.g_mask_of M.F_mask_of.kp M.b_mask_of (takes_of rfl rfl rfl rfl) (ra_cons (re_var (pv 1)) ra_nil))))
  (rss_cons (rs_if (rt_val (re_call (ok_is_told M B) (hr.mono (by decide)) rfl M.g_is_told M.F_is_told.kp M.b_is_told (takes_of rfl rfl rfl rfl) (ra_cons (re_var (pv 2)) (ra_cons (re_gstr rfl M.c_SUM) (ra_cons (re_gint rfl M.c_PAIR) ra_nil))))) (rss_one (rs_rt (re_and (re_call (ok_is_rising M B) (hr.mono (by decide)) rfl M.g_is_rising M.F_is_rising.kp M.b_is_rising (takes_of rfl rfl rfl rfl) (ra_cons (re_ixx rfl hr.units (pv 2) re_int (fun _ _ => rfl) (fun _ _ => rfl)) (ra_cons (re_cb call_lenX oa_len rfl M.z_len bt_len (ro_cons (pv 0) ro_nil)) ra_nil))) (re_one (re_cmp (op_eqD hr.units) oa_eq (re_call (ok_sum_of_masks M B) (hr.mono (by decide)) rfl M.g_sum_of_masks M.F_sum_of_masks.kp M.b_sum_of_masks (takes_of rfl rfl rfl rfl) (ra_cons (re_var (pv 3)) (ra_cons (re_ixx rfl hr.units (pv 2) re_int (fun _ _ => rfl) (fun _ _ => rfl)) ra_nil))) (pv 4) (by first | exact nobehind _ (by decide) (by decide) | rfl)))))) rss_nil)
  (rss_cons (rs_if (PW.pt (rw_or (rt_not (rt_val (re_call (ok_is_told M B) (hr.mono (by decide)) rfl M.g_is_told M.F_is_told.kp M.b_is_told (takes_of rfl rfl rfl rfl) (ra_cons (re_var (pv 2)) (ra_cons (re_gstr rfl M.c_TEST) (ra_cons (re_gint rfl M.c_PAIR) ra_nil)))))) (rw_or1 (rt_not (rt_val (re_call (ok_is_rising M B) (hr.mono (by decide)) rfl M.g_is_rising M.F_is_rising.kp M.b_is_rising (takes_of rfl rfl rfl rfl) (ra_cons (re_ixx rfl hr.units (pv 2) re_int (fun _ _ => rfl) (fun _ _ => rfl)) (ra_cons (re_gint rfl M.c_MOST_LINES) ra_nil)))))))) (rss_one (rs_rt re_bl)) rss_nil)
  (rss_cons (rs_set sc_is_sum_or_test.nd rfl (by first | exact .inl rfl | exact .inr rfl) (re_call (ok_mask_of M B) (hr.mono (by decide)) rfl M.g_mask_of M.F_mask_of.kp M.b_mask_of (takes_of rfl rfl rfl rfl) (ra_cons (re_ixx rfl hr.units (pv 2) re_int (fun _ _ => rfl) (fun _ _ => rfl)) ra_nil)))
  (rss_one (rs_rt (re_and (re_call (ok_is_odd M B) (hr.mono (by decide)) rfl M.g_is_odd M.F_is_odd.kp M.b_is_odd (takes_of rfl rfl rfl rfl) (ra_cons (re_op op_and oa_and (pv 5) (pv 4)) ra_nil)) (re_one (re_not (re_cb (cr_any rfl) oa_any rfl M.z_any bt_any (ro_cons (re_fz (re_lc rfl sc_is_sum_or_test.nd (blkOk_by (own := [("one", 6)]) (by kernel_rfl)) (by decide) (ri_any rfl (re_var (pv 3))) (fun _ _ _ _ _ => PGx fun _ => (rg_name sc_is_sum_or_test.nd rfl (by first | exact .inl rfl | exact .inr rfl))) (fun _ _ _ _ _ => PTx0) (fun _ _ _ _ _ => PEx fun _ => (re_call (ok_is_odd M B) (hr.mono (by decide)) rfl M.g_is_odd M.F_is_odd.kp M.b_is_odd tk0 (ra_cons (re_op op_and oa_and (pv 5) (pv 6)) ra_nil))))) ro_nil))))))))))))
theorem ok_is_bit (M : Md P K mg) (B : Bd M base) : FnG P w K mg base (L2.CX P w) 3 M.f_is_bit M.fd_is_bit ["value"] (spD (gc M) false 1 f_is_bit) :=
  okD M.F_is_bit sc_is_bit (by decide) fun cdv A outer s H E H0 F0 hcv hr =>
  (rss_one (rs_rt (re_call (ok_is_below M B) (hr.mono (by decide)) rfl M.g_is_below M.F_is_below.kp M.b_is_below (takes_of rfl rfl rfl rfl) (ra_cons (re_var (pv 0)) (ra_cons (re_gint rfl M.c_PAIR) ra_nil)))))
theorem ok_require_bits (M : Md P K mg) (B : Bd M base) : FnG P w K mg base (L2.CX P w) 6 M.f_require_bits M.fd_require_bits ["lots", "bits"] (spD (gc M) false 2 f_require_bits) :=
  okD M.F_require_bits sc_require_bits (by decide) fun cdv A outer s H E H0 F0 hcv hr =>
  (rss_cons (rs_ex (re_call (ok_require_lots M B) (hr.mono (by decide)) rfl M.g_require_lots M.F_require_lots.kp M.b_require_lots (takes_of rfl rfl rfl rfl) (ra_cons (re_var (pv 0)) ra_nil)))
  (rss_one (rs_if (PW.pt (rw_or (rt_not (rt_val (re_isi rfl rfl M.z_isinstance bt_isinstance rfl M.z_tuple bt_tuple (re_var (pv 1))))) (rw_or (rt_cmp (op_neD hr.units) oa_ne (re_cb call_lenX oa_len rfl M.z_len bt_len (ro_cons (pv 1) ro_nil)) (re_cb call_lenX oa_len rfl M.z_len bt_len (ro_cons (pv 0) ro_nil)) (by first | exact nobehind _ (by decide) (by decide) | rfl)) (rw_or1 (rt_not (rt_val (re_cb (cr_all rfl) oa_all rfl M.z_all bt_all (ro_cons (re_fz (re_lc rfl sc_require_bits.nd (blkOk_by (own := [("bit", 2)]) (by kernel_rfl)) (by decide) (ri_any rfl (re_var (pv 1))) (fun _ _ _ _ _ => PGx fun _ => (rg_name sc_require_bits.nd rfl (by first | exact .inl rfl | exact .inr rfl))) (fun _ _ _ _ _ => PTx0) (fun _ _ _ _ _ => PEx fun _ => (re_call (ok_is_bit M B) (hr.mono (by decide)) rfl M.g_is_bit M.F_is_bit.kp M.b_is_bit tk0 (ra_cons (re_var (pv 2)) ra_nil))))) ro_nil)))))))) (rss_one (rs_raise0 M.e_InvalidOperation rfl (takes_of rfl rfl rfl rfl) rfl rfl)) rss_nil)))
theorem ok_met_by (M : Md P K mg) (B : Bd M base) : FnG P w K mg base (L2.CX P w) 4 M.f_met_by M.fd_met_by ["masks", "bits"] (spD (gc M) false 2 f_met_by) :=
  okD M.F_met_by sc_met_by (by decide) fun cdv A outer s H E H0 F0 hcv hr =>
  (rss_cons (rs_asg (re_call (ok_told_form M B) (hr.mono (by decide)) rfl M.g_told_form M.F_told_form.kp M.b_told_form (takes_of rfl rfl rfl rfl) (ra_cons (re_var (pv 0)) ra_nil)) (rg_tup rfl rfl (rgs_cons (rg_name sc_met_by.nd rfl (by first | exact .inl rfl | exact .inr rfl)) (rgs_cons (rg_name sc_met_by.nd rfl (by first | exact .inl rfl | exact .inr rfl)) (rgs_cons (rg_name sc_met_by.nd rfl (by first | exact .inl rfl | exact .inr rfl)) rgs_nil)))))
  (rss_cons (rs_set sc_met_by.nd rfl (by first | exact .inl rfl | exact .inr rfl) (re_call (ok_mask_of M B) (hr.mono (by decide)) rfl M.g_mask_of M.F_mask_of.kp M.b_mask_of (takes_of rfl rfl rfl rfl) (ra_cons (re_fz (re_lc rfl sc_met_by.nd (blkOk_by (own := [("at", 7), ("bit", 8)]) (by kernel_rfl)) (by decide) (ri_enum rfl rfl M.z_enumerate (re_var (pv 1))) (fun _ _ _ _ _ => PGx fun _ => (rg_tup rfl rfl (rgs_cons (rg_name sc_met_by.nd rfl (by first | exact .inl rfl | exact .inr rfl)) (rgs_cons (rg_name sc_met_by.nd rfl (by first | exact .inl rfl | exact .inr rfl)) rgs_nil)))) (fun _ _ _ _ _ => PTx1 fun _ => (rt_cmp (op_eqD hr.units) oa_eq (pv 8) re_int (by first | exact nobehind _ (by decide) (by decide) | rfl))) (fun _ _ _ _ _ => PEx fun _ => (re_var (pv 7))))) ra_nil)))
  (rss_cons (rs_for (passes_of rfl) rfl (ri_any rfl (re_var (pv 4))) (rg_name sc_met_by.nd rfl (by first | exact .inl rfl | exact .inr rfl)) (rss_one (rs_if (rt_val (re_call (ok_is_odd M B) (hr.mono (by decide)) rfl M.g_is_odd M.F_is_odd.kp M.b_is_odd (takes_of rfl rfl rfl rfl) (ra_cons (re_op op_and oa_and (pv 6) (pv 5)) ra_nil))) (rss_one (rs_rt (re_tup (ra_cons re_non (ra_cons (re_var (pv 6)) ra_nil))))) rss_nil)))
  (rss_one (rs_rt (re_tup (ra_cons (re_cb (cr_sum rfl) oa_sum rfl M.z_sum bt_sum (ro_cons (re_fz (re_lc rfl sc_met_by.nd (blkOk_by (own := [("one", 9), ("pick", 6)]) (by kernel_rfl)) (by decide) (ri_zip rfl rfl M.z_zip (re_var (pv 2)) (re_var (pv 3))) (fun _ _ _ _ _ => PGx fun _ => (rg_tup rfl rfl (rgs_cons (rg_name sc_met_by.nd rfl (by first | exact .inl rfl | exact .inr rfl)) (rgs_cons (rg_name sc_met_by.nd rfl (by first | exact .inl rfl | exact .inr rfl)) rgs_nil)))) (fun _ _ _ _ _ => PTx1 fun _ => (rt_val (re_call (ok_is_odd M B) (hr.mono (by decide)) rfl M.g_is_odd M.F_is_odd.kp M.b_is_odd tk0 (ra_cons (re_op op_and oa_and (pv 6) (pv 5)) ra_nil)))) (fun _ _ _ _ _ => PEx fun _ => (re_call (ok_head_of M B) (hr.mono (by decide)) rfl M.g_head_of M.F_head_of.kp M.b_head_of tk0 (ra_cons (re_var (pv 9)) ra_nil))))) ro_nil)) (ra_cons re_non ra_nil))))))))
theorem ok_met_or_bar (M : Md P K mg) (B : Bd M base) : FnG P w K mg base (L2.CX P w) 7 M.f_met_or_bar M.fd_met_or_bar ["lots", "bits"] (spD (gc M) false 2 f_met_or_bar) :=
  okD M.F_met_or_bar sc_met_or_bar (by decide) fun cdv A outer s H E H0 F0 hcv hr =>
  (rss_cons (rs_ex (re_call (ok_require_bits M B) (hr.mono (by decide)) rfl M.g_require_bits M.F_require_bits.kp M.b_require_bits (takes_of rfl rfl rfl rfl) (ra_cons (re_var (pv 0)) (ra_cons (re_var (pv 1)) ra_nil))))
  (rss_cons (rs_asg (re_call (ok_met_by M B) (hr.mono (by decide)) rfl M.g_met_by M.F_met_by.kp M.b_met_by (takes_of rfl rfl rfl rfl) (ra_cons (re_call (ok_masks_of M B) (hr.mono (by decide)) rfl M.g_masks_of M.F_masks_of.kp M.b_masks_of (takes_of rfl rfl rfl rfl) (ra_cons (re_var (pv 0)) ra_nil)) (ra_cons (re_var (pv 1)) ra_nil))) (rg_tup rfl rfl (rgs_cons (rg_name sc_met_or_bar.nd rfl (by first | exact .inl rfl | exact .inr rfl)) (rgs_cons (rg_name sc_met_or_bar.nd rfl (by first | exact .inl rfl | exact .inr rfl)) rgs_nil))))
  (rss_one (rs_rt (re_if (rt_cmp op_isN oa_isN (pv 2) re_non (by first | exact nobehind _ (by decide) (by decide) | rfl)) (re_tup (ra_cons (re_gstr rfl M.c_BAR) (ra_cons (re_call (ok_lot_of M B) (hr.mono (by decide)) rfl M.g_lot_of M.F_lot_of.kp M.b_lot_of (takes_of rfl rfl rfl rfl) (ra_cons (re_var (pv 3)) ra_nil)) ra_nil))) (re_tup (ra_cons (re_gstr rfl M.c_LOT) (ra_cons (re_call (ok_lot_of M B) (hr.mono (by decide)) rfl M.g_lot_of M.F_lot_of.kp M.b_lot_of (takes_of rfl rfl rfl rfl) (ra_cons (re_var (pv 2)) ra_nil)) ra_nil))))))))
theorem ok_is_met_or_bar (M : Md P K mg) (B : Bd M base) : FnG P w K mg base (L2.CX P w) 7 M.f_is_met_or_bar M.fd_is_met_or_bar ["lots", "bits", "value"] (spD (gc M) false 3 f_is_met_or_bar) :=
  okD M.F_is_met_or_bar sc_is_met_or_bar (by decide) fun cdv A outer s H E H0 F0 hcv hr =>
  (rss_cons (rs_ex (re_call (ok_require_bits M B) (hr.mono (by decide)) rfl M.g_require_bits M.F_require_bits.kp M.b_require_bits (takes_of rfl rfl rfl rfl) (ra_cons (re_var (pv 0)) (ra_cons (re_var (pv 1)) ra_nil))))
  (rss_cons (rs_set sc_is_met_or_bar.nd rfl (by first | exact .inl rfl | exact .inr rfl) (re_call (ok_masks_of M B) (hr.mono (by decide)) rfl M.g_masks_of M.F_masks_of.kp M.b_masks_of (takes_of rfl rfl rfl rfl) (ra_cons (re_var (pv 0)) ra_nil)))
  (rss_cons (rs_if (rt_val (re_call (ok_is_told M B) (hr.mono (by decide)) rfl M.g_is_told M.F_is_told.kp M.b_is_told (takes_of rfl rfl rfl rfl) (ra_cons (re_var (pv 2)) (ra_cons (re_gstr rfl M.c_LOT) (ra_cons (re_gint rfl M.c_PAIR) ra_nil))))) (rss_cons (rs_if (rt_not (rt_val (re_call (ok_is_rising M B) (hr.mono (by decide)) rfl M.g_is_rising M.F_is_rising.kp M.b_is_rising (takes_of rfl rfl rfl rfl) (ra_cons (re_ixx rfl hr.units (pv 2) re_int (fun _ _ => rfl) (fun _ _ => rfl)) (ra_cons (re_gint rfl M.c_MOST_LINES) ra_nil))))) (rss_one (rs_rt re_bl)) rss_nil)
  (rss_cons (rs_set sc_is_met_or_bar.nd rfl (by first | exact .inl rfl | exact .inr rfl) (re_call (ok_mask_of M B) (hr.mono (by decide)) rfl M.g_mask_of M.F_mask_of.kp M.b_mask_of (takes_of rfl rfl rfl rfl) (ra_cons (re_ixx rfl hr.units (pv 2) re_int (fun _ _ => rfl) (fun _ _ => rfl)) ra_nil)))
  (rss_one (rs_rt (re_cb (cr_all rfl) oa_all rfl M.z_all bt_all (ro_cons (re_fz (re_lc rfl sc_is_met_or_bar.nd (blkOk_by (own := [("one", 5), ("bit", 6)]) (by kernel_rfl)) (by decide) (ri_zip rfl rfl M.z_zip (re_var (pv 3)) (re_var (pv 1))) (fun _ _ _ _ _ => PGx fun _ => (rg_tup rfl rfl (rgs_cons (rg_name sc_is_met_or_bar.nd rfl (by first | exact .inl rfl | exact .inr rfl)) (rgs_cons (rg_name sc_is_met_or_bar.nd rfl (by first | exact .inl rfl | exact .inr rfl)) rgs_nil)))) (fun _ _ _ _ _ => PTx0) (fun _ _ _ _ _ => PEx fun _ => (re_cmp (op_eqD hr.units) oa_eq (re_call (ok_is_odd M B) (hr.mono (by decide)) rfl M.g_is_odd M.F_is_odd.kp M.b_is_odd tk0 (ra_cons (re_op op_and oa_and (pv 4) (pv 5)) ra_nil)) (re_cmp (op_eqD hr.units) oa_eq (pv 6) re_int (by first | exact nobehind _ (by decide) (by decide) | rfl)) (by first | exact nobehind _ (by decide) (by decide) | rfl))))) ro_nil)))))) rss_nil)
  (rss_cons (rs_if (PW.pt (rw_or (rt_not (rt_val (re_call (ok_is_told M B) (hr.mono (by decide)) rfl M.g_is_told M.F_is_told.kp M.b_is_told (takes_of rfl rfl rfl rfl) (ra_cons (re_var (pv 2)) (ra_cons (re_gstr rfl M.c_BAR) (ra_cons (re_gint rfl M.c_PAIR) ra_nil)))))) (rw_or1 (rt_not (rt_val (re_call (ok_is_rising M B) (hr.mono (by decide)) rfl M.g_is_rising M.F_is_rising.kp M.b_is_rising (takes_of rfl rfl rfl rfl) (ra_cons (re_ixx rfl hr.units (pv 2) re_int (fun _ _ => rfl) (fun _ _ => rfl)) (ra_cons (re_cb call_lenX oa_len rfl M.z_len bt_len (ro_cons (pv 0) ro_nil)) ra_nil)))))))) (rss_one (rs_rt re_bl)) rss_nil)
  (rss_one (rs_rt (re_and (re_cmp (op_eqD hr.units) oa_eq (re_call (ok_sum_of_masks M B) (hr.mono (by decide)) rfl M.g_sum_of_masks M.F_sum_of_masks.kp M.b_sum_of_masks (takes_of rfl rfl rfl rfl) (ra_cons (re_var (pv 3)) (ra_cons (re_ixx rfl hr.units (pv 2) re_int (fun _ _ => rfl) (fun _ _ => rfl)) ra_nil))) re_int (by first | exact nobehind _ (by decide) (by decide) | rfl)) (re_one (re_cmp (op_eqD hr.units) oa_eq (re_op op_modN oa_mod (re_cb (cr_sum rfl) oa_sum rfl M.z_sum bt_sum (ro_cons (re_fz (re_lc rfl sc_is_met_or_bar.nd (blkOk_by (own := [("at", 7)]) (by kernel_rfl)) (by decide) (ri_any rfl (re_ixx rfl hr.units (pv 2) re_int (fun _ _ => rfl) (fun _ _ => rfl))) (fun _ _ _ _ _ => PGx fun _ => (rg_name sc_is_met_or_bar.nd rfl (by first | exact .inl rfl | exact .inr rfl))) (fun _ _ _ _ _ => PTx0) (fun _ _ _ _ _ => PEx fun _ => (re_ixx rfl hr.units (pv 1) (pv 7) (fun _ _ => rfl) (fun _ _ => rfl))))) ro_nil)) (re_gint rfl M.c_PAIR)) re_int (by first | exact nobehind _ (by decide) (by decide) | rfl))))))))))
theorem ok__law_right (M : Md P K mg) (B : Bd M base) : FnG P w K mg base (L2.CX P w) 10 M.f__law_right M.fd__law_right ["dice"] (spR (gc M) false 0 f__law_right) :=
  okR M.F__law_right sc__law_right rfl (by decide) fun cdv A outer s H E ra H0 F0 hcv hr =>
  (rss_cons (rs_asg (re_tup (ra_cons (re_tup (ra_cons (re_tup (ra_cons re_int (ra_cons re_int ra_nil))) (ra_cons (re_tup (ra_cons re_int (ra_cons re_int ra_nil))) (ra_cons (re_tup (ra_cons re_int (ra_cons re_int ra_nil))) ra_nil)))) (ra_cons (re_tup (ra_cons re_int (ra_cons re_int ra_nil))) ra_nil))) (rg_tup rfl rfl (rgs_cons (rg_name sc__law_right.nd rfl (by first | exact .inl rfl | exact .inr rfl)) (rgs_cons (rg_name sc__law_right.nd rfl (by first | exact .inl rfl | exact .inr rfl)) rgs_nil))))
  (rss_cons (rs_set sc__law_right.nd rfl (by first | exact .inl rfl | exact .inr rfl) (re_callR (ok__law_pick M B) (hr.mono (by decide)) rfl M.g__law_pick M.F__law_pick.kp M.b__law_pick (takes_of rfl rfl rfl rfl) (pv 0) (ra_cons (re_fz (re_lst (ra_cons re_non (ra_cons re_int (ra_cons (re_fz (re_lst (ra_cons re_int ra_nil))) (ra_cons (re_tup (ra_cons re_int (ra_cons re_int ra_nil))) (ra_cons (re_tup (ra_cons re_int (ra_cons re_int ra_nil))) (ra_cons (re_tup (ra_cons re_int ra_nil)) (ra_cons (re_tup (ra_cons (re_un un_neg oa_neg re_int) ra_nil)) (ra_cons (re_tup (ra_cons re_bl ra_nil)) (ra_cons re_str (ra_cons (re_fz re_dnew) (ra_cons (re_tup (ra_cons (re_tup (ra_cons re_int ra_nil)) ra_nil)) (ra_cons (re_tup (ra_cons re_non ra_nil)) (ra_cons (re_tup (ra_cons (re_op op_pow oa_pow re_int re_int) ra_nil)) ra_nil))))))))))))))) ra_nil)))
  (rss_cons (rs_set sc__law_right.nd rfl (by first | exact .inl rfl | exact .inr rfl) (re_callR (ok__law_pick M B) (hr.mono (by decide)) rfl M.g__law_pick M.F__law_pick.kp M.b__law_pick (takes_of rfl rfl rfl rfl) (pv 0) (ra_cons (re_fz (re_lst (ra_cons re_non (ra_cons re_int (ra_cons (re_fz (re_lst (ra_cons (re_tup (ra_cons re_int ra_nil)) ra_nil))) (ra_cons (re_tup (ra_cons re_int ra_nil)) (ra_cons (re_tup (ra_cons (re_tup (ra_cons re_int (ra_cons re_int ra_nil))) ra_nil)) (ra_cons (re_tup (ra_cons (re_tup (ra_cons re_int ra_nil)) ra_nil)) (ra_cons (re_tup (ra_cons (re_tup (ra_cons re_int ra_nil)) (ra_cons re_non ra_nil))) (ra_cons (re_op op_mulXX oa_mul (re_tup (ra_cons (re_tup (ra_cons re_int ra_nil)) ra_nil)) re_int) (ra_cons re_str (ra_cons (re_fz re_dnew) (ra_cons (re_tup (ra_cons (re_tup (ra_cons re_bl ra_nil)) ra_nil)) (ra_cons (re_tup (ra_cons (re_fz (re_lst (ra_cons re_int ra_nil))) ra_nil)) (ra_cons (re_tup (ra_cons (re_tup (ra_cons re_int (ra_cons re_int ra_nil))) ra_nil)) ra_nil))))))))))))))) ra_nil)))
  (rss_cons (rs_set sc__law_right.nd rfl (by first | exact .inl rfl | exact .inr rfl) (re_callR (ok__law_pick M B) (hr.mono (by decide)) rfl M.g__law_pick M.F__law_pick.kp M.b__law_pick (takes_of rfl rfl rfl rfl) (pv 0) (ra_cons (re_fz (re_lst (ra_cons re_non (ra_cons re_int (ra_cons (re_fz (re_lst (ra_cons re_int ra_nil))) (ra_cons (re_tup (ra_cons re_int (ra_cons re_int ra_nil))) (ra_cons (re_tup (ra_cons re_int (ra_cons re_int ra_nil))) (ra_cons (re_tup (ra_cons re_int ra_nil)) (ra_cons (re_tup (ra_cons (re_un un_neg oa_neg re_int) ra_nil)) (ra_cons (re_tup (ra_cons re_bl ra_nil)) (ra_cons re_str (ra_cons (re_fz re_dnew) (ra_cons (re_tup (ra_cons (re_tup (ra_cons re_int ra_nil)) ra_nil)) ra_nil))))))))))))) ra_nil)))
  (rss_cons (rs_set sc__law_right.nd rfl (by first | exact .inl rfl | exact .inr rfl) (re_callR (ok__law_pick M B) (hr.mono (by decide)) rfl M.g__law_pick M.F__law_pick.kp M.b__law_pick (takes_of rfl rfl rfl rfl) (pv 0) (ra_cons (re_fz (re_lst (ra_cons re_non (ra_cons re_int (ra_cons (re_tup ra_nil) (ra_cons (re_tup (ra_cons re_int (ra_cons re_int ra_nil))) (ra_cons (re_tup (ra_cons re_int (ra_cons re_int (ra_cons re_int (ra_cons re_int ra_nil))))) (ra_cons (re_fz (re_lst (ra_cons re_int (ra_cons re_int (ra_cons re_int ra_nil))))) (ra_cons (re_tup (ra_cons re_int (ra_cons re_int (ra_cons re_int ra_nil)))) (ra_cons (re_tup (ra_cons re_int (ra_cons re_int (ra_cons re_bl ra_nil)))) (ra_cons (re_tup (ra_cons re_int (ra_cons re_int (ra_cons re_non ra_nil)))) (ra_cons re_str ra_nil)))))))))))) ra_nil)))
  (rss_cons (rs_set sc__law_right.nd rfl (by first | exact .inl rfl | exact .inr rfl) (re_callR (ok__law_pick M B) (hr.mono (by decide)) rfl M.g__law_pick M.F__law_pick.kp M.b__law_pick (takes_of rfl rfl rfl rfl) (pv 0) (ra_cons (re_fz (re_lst (ra_cons re_non (ra_cons re_int (ra_cons re_int (ra_cons (re_un un_neg oa_neg re_int) (ra_cons re_bl (ra_cons re_str (ra_cons (re_tup (ra_cons re_int ra_nil)) (ra_cons (re_op op_pow oa_pow re_int re_int) ra_nil)))))))))) ra_nil)))
  (rss_cons (rs_setO sc__law_right.nd rfl (by first | exact .inl rfl | exact .inr rfl) (re_lst (ra_cons (re_met (k := 6) (hr.mono (by decide)) rfl M.g__law_met M.F__law_met M.b__law_met sc__law_met rfl (.inl rfl) (by exact fun cdv => given__law_met M rfl rfl rfl cdv _) (B.t__law_right) (by exact hcv.symm.trans M.cd__law_right) (by exact (.head _)) (by exact hu_of M.nd (by exact (.head _))) (lamS_by (sc := defScope st__law_right) (by kernel_rfl)) rfl (by intros; rfl) (by exact fun A outer s H E f c' hr => (re_call (ok_lot_sum M B) (hr.mono (by decide)) rfl M.g_lot_sum M.F_lot_sum.kp M.b_lot_sum (takes_of rfl rfl rfl rfl) (ra_cons (re_var (pv 3)) (ra_cons (re_var (pv 3)) ra_nil))))) ra_nil)))
  (rss_cons (rs_ex (re_append rfl (pv 8) (re_met (k := 6) (hr.mono (by decide)) rfl M.g__law_met M.F__law_met M.b__law_met sc__law_met rfl (.inl rfl) (by exact fun cdv => given__law_met M rfl rfl rfl cdv _) (B.t__law_right) (by exact hcv.symm.trans M.cd__law_right) (by exact (.head _)) (by exact hu_of M.nd (by exact (.head _))) (lamS_by (sc := defScope st__law_right) (by kernel_rfl)) rfl (by intros; rfl) (by exact fun A outer s H E f c' hr => (re_call (ok_lot_sum M B) (hr.mono (by decide)) rfl M.g_lot_sum M.F_lot_sum.kp M.b_lot_sum (takes_of rfl rfl rfl rfl) (ra_cons (re_var (pv 2)) (ra_cons (re_var (pv 3)) ra_nil)))))))
  (rss_cons (rs_ex (re_append rfl (pv 8) (re_met (k := 6) (hr.mono (by decide)) rfl M.g__law_met M.F__law_met M.b__law_met sc__law_met rfl (.inl rfl) (by exact fun cdv => given__law_met M rfl rfl rfl cdv _) (B.t__law_right) (by exact hcv.symm.trans M.cd__law_right) (by exact (.head _)) (by exact hu_of M.nd (by exact (.head _))) (lamS_by (sc := defScope st__law_right) (by kernel_rfl)) rfl (by intros; rfl) (by exact fun A outer s H E f c' hr => (re_call (ok_does_meet_oddly M B) (hr.mono (by decide)) rfl M.g_does_meet_oddly M.F_does_meet_oddly.kp M.b_does_meet_oddly (takes_of rfl rfl rfl rfl) (ra_cons (re_var (pv 3)) (ra_cons (re_var (pv 2)) ra_nil)))))))
  (rss_cons (rs_ex (re_append rfl (pv 8) (re_met (k := 6) (hr.mono (by decide)) rfl M.g__law_met M.F__law_met M.b__law_met sc__law_met rfl (.inl rfl) (by exact fun cdv => given__law_met M rfl rfl rfl cdv _) (B.t__law_right) (by exact hcv.symm.trans M.cd__law_right) (by exact (.head _)) (by exact hu_of M.nd (by exact (.head _))) (lamS_by (sc := defScope st__law_right) (by kernel_rfl)) rfl (by intros; rfl) (by exact fun A outer s H E f c' hr => (re_call (ok_does_meet_oddly M B) (hr.mono (by decide)) rfl M.g_does_meet_oddly M.F_does_meet_oddly.kp M.b_does_meet_oddly (takes_of rfl rfl rfl rfl) (ra_cons (re_var (pv 2)) (ra_cons (re_var (pv 3)) ra_nil)))))))
  (rss_cons (rs_ex (re_append rfl (pv 8) (re_met (k := 6) (hr.mono (by decide)) rfl M.g__law_met M.F__law_met M.b__law_met sc__law_met rfl (.inl rfl) (by exact fun cdv => given__law_met M rfl rfl rfl cdv _) (B.t__law_right) (by exact hcv.symm.trans M.cd__law_right) (by exact (.head _)) (by exact hu_of M.nd (by exact (.head _))) (lamS_by (sc := defScope st__law_right) (by kernel_rfl)) rfl (by intros; rfl) (by exact fun A outer s H E f c' hr => (re_call (ok_form_of M B) (hr.mono (by decide)) rfl M.g_form_of M.F_form_of.kp M.b_form_of (takes_of rfl rfl rfl rfl) (ra_cons (re_var (pv 4)) ra_nil))))))
  (rss_cons (rs_ex (re_append rfl (pv 8) (re_met (k := 6) (hr.mono (by decide)) rfl M.g__law_met M.F__law_met M.b__law_met sc__law_met rfl (.inl rfl) (by exact fun cdv => given__law_met M rfl rfl rfl cdv _) (B.t__law_right) (by exact hcv.symm.trans M.cd__law_right) (by exact (.head _)) (by exact hu_of M.nd (by exact (.head _))) (lamS_by (sc := defScope st__law_right) (by kernel_rfl)) rfl (by intros; rfl) (by exact fun A outer s H E f c' hr => (re_call (ok_common_form M B) (hr.mono (by decide)) rfl M.g_common_form M.F_common_form.kp M.b_common_form (takes_of rfl rfl rfl rfl) (ra_cons (re_var (pv 4)) (ra_cons (re_var (pv 4)) ra_nil)))))))
  (rss_cons (rs_ex (re_append rfl (pv 8) (re_met (k := 6) (hr.mono (by decide)) rfl M.g__law_met M.F__law_met M.b__law_met sc__law_met rfl (.inl rfl) (by exact fun cdv => given__law_met M rfl rfl rfl cdv _) (B.t__law_right) (by exact hcv.symm.trans M.cd__law_right) (by exact (.head _)) (by exact hu_of M.nd (by exact (.head _))) (lamS_by (sc := defScope st__law_right) (by kernel_rfl)) rfl (by intros; rfl) (by exact fun A outer s H E f c' hr => (re_call (ok_common_form M B) (hr.mono (by decide)) rfl M.g_common_form M.F_common_form.kp M.b_common_form (takes_of rfl rfl rfl rfl) (ra_cons (re_var (pv 1)) (ra_cons (re_var (pv 4)) ra_nil)))))))
  (rss_cons (rs_ex (re_append rfl (pv 8) (re_met (k := 6) (hr.mono (by decide)) rfl M.g__law_met M.F__law_met M.b__law_met sc__law_met rfl (.inl rfl) (by exact fun cdv => given__law_met M rfl rfl rfl cdv _) (B.t__law_right) (by exact hcv.symm.trans M.cd__law_right) (by exact (.head _)) (by exact hu_of M.nd (by exact (.head _))) (lamS_by (sc := defScope st__law_right) (by kernel_rfl)) rfl (by intros; rfl) (by exact fun A outer s H E f c' hr => (re_call (ok_sum_of_pick M B) (hr.mono (by decide)) rfl M.g_sum_of_pick M.F_sum_of_pick.kp M.b_sum_of_pick (takes_of rfl rfl rfl rfl) (ra_cons (re_var (pv 4)) (ra_cons (re_var (pv 5)) ra_nil)))))))
  (rss_cons (rs_ex (re_append rfl (pv 8) (re_met (k := 6) (hr.mono (by decide)) rfl M.g__law_met M.F__law_met M.b__law_met sc__law_met rfl (.inl rfl) (by exact fun cdv => given__law_met M rfl rfl rfl cdv _) (B.t__law_right) (by exact hcv.symm.trans M.cd__law_right) (by exact (.head _)) (by exact hu_of M.nd (by exact (.head _))) (lamS_by (sc := defScope st__law_right) (by kernel_rfl)) rfl (by intros; rfl) (by exact fun A outer s H E f c' hr => (re_call (ok_sum_of_pick M B) (hr.mono (by decide)) rfl M.g_sum_of_pick M.F_sum_of_pick.kp M.b_sum_of_pick (takes_of rfl rfl rfl rfl) (ra_cons (re_var (pv 1)) (ra_cons (re_var (pv 5)) ra_nil)))))))
  (rss_cons (rs_set sc__law_right.nd rfl (by first | exact .inl rfl | exact .inr rfl) (re_op op_addX oa_add (re_op op_mulXX oa_mul (re_fz (re_lst (ra_cons re_str ra_nil))) re_int) (re_fz (re_lst (ra_cons re_str ra_nil)))))
  (rss_cons (rs_ex (re_append rfl (pv 8) (re_met (k := 7) (hr.mono (by decide)) rfl M.g__law_met M.F__law_met M.b__law_met sc__law_met rfl (.inl rfl) (by exact fun cdv => given__law_met M rfl rfl rfl cdv _) (B.t__law_right) (by exact hcv.symm.trans M.cd__law_right) (by exact (.head _)) (by exact hu_of M.nd (by exact (.head _))) (lamS_by (sc := defScope st__law_right) (by kernel_rfl)) rfl (by intros; rfl) (by exact fun A outer s H E f c' hr => (re_call (ok_sum_or_test M B) (hr.mono (by decide)) rfl M.g_sum_or_test M.F_sum_or_test.kp M.b_sum_or_test (takes_of rfl rfl rfl rfl) (ra_cons (re_var (pv 4)) (ra_cons (re_var (pv 3)) ra_nil)))))))
  (rss_cons (rs_ex (re_append rfl (pv 8) (re_met (k := 7) (hr.mono (by decide)) rfl M.g__law_met M.F__law_met M.b__law_met sc__law_met rfl (.inl rfl) (by exact fun cdv => given__law_met M rfl rfl rfl cdv _) (B.t__law_right) (by exact hcv.symm.trans M.cd__law_right) (by exact (.head _)) (by exact hu_of M.nd (by exact (.head _))) (lamS_by (sc := defScope st__law_right) (by kernel_rfl)) rfl (by intros; rfl) (by exact fun A outer s H E f c' hr => (re_call (ok_sum_or_test M B) (hr.mono (by decide)) rfl M.g_sum_or_test M.F_sum_or_test.kp M.b_sum_or_test (takes_of rfl rfl rfl rfl) (ra_cons (re_var (pv 1)) (ra_cons (re_var (pv 3)) ra_nil)))))))
  (rss_cons (rs_ex (re_append rfl (pv 8) (re_met (k := 7) (hr.mono (by decide)) rfl M.g__law_met M.F__law_met M.b__law_met sc__law_met rfl (.inl rfl) (by exact fun cdv => given__law_met M rfl rfl rfl cdv _) (B.t__law_right) (by exact hcv.symm.trans M.cd__law_right) (by exact (.head _)) (by exact hu_of M.nd (by exact (.head _))) (lamS_by (sc := defScope st__law_right) (by kernel_rfl)) rfl (by intros; rfl) (by exact fun A outer s H E f c' hr => (re_call (ok_is_sum_or_test M B) (hr.mono (by decide)) rfl M.g_is_sum_or_test M.F_is_sum_or_test.kp M.b_is_sum_or_test (takes_of rfl rfl rfl rfl) (ra_cons (re_var (pv 4)) (ra_cons (re_var (pv 3)) (ra_cons re_non ra_nil))))))))
  (rss_cons (rs_ex (re_append rfl (pv 8) (re_met (k := 7) (hr.mono (by decide)) rfl M.g__law_met M.F__law_met M.b__law_met sc__law_met rfl (.inl rfl) (by exact fun cdv => given__law_met M rfl rfl rfl cdv _) (B.t__law_right) (by exact hcv.symm.trans M.cd__law_right) (by exact (.head _)) (by exact hu_of M.nd (by exact (.head _))) (lamS_by (sc := defScope st__law_right) (by kernel_rfl)) rfl (by intros; rfl) (by exact fun A outer s H E f c' hr => (re_call (ok_is_sum_or_test M B) (hr.mono (by decide)) rfl M.g_is_sum_or_test M.F_is_sum_or_test.kp M.b_is_sum_or_test (takes_of rfl rfl rfl rfl) (ra_cons (re_var (pv 1)) (ra_cons (re_var (pv 3)) (ra_cons re_non ra_nil))))))))
  (rss_cons (rs_ex (re_append rfl (pv 8) (re_met (k := 7) (hr.mono (by decide)) rfl M.g__law_met M.F__law_met M.b__law_met sc__law_met rfl (.inl rfl) (by exact fun cdv => given__law_met M rfl rfl rfl cdv _) (B.t__law_right) (by exact hcv.symm.trans M.cd__law_right) (by exact (.head _)) (by exact hu_of M.nd (by exact (.head _))) (lamS_by (sc := defScope st__law_right) (by kernel_rfl)) rfl (by intros; rfl) (by exact fun A outer s H E f c' hr => (re_call (ok_met_or_bar M B) (hr.mono (by decide)) rfl M.g_met_or_bar M.F_met_or_bar.kp M.b_met_or_bar (takes_of rfl rfl rfl rfl) (ra_cons (re_var (pv 4)) (ra_cons (re_var (pv 6)) ra_nil)))))))
  (rss_cons (rs_ex (re_append rfl (pv 8) (re_met (k := 7) (hr.mono (by decide)) rfl M.g__law_met M.F__law_met M.b__law_met sc__law_met rfl (.inl rfl) (by exact fun cdv => given__law_met M rfl rfl rfl cdv _) (B.t__law_right) (by exact hcv.symm.trans M.cd__law_right) (by exact (.head _)) (by exact hu_of M.nd (by exact (.head _))) (lamS_by (sc := defScope st__law_right) (by kernel_rfl)) rfl (by intros; rfl) (by exact fun A outer s H E f c' hr => (re_call (ok_met_or_bar M B) (hr.mono (by decide)) rfl M.g_met_or_bar M.F_met_or_bar.kp M.b_met_or_bar (takes_of rfl rfl rfl rfl) (ra_cons (re_var (pv 1)) (ra_cons (re_var (pv 6)) ra_nil)))))))
  (rss_cons (rs_ex (re_append rfl (pv 8) (re_met (k := 7) (hr.mono (by decide)) rfl M.g__law_met M.F__law_met M.b__law_met sc__law_met rfl (.inl rfl) (by exact fun cdv => given__law_met M rfl rfl rfl cdv _) (B.t__law_right) (by exact hcv.symm.trans M.cd__law_right) (by exact (.head _)) (by exact hu_of M.nd (by exact (.head _))) (lamS_by (sc := defScope st__law_right) (by kernel_rfl)) rfl (by intros; rfl) (by exact fun A outer s H E f c' hr => (re_call (ok_is_met_or_bar M B) (hr.mono (by decide)) rfl M.g_is_met_or_bar M.F_is_met_or_bar.kp M.b_is_met_or_bar (takes_of rfl rfl rfl rfl) (ra_cons (re_var (pv 4)) (ra_cons (re_var (pv 6)) (ra_cons re_non ra_nil))))))))
  (rss_cons (rs_ex (re_append rfl (pv 8) (re_met (k := 7) (hr.mono (by decide)) rfl M.g__law_met M.F__law_met M.b__law_met sc__law_met rfl (.inl rfl) (by exact fun cdv => given__law_met M rfl rfl rfl cdv _) (B.t__law_right) (by exact hcv.symm.trans M.cd__law_right) (by exact (.head _)) (by exact hu_of M.nd (by exact (.head _))) (lamS_by (sc := defScope st__law_right) (by kernel_rfl)) rfl (by intros; rfl) (by exact fun A outer s H E f c' hr => (re_call (ok_is_met_or_bar M B) (hr.mono (by decide)) rfl M.g_is_met_or_bar M.F_is_met_or_bar.kp M.b_is_met_or_bar (takes_of rfl rfl rfl rfl) (ra_cons (re_var (pv 1)) (ra_cons (re_var (pv 6)) (ra_cons re_non ra_nil))))))))
  (rss_cons (rs_set sc__law_right.nd rfl (by first | exact .inl rfl | exact .inr rfl) (re_op op_addX oa_add (re_op op_addX oa_add (pv 9) (re_op op_mulXX oa_mul (re_fz (re_lst (ra_cons re_str ra_nil))) re_int)) (re_fz (re_lst (ra_cons re_str (ra_cons re_str (ra_cons re_str ra_nil)))))))
  (rss_cons (rs_ex (re_append rfl (pv 8) (re_met (k := 6) (hr.mono (by decide)) rfl M.g__law_met M.F__law_met M.b__law_met sc__law_met rfl (.inl rfl) (by exact fun cdv => given__law_met M rfl rfl rfl cdv _) (B.t__law_right) (by exact hcv.symm.trans M.cd__law_right) (by exact (.head _)) (by exact hu_of M.nd (by exact (.head _))) (lamS_by (sc := defScope st__law_right) (by kernel_rfl)) rfl (by intros; rfl) (by exact fun A outer s H E f c' hr => (re_call (ok_opposite_form M B) (hr.mono (by decide)) rfl M.g_opposite_form M.F_opposite_form.kp M.b_opposite_form (takes_of rfl rfl rfl rfl) (ra_cons (re_var (pv 7)) (ra_cons (re_var (pv 4)) ra_nil)))))))
  (rss_cons (rs_ex (re_append rfl (pv 8) (re_met (k := 6) (hr.mono (by decide)) rfl M.g__law_met M.F__law_met M.b__law_met sc__law_met rfl (.inl rfl) (by exact fun cdv => given__law_met M rfl rfl rfl cdv _) (B.t__law_right) (by exact hcv.symm.trans M.cd__law_right) (by exact (.head _)) (by exact hu_of M.nd (by exact (.head _))) (lamS_by (sc := defScope st__law_right) (by kernel_rfl)) rfl (by intros; rfl) (by exact fun A outer s H E f c' hr => (re_call (ok_opposite_form M B) (hr.mono (by decide)) rfl M.g_opposite_form M.F_opposite_form.kp M.b_opposite_form (takes_of rfl rfl rfl rfl) (ra_cons re_int (ra_cons (re_var (pv 4)) ra_nil)))))))
  (rss_cons (rs_ex (re_append rfl (pv 8) (re_met (k := 6) (hr.mono (by decide)) rfl M.g__law_met M.F__law_met M.b__law_met sc__law_met rfl (.inl rfl) (by exact fun cdv => given__law_met M rfl rfl rfl cdv _) (B.t__law_right) (by exact hcv.symm.trans M.cd__law_right) (by exact (.head _)) (by exact hu_of M.nd (by exact (.head _))) (lamS_by (sc := defScope st__law_right) (by kernel_rfl)) rfl (by intros; rfl) (by exact fun A outer s H E f c' hr => (re_call (ok_opposite_form M B) (hr.mono (by decide)) rfl M.g_opposite_form M.F_opposite_form.kp M.b_opposite_form (takes_of rfl rfl rfl rfl) (ra_cons re_int (ra_cons (re_tup (ra_cons (re_tup (ra_cons re_int (ra_cons re_int ra_nil))) (ra_cons (re_tup (ra_cons re_int (ra_cons re_int ra_nil))) ra_nil))) ra_nil)))))))
  (rss_cons (rs_ex (re_append rfl (pv 8) (re_met (k := 4) (hr.mono (by decide)) rfl M.g__law_met M.F__law_met M.b__law_met sc__law_met rfl (.inl rfl) (by exact fun cdv => given__law_met M rfl rfl rfl cdv _) (B.t__law_right) (by exact hcv.symm.trans M.cd__law_right) (by exact (.head _)) (by exact hu_of M.nd (by exact (.head _))) (lamS_by (sc := defScope st__law_right) (by kernel_rfl)) rfl (by intros; rfl) (by exact fun A outer s H E f c' hr => (re_call (ok_is_lot_of M B) (hr.mono (by decide)) rfl M.g_is_lot_of M.F_is_lot_of.kp M.b_is_lot_of (takes_of rfl rfl rfl rfl) (ra_cons (re_var (pv 7)) (ra_cons (re_var (pv 3)) ra_nil)))))))
  (rss_cons (rs_ex (re_append rfl (pv 8) (re_met (k := 6) (hr.mono (by decide)) rfl M.g__law_met M.F__law_met M.b__law_met sc__law_met rfl (.inl rfl) (by exact fun cdv => given__law_met M rfl rfl rfl cdv _) (B.t__law_right) (by exact hcv.symm.trans M.cd__law_right) (by exact (.head _)) (by exact hu_of M.nd (by exact (.head _))) (lamS_by (sc := defScope st__law_right) (by kernel_rfl)) rfl (by intros; rfl) (by exact fun A outer s H E f c' hr => (re_call (ok_opposite_form M B) (hr.mono (by decide)) rfl M.g_opposite_form M.F_opposite_form.kp M.b_opposite_form (takes_of rfl rfl rfl rfl) (ra_cons re_int (ra_cons (re_var (pv 1)) ra_nil)))))))
  (rss_cons (rs_set sc__law_right.nd rfl (by first | exact .inl rfl | exact .inr rfl) (re_op op_addX oa_add (pv 9) (re_fz (re_lst (ra_cons (re_op op_addX oa_add re_str (re_cb (cr_repr hr.g hr.units) oa_repr rfl M.z_repr bt_repr (ro_cons (pv 7) ro_nil))) (ra_cons re_str (ra_cons re_str (ra_cons (re_op op_addX oa_add re_str (re_cb (cr_repr hr.g hr.units) oa_repr rfl M.z_repr bt_repr (ro_cons (pv 7) ro_nil))) (ra_cons re_str ra_nil)))))))))
  (rss_one (rs_rt (re_and (re_cmp (op_eqD hr.units) oa_eq (pv 8) (re_fz (re_lc rfl sc__law_right.nd (blkOk_by (own := [("word", 10)]) (by kernel_rfl)) (by decide) (ri_any rfl (re_var (pv 9))) (fun _ _ _ _ _ => PGx fun _ => (rg_name sc__law_right.nd rfl (by first | exact .inl rfl | exact .inr rfl))) (fun _ _ _ _ _ => PTx0) (fun _ _ _ _ _ => PEx fun _ => (re_tup (ra_cons re_str (ra_cons (re_var (pv 10)) ra_nil)))))) (by first | exact nobehind _ (by decide) (by decide) | rfl)) (re_one (re_not (re_call (ok_is_lot_of M B) (hr.mono (by decide)) rfl M.g_is_lot_of M.F_is_lot_of.kp M.b_is_lot_of (takes_of rfl rfl rfl rfl) (ra_cons re_int (ra_cons (re_var (pv 3)) ra_nil)))))))))))))))))))))))))))))))))))))))
theorem ok_law (M : Md P K mg) (B : Bd M base) : FnG P w K mg base (L2.CX P w) 11 M.f_law M.fd_law ["script"] (spD (gc M) false 1 f_law) :=
  okD M.F_law sc_law (by decide) fun cdv A outer s H E H0 F0 hcv hr =>
  (rss_cons (rs_for (passes_of rfl) rfl (ri_range1 rfl M.z_range (re_cb (call_max2 rfl) oa_max2 rfl M.z_max bt_max (ro_cons re_int (ro_cons (re_cb (call_min2 rfl) oa_min2 rfl M.z_min bt_min (ro_cons re_int (ro_cons (re_cb call_lenX oa_len rfl M.z_len bt_len (ro_cons (pv 0) ro_nil)) ro_nil))) ro_nil)))) (rg_name sc_law.nd rfl (by first | exact .inl rfl | exact .inr rfl)) (rss_cons (rs_setO sc_law.nd rfl (by first | exact .inl rfl | exact .inr rfl) (re_callF (ok__law_dice M B) (hr.mono (by decide)) rfl M.g__law_dice M.F__law_dice.kp M.b__law_dice (takes_of rfl rfl rfl rfl) (ra_cons (re_var (pv 0)) (ra_cons (re_var (pv 1)) ra_nil))))
  (rss_one (rs_if (PW.pt (rw_or (rt_not (rt_val (re_callR (ok__law_right M B) (hr.mono (by decide)) rfl M.g__law_right M.F__law_right.kp M.b__law_right (takes_of rfl rfl rfl rfl) (pv 2) ra_nil))) (rw_or1 (rt_not (rt_val (re_callR (ok__law_right M B) (hr.mono (by decide)) rfl M.g__law_right M.F__law_right.kp M.b__law_right (takes_of rfl rfl rfl rfl) (pv 2) ra_nil)))))) (rss_one (rs_rt re_bl)) rss_nil))))
  (rss_cons (rs_set sc_law.nd rfl (by first | exact .inl rfl | exact .inr rfl) (re_ct call_tuple_of oa_tuple rfl M.z_tuple bt_tuple (ro_cons (re_fz (re_lc rfl sc_law.nd (blkOk_by (own := [("at", 5)]) (by kernel_rfl)) (by decide) (ri_range1 rfl M.z_range re_int) (fun _ _ _ _ _ => PGx fun _ => (rg_name sc_law.nd rfl (by first | exact .inl rfl | exact .inr rfl))) (fun _ _ _ _ _ => PTx0) (fun _ _ _ _ _ => PEx fun _ => (re_tup (ra_cons (re_op op_modN oa_mod (pv 5) re_int) ra_nil))))) ro_nil)))
  (rss_cons (rs_if (PW.pt (rw_or (rt_cmp (op_neD hr.units) oa_ne (re_call (ok_form_of M B) (hr.mono (by decide)) rfl M.g_form_of M.F_form_of.kp M.b_form_of (takes_of rfl rfl rfl rfl) (ra_cons (re_var (pv 3)) ra_nil)) (re_ct call_tuple_of oa_tuple rfl M.z_tuple bt_tuple (ro_cons (re_fz (re_lc rfl sc_law.nd (blkOk_by (own := [("at", 5)]) (by kernel_rfl)) (by decide) (ri_range1 rfl M.z_range re_int) (fun _ _ _ _ _ => PGx fun _ => (rg_name sc_law.nd rfl (by first | exact .inl rfl | exact .inr rfl))) (fun _ _ _ _ _ => PTx0) (fun _ _ _ _ _ => PEx fun _ => (re_tup (ra_cons (re_var (pv 5)) ra_nil))))) ro_nil)) (by first | exact nobehind _ (by decide) (by decide) | rfl)) (rw_or (rt_cmp (op_neD hr.units) oa_ne (re_call (ok_opposite_form M B) (hr.mono (by decide)) rfl M.g_opposite_form M.F_opposite_form.kp M.b_opposite_form (takes_of rfl rfl rfl rfl) (ra_cons re_int (ra_cons (re_var (pv 3)) ra_nil))) (re_tup ra_nil) (by first | exact nobehind _ (by decide) (by decide) | rfl)) (rw_or1 (rt_cmp (op_neD hr.units) oa_ne (re_call (ok_sum_of_pick M B) (hr.mono (by decide)) rfl M.g_sum_of_pick M.F_sum_of_pick.kp M.b_sum_of_pick (takes_of rfl rfl rfl rfl) (ra_cons (re_var (pv 3)) (ra_cons (re_tupRg rfl rfl M.z_tuple rfl M.z_range re_int) ra_nil))) (re_tupRg rfl rfl M.z_tuple rfl M.z_range re_int) (by first | exact nobehind _ (by decide) (by decide) | rfl)))))) (rss_one (rs_rt re_bl)) rss_nil)
  (rss_cons (rs_setO sc_law.nd rfl (by first | exact .inl rfl | exact .inr rfl) (re_lst (ra_cons (re_met (k := 6) (hr.mono (by decide)) rfl M.g__law_met M.F__law_met M.b__law_met sc__law_met rfl (.inl rfl) (by exact fun cdv => given__law_met M rfl rfl rfl cdv _) (B.t_law) (by exact hcv.symm.trans M.cd_law) (by exact (.tail _ (.head _))) (by exact hu_of M.nd (by exact (.tail _ (.head _)))) (lamS_by (sc := defScope st_law) (by kernel_rfl)) rfl (by intros; rfl) (by exact fun A outer s H E f c' hr => (re_call (ok_form_of M B) (hr.mono (by decide)) rfl M.g_form_of M.F_form_of.kp M.b_form_of (takes_of rfl rfl rfl rfl) (ra_cons (re_op op_addX oa_add (pv 3) (re_tup (ra_cons (re_tup (ra_cons re_int ra_nil)) ra_nil))) ra_nil)))) ra_nil)))
  (rss_cons (rs_ex (re_append rfl (pv 4) (re_met (k := 7) (hr.mono (by decide)) rfl M.g__law_met M.F__law_met M.b__law_met sc__law_met rfl (.inl rfl) (by exact fun cdv => given__law_met M rfl rfl rfl cdv _) (B.t_law) (by exact hcv.symm.trans M.cd_law) (by exact (.tail _ (.head _))) (by exact hu_of M.nd (by exact (.tail _ (.head _)))) (lamS_by (sc := defScope st_law) (by kernel_rfl)) rfl (by intros; rfl) (by exact fun A outer s H E f c' hr => (re_call (ok_met_or_bar M B) (hr.mono (by decide)) rfl M.g_met_or_bar M.F_met_or_bar.kp M.b_met_or_bar (takes_of rfl rfl rfl rfl) (ra_cons (re_tup ra_nil) (ra_cons (re_tup ra_nil) ra_nil)))))))
  (rss_cons (rs_ex (re_append rfl (pv 4) (re_met (k := 7) (hr.mono (by decide)) rfl M.g__law_met M.F__law_met M.b__law_met sc__law_met rfl (.inl rfl) (by exact fun cdv => given__law_met M rfl rfl rfl cdv _) (B.t_law) (by exact hcv.symm.trans M.cd_law) (by exact (.tail _ (.head _))) (by exact hu_of M.nd (by exact (.tail _ (.head _)))) (lamS_by (sc := defScope st_law) (by kernel_rfl)) rfl (by intros; rfl) (by exact fun A outer s H E f c' hr => (re_call (ok_met_or_bar M B) (hr.mono (by decide)) rfl M.g_met_or_bar M.F_met_or_bar.kp M.b_met_or_bar (takes_of rfl rfl rfl rfl) (ra_cons (re_tup ra_nil) (ra_cons (re_tup (ra_cons re_int ra_nil)) ra_nil)))))))
  (rss_one (rs_rt (re_cmp (op_eqD hr.units) oa_eq (pv 4) (re_fz (re_lst (ra_cons (re_tup (ra_cons re_str (ra_cons re_str ra_nil))) (ra_cons (re_tup (ra_cons re_str (ra_cons re_str ra_nil))) (ra_cons (re_tup (ra_cons re_str (ra_cons re_str ra_nil))) ra_nil))))) (by first | exact nobehind _ (by decide) (by decide) | rfl))))))))))
end
def md_of {P : Program} {K : PySem.W.Frag} {h : Heap} {mg : Str → Option Value} (X : K.In h) (G : h.Ns mainGlobals mg)
  {od0 an0 : Option Addr} {sl0 : Array (Option Value)} {oc0 kV0 dc0 pm0 cd0 ct0 : Value} {f0 : Addr}
  (a0 : PySem.W.nsIn K mainGlobals "_law_dice" = some (some (.ref f0))) (l0 : K.lookup f0 = some ⟨oc0, od0, .func (PySem.W.fnOf "_law_dice" "_law_dice" (defArgs st__law_dice) (defBody st__law_dice) (defScope st__law_dice) .none kV0 dc0 pm0 an0 cd0 ct0), sl0⟩) (c0 : PySem.W.codeIn K cd0 "_law_dice" = true) (k0 : PySem.W.keepIn K (.ref f0) = true)
  {od1 an1 : Option Addr} {sl1 : Array (Option Value)} {oc1 kV1 dc1 pm1 cd1 ct1 : Value} {f1 : Addr}
  (a1 : PySem.W.nsIn K mainGlobals "_law_met" = some (some (.ref f1))) (l1 : K.lookup f1 = some ⟨oc1, od1, .func (PySem.W.fnOf "_law_met" "_law_met" (defArgs st__law_met) (defBody st__law_met) (defScope st__law_met) .none kV1 dc1 pm1 an1 cd1 ct1), sl1⟩) (c1 : PySem.W.codeIn K cd1 "_law_met" = true) (k1 : PySem.W.keepIn K (.ref f1) = true)
  {od2 an2 : Option Addr} {sl2 : Array (Option Value)} {oc2 kV2 dc2 pm2 cd2 ct2 : Value} {f2 : Addr}
  (a2 : PySem.W.nsIn K mainGlobals "is_whole" = some (some (.ref f2))) (l2 : K.lookup f2 = some ⟨oc2, od2, .func (PySem.W.fnOf "is_whole" "is_whole" (defArgs st_is_whole) (defBody st_is_whole) (defScope st_is_whole) .none kV2 dc2 pm2 an2 cd2 ct2), sl2⟩) (c2 : PySem.W.codeIn K cd2 "is_whole" = true) (k2 : PySem.W.keepIn K (.ref f2) = true)
  {od3 an3 : Option Addr} {sl3 : Array (Option Value)} {oc3 kV3 dc3 pm3 cd3 ct3 : Value} {f3 : Addr}
  (a3 : PySem.W.nsIn K mainGlobals "is_below" = some (some (.ref f3))) (l3 : K.lookup f3 = some ⟨oc3, od3, .func (PySem.W.fnOf "is_below" "is_below" (defArgs st_is_below) (defBody st_is_below) (defScope st_is_below) .none kV3 dc3 pm3 an3 cd3 ct3), sl3⟩) (c3 : PySem.W.codeIn K cd3 "is_below" = true) (k3 : PySem.W.keepIn K (.ref f3) = true)
  {od4 an4 : Option Addr} {sl4 : Array (Option Value)} {oc4 kV4 dc4 pm4 cd4 ct4 : Value} {f4 : Addr}
  (a4 : PySem.W.nsIn K mainGlobals "is_rising" = some (some (.ref f4))) (l4 : K.lookup f4 = some ⟨oc4, od4, .func (PySem.W.fnOf "is_rising" "is_rising" (defArgs st_is_rising) (defBody st_is_rising) (defScope st_is_rising) .none kV4 dc4 pm4 an4 cd4 ct4), sl4⟩) (c4 : PySem.W.codeIn K cd4 "is_rising" = true) (k4 : PySem.W.keepIn K (.ref f4) = true)
  {od5 an5 : Option Addr} {sl5 : Array (Option Value)} {oc5 kV5 dc5 pm5 cd5 ct5 : Value} {f5 : Addr}
  (a5 : PySem.W.nsIn K mainGlobals "are_lots_in" = some (some (.ref f5))) (l5 : K.lookup f5 = some ⟨oc5, od5, .func (PySem.W.fnOf "are_lots_in" "are_lots_in" (defArgs st_are_lots_in) (defBody st_are_lots_in) (defScope st_are_lots_in) .none kV5 dc5 pm5 an5 cd5 ct5), sl5⟩) (c5 : PySem.W.codeIn K cd5 "are_lots_in" = true) (k5 : PySem.W.keepIn K (.ref f5) = true)
  {od6 an6 : Option Addr} {sl6 : Array (Option Value)} {oc6 kV6 dc6 pm6 cd6 ct6 : Value} {f6 : Addr}
  (a6 : PySem.W.nsIn K mainGlobals "require_lots" = some (some (.ref f6))) (l6 : K.lookup f6 = some ⟨oc6, od6, .func (PySem.W.fnOf "require_lots" "require_lots" (defArgs st_require_lots) (defBody st_require_lots) (defScope st_require_lots) .none kV6 dc6 pm6 an6 cd6 ct6), sl6⟩) (c6 : PySem.W.codeIn K cd6 "require_lots" = true) (k6 : PySem.W.keepIn K (.ref f6) = true)
  {od7 an7 : Option Addr} {sl7 : Array (Option Value)} {oc7 kV7 dc7 pm7 cd7 ct7 : Value} {f7 : Addr}
  (a7 : PySem.W.nsIn K mainGlobals "lot_of" = some (some (.ref f7))) (l7 : K.lookup f7 = some ⟨oc7, od7, .func (PySem.W.fnOf "lot_of" "lot_of" (defArgs st_lot_of) (defBody st_lot_of) (defScope st_lot_of) .none kV7 dc7 pm7 an7 cd7 ct7), sl7⟩) (c7 : PySem.W.codeIn K cd7 "lot_of" = true) (k7 : PySem.W.keepIn K (.ref f7) = true)
  {od8 an8 : Option Addr} {sl8 : Array (Option Value)} {oc8 kV8 dc8 pm8 cd8 ct8 : Value} {f8 : Addr}
  (a8 : PySem.W.nsIn K mainGlobals "told_lots" = some (some (.ref f8))) (l8 : K.lookup f8 = some ⟨oc8, od8, .func (PySem.W.fnOf "told_lots" "told_lots" (defArgs st_told_lots) (defBody st_told_lots) (defScope st_told_lots) .none kV8 dc8 pm8 an8 cd8 ct8), sl8⟩) (c8 : PySem.W.codeIn K cd8 "told_lots" = true) (k8 : PySem.W.keepIn K (.ref f8) = true)
  {od9 an9 : Option Addr} {sl9 : Array (Option Value)} {oc9 kV9 dc9 pm9 cd9 ct9 : Value} {f9 : Addr}
  (a9 : PySem.W.nsIn K mainGlobals "head_of" = some (some (.ref f9))) (l9 : K.lookup f9 = some ⟨oc9, od9, .func (PySem.W.fnOf "head_of" "head_of" (defArgs st_head_of) (defBody st_head_of) (defScope st_head_of) .none kV9 dc9 pm9 an9 cd9 ct9), sl9⟩) (c9 : PySem.W.codeIn K cd9 "head_of" = true) (k9 : PySem.W.keepIn K (.ref f9) = true)
  {od10 an10 : Option Addr} {sl10 : Array (Option Value)} {oc10 kV10 dc10 pm10 cd10 ct10 : Value} {f10 : Addr}
  (a10 : PySem.W.nsIn K mainGlobals "told_form" = some (some (.ref f10))) (l10 : K.lookup f10 = some ⟨oc10, od10, .func (PySem.W.fnOf "told_form" "told_form" (defArgs st_told_form) (defBody st_told_form) (defScope st_told_form) .none kV10 dc10 pm10 an10 cd10 ct10), sl10⟩) (c10 : PySem.W.codeIn K cd10 "told_form" = true) (k10 : PySem.W.keepIn K (.ref f10) = true)
  {od11 an11 : Option Addr} {sl11 : Array (Option Value)} {oc11 kV11 dc11 pm11 cd11 ct11 : Value} {f11 : Addr}
  (a11 : PySem.W.nsIn K mainGlobals "form_masks" = some (some (.ref f11))) (l11 : K.lookup f11 = some ⟨oc11, od11, .func (PySem.W.fnOf "form_masks" "form_masks" (defArgs st_form_masks) (defBody st_form_masks) (defScope st_form_masks) .none kV11 dc11 pm11 an11 cd11 ct11), sl11⟩) (c11 : PySem.W.codeIn K cd11 "form_masks" = true) (k11 : PySem.W.keepIn K (.ref f11) = true)
  {od12 an12 : Option Addr} {sl12 : Array (Option Value)} {oc12 kV12 dc12 pm12 cd12 ct12 : Value} {f12 : Addr}
  (a12 : PySem.W.nsIn K mainGlobals "mask_of" = some (some (.ref f12))) (l12 : K.lookup f12 = some ⟨oc12, od12, .func (PySem.W.fnOf "mask_of" "mask_of" (defArgs st_mask_of) (defBody st_mask_of) (defScope st_mask_of) .none kV12 dc12 pm12 an12 cd12 ct12), sl12⟩) (c12 : PySem.W.codeIn K cd12 "mask_of" = true) (k12 : PySem.W.keepIn K (.ref f12) = true)
  {od13 an13 : Option Addr} {sl13 : Array (Option Value)} {oc13 kV13 dc13 pm13 cd13 ct13 : Value} {f13 : Addr}
  (a13 : PySem.W.nsIn K mainGlobals "masks_of" = some (some (.ref f13))) (l13 : K.lookup f13 = some ⟨oc13, od13, .func (PySem.W.fnOf "masks_of" "masks_of" (defArgs st_masks_of) (defBody st_masks_of) (defScope st_masks_of) .none kV13 dc13 pm13 an13 cd13 ct13), sl13⟩) (c13 : PySem.W.codeIn K cd13 "masks_of" = true) (k13 : PySem.W.keepIn K (.ref f13) = true)
  {od14 an14 : Option Addr} {sl14 : Array (Option Value)} {oc14 kV14 dc14 pm14 cd14 ct14 : Value} {f14 : Addr}
  (a14 : PySem.W.nsIn K mainGlobals "form_of" = some (some (.ref f14))) (l14 : K.lookup f14 = some ⟨oc14, od14, .func (PySem.W.fnOf "form_of" "form_of" (defArgs st_form_of) (defBody st_form_of) (defScope st_form_of) .none kV14 dc14 pm14 an14 cd14 ct14), sl14⟩) (c14 : PySem.W.codeIn K cd14 "form_of" = true) (k14 : PySem.W.keepIn K (.ref f14) = true)
  {od15 an15 : Option Addr} {sl15 : Array (Option Value)} {oc15 kV15 dc15 pm15 cd15 ct15 : Value} {f15 : Addr}
  (a15 : PySem.W.nsIn K mainGlobals "require_many" = some (some (.ref f15))) (l15 : K.lookup f15 = some ⟨oc15, od15, .func (PySem.W.fnOf "require_many" "require_many" (defArgs st_require_many) (defBody st_require_many) (defScope st_require_many) .none kV15 dc15 pm15 an15 cd15 ct15), sl15⟩) (c15 : PySem.W.codeIn K cd15 "require_many" = true) (k15 : PySem.W.keepIn K (.ref f15) = true)
  {od16 an16 : Option Addr} {sl16 : Array (Option Value)} {oc16 kV16 dc16 pm16 cd16 ct16 : Value} {f16 : Addr}
  (a16 : PySem.W.nsIn K mainGlobals "opposite_masks" = some (some (.ref f16))) (l16 : K.lookup f16 = some ⟨oc16, od16, .func (PySem.W.fnOf "opposite_masks" "opposite_masks" (defArgs st_opposite_masks) (defBody st_opposite_masks) (defScope st_opposite_masks) .none kV16 dc16 pm16 an16 cd16 ct16), sl16⟩) (c16 : PySem.W.codeIn K cd16 "opposite_masks" = true) (k16 : PySem.W.keepIn K (.ref f16) = true)
  {od17 an17 : Option Addr} {sl17 : Array (Option Value)} {oc17 kV17 dc17 pm17 cd17 ct17 : Value} {f17 : Addr}
  (a17 : PySem.W.nsIn K mainGlobals "opposite_form" = some (some (.ref f17))) (l17 : K.lookup f17 = some ⟨oc17, od17, .func (PySem.W.fnOf "opposite_form" "opposite_form" (defArgs st_opposite_form) (defBody st_opposite_form) (defScope st_opposite_form) .none kV17 dc17 pm17 an17 cd17 ct17), sl17⟩) (c17 : PySem.W.codeIn K cd17 "opposite_form" = true) (k17 : PySem.W.keepIn K (.ref f17) = true)
  {od18 an18 : Option Addr} {sl18 : Array (Option Value)} {oc18 kV18 dc18 pm18 cd18 ct18 : Value} {f18 : Addr}
  (a18 : PySem.W.nsIn K mainGlobals "sum_of_masks" = some (some (.ref f18))) (l18 : K.lookup f18 = some ⟨oc18, od18, .func (PySem.W.fnOf "sum_of_masks" "sum_of_masks" (defArgs st_sum_of_masks) (defBody st_sum_of_masks) (defScope st_sum_of_masks) .none kV18 dc18 pm18 an18 cd18 ct18), sl18⟩) (c18 : PySem.W.codeIn K cd18 "sum_of_masks" = true) (k18 : PySem.W.keepIn K (.ref f18) = true)
  {od19 an19 : Option Addr} {sl19 : Array (Option Value)} {oc19 kV19 dc19 pm19 cd19 ct19 : Value} {f19 : Addr}
  (a19 : PySem.W.nsIn K mainGlobals "sum_of_pick" = some (some (.ref f19))) (l19 : K.lookup f19 = some ⟨oc19, od19, .func (PySem.W.fnOf "sum_of_pick" "sum_of_pick" (defArgs st_sum_of_pick) (defBody st_sum_of_pick) (defScope st_sum_of_pick) .none kV19 dc19 pm19 an19 cd19 ct19), sl19⟩) (c19 : PySem.W.codeIn K cd19 "sum_of_pick" = true) (k19 : PySem.W.keepIn K (.ref f19) = true)
  {od20 an20 : Option Addr} {sl20 : Array (Option Value)} {oc20 kV20 dc20 pm20 cd20 ct20 : Value} {f20 : Addr}
  (a20 : PySem.W.nsIn K mainGlobals "_law_roll" = some (some (.ref f20))) (l20 : K.lookup f20 = some ⟨oc20, od20, .func (PySem.W.fnOf "_law_roll" "_law_roll" (defArgs st__law_roll) (defBody st__law_roll) (defScope st__law_roll) .none kV20 dc20 pm20 an20 cd20 ct20), sl20⟩) (c20 : PySem.W.codeIn K cd20 "_law_roll" = true) (k20 : PySem.W.keepIn K (.ref f20) = true)
  {od21 an21 : Option Addr} {sl21 : Array (Option Value)} {oc21 kV21 dc21 pm21 cd21 ct21 : Value} {f21 : Addr}
  (a21 : PySem.W.nsIn K mainGlobals "_law_pick" = some (some (.ref f21))) (l21 : K.lookup f21 = some ⟨oc21, od21, .func (PySem.W.fnOf "_law_pick" "_law_pick" (defArgs st__law_pick) (defBody st__law_pick) (defScope st__law_pick) .none kV21 dc21 pm21 an21 cd21 ct21), sl21⟩) (c21 : PySem.W.codeIn K cd21 "_law_pick" = true) (k21 : PySem.W.keepIn K (.ref f21) = true)
  {od22 an22 : Option Addr} {sl22 : Array (Option Value)} {oc22 kV22 dc22 pm22 cd22 ct22 : Value} {f22 : Addr}
  (a22 : PySem.W.nsIn K mainGlobals "is_lot_of" = some (some (.ref f22))) (l22 : K.lookup f22 = some ⟨oc22, od22, .func (PySem.W.fnOf "is_lot_of" "is_lot_of" (defArgs st_is_lot_of) (defBody st_is_lot_of) (defScope st_is_lot_of) .none kV22 dc22 pm22 an22 cd22 ct22), sl22⟩) (c22 : PySem.W.codeIn K cd22 "is_lot_of" = true) (k22 : PySem.W.keepIn K (.ref f22) = true)
  {od23 an23 : Option Addr} {sl23 : Array (Option Value)} {oc23 kV23 dc23 pm23 cd23 ct23 : Value} {f23 : Addr}
  (a23 : PySem.W.nsIn K mainGlobals "require_lot" = some (some (.ref f23))) (l23 : K.lookup f23 = some ⟨oc23, od23, .func (PySem.W.fnOf "require_lot" "require_lot" (defArgs st_require_lot) (defBody st_require_lot) (defScope st_require_lot) .none kV23 dc23 pm23 an23 cd23 ct23), sl23⟩) (c23 : PySem.W.codeIn K cd23 "require_lot" = true) (k23 : PySem.W.keepIn K (.ref f23) = true)
  {od24 an24 : Option Addr} {sl24 : Array (Option Value)} {oc24 kV24 dc24 pm24 cd24 ct24 : Value} {f24 : Addr}
  (a24 : PySem.W.nsIn K mainGlobals "require_two" = some (some (.ref f24))) (l24 : K.lookup f24 = some ⟨oc24, od24, .func (PySem.W.fnOf "require_two" "require_two" (defArgs st_require_two) (defBody st_require_two) (defScope st_require_two) .none kV24 dc24 pm24 an24 cd24 ct24), sl24⟩) (c24 : PySem.W.codeIn K cd24 "require_two" = true) (k24 : PySem.W.keepIn K (.ref f24) = true)
  {od25 an25 : Option Addr} {sl25 : Array (Option Value)} {oc25 kV25 dc25 pm25 cd25 ct25 : Value} {f25 : Addr}
  (a25 : PySem.W.nsIn K mainGlobals "lot_sum" = some (some (.ref f25))) (l25 : K.lookup f25 = some ⟨oc25, od25, .func (PySem.W.fnOf "lot_sum" "lot_sum" (defArgs st_lot_sum) (defBody st_lot_sum) (defScope st_lot_sum) .none kV25 dc25 pm25 an25 cd25 ct25), sl25⟩) (c25 : PySem.W.codeIn K cd25 "lot_sum" = true) (k25 : PySem.W.keepIn K (.ref f25) = true)
  {od26 an26 : Option Addr} {sl26 : Array (Option Value)} {oc26 kV26 dc26 pm26 cd26 ct26 : Value} {f26 : Addr}
  (a26 : PySem.W.nsIn K mainGlobals "size_of" = some (some (.ref f26))) (l26 : K.lookup f26 = some ⟨oc26, od26, .func (PySem.W.fnOf "size_of" "size_of" (defArgs st_size_of) (defBody st_size_of) (defScope st_size_of) .none kV26 dc26 pm26 an26 cd26 ct26), sl26⟩) (c26 : PySem.W.codeIn K cd26 "size_of" = true) (k26 : PySem.W.keepIn K (.ref f26) = true)
  {od27 an27 : Option Addr} {sl27 : Array (Option Value)} {oc27 kV27 dc27 pm27 cd27 ct27 : Value} {f27 : Addr}
  (a27 : PySem.W.nsIn K mainGlobals "is_odd" = some (some (.ref f27))) (l27 : K.lookup f27 = some ⟨oc27, od27, .func (PySem.W.fnOf "is_odd" "is_odd" (defArgs st_is_odd) (defBody st_is_odd) (defScope st_is_odd) .none kV27 dc27 pm27 an27 cd27 ct27), sl27⟩) (c27 : PySem.W.codeIn K cd27 "is_odd" = true) (k27 : PySem.W.keepIn K (.ref f27) = true)
  {od28 an28 : Option Addr} {sl28 : Array (Option Value)} {oc28 kV28 dc28 pm28 cd28 ct28 : Value} {f28 : Addr}
  (a28 : PySem.W.nsIn K mainGlobals "does_meet_oddly" = some (some (.ref f28))) (l28 : K.lookup f28 = some ⟨oc28, od28, .func (PySem.W.fnOf "does_meet_oddly" "does_meet_oddly" (defArgs st_does_meet_oddly) (defBody st_does_meet_oddly) (defScope st_does_meet_oddly) .none kV28 dc28 pm28 an28 cd28 ct28), sl28⟩) (c28 : PySem.W.codeIn K cd28 "does_meet_oddly" = true) (k28 : PySem.W.keepIn K (.ref f28) = true)
  {od29 an29 : Option Addr} {sl29 : Array (Option Value)} {oc29 kV29 dc29 pm29 cd29 ct29 : Value} {f29 : Addr}
  (a29 : PySem.W.nsIn K mainGlobals "common_masks" = some (some (.ref f29))) (l29 : K.lookup f29 = some ⟨oc29, od29, .func (PySem.W.fnOf "common_masks" "common_masks" (defArgs st_common_masks) (defBody st_common_masks) (defScope st_common_masks) .none kV29 dc29 pm29 an29 cd29 ct29), sl29⟩) (c29 : PySem.W.codeIn K cd29 "common_masks" = true) (k29 : PySem.W.keepIn K (.ref f29) = true)
  {od30 an30 : Option Addr} {sl30 : Array (Option Value)} {oc30 kV30 dc30 pm30 cd30 ct30 : Value} {f30 : Addr}
  (a30 : PySem.W.nsIn K mainGlobals "common_form" = some (some (.ref f30))) (l30 : K.lookup f30 = some ⟨oc30, od30, .func (PySem.W.fnOf "common_form" "common_form" (defArgs st_common_form) (defBody st_common_form) (defScope st_common_form) .none kV30 dc30 pm30 an30 cd30 ct30), sl30⟩) (c30 : PySem.W.codeIn K cd30 "common_form" = true) (k30 : PySem.W.keepIn K (.ref f30) = true)
  {od31 an31 : Option Addr} {sl31 : Array (Option Value)} {oc31 kV31 dc31 pm31 cd31 ct31 : Value} {f31 : Addr}
  (a31 : PySem.W.nsIn K mainGlobals "require_lots_and_lot" = some (some (.ref f31))) (l31 : K.lookup f31 = some ⟨oc31, od31, .func (PySem.W.fnOf "require_lots_and_lot" "require_lots_and_lot" (defArgs st_require_lots_and_lot) (defBody st_require_lots_and_lot) (defScope st_require_lots_and_lot) .none kV31 dc31 pm31 an31 cd31 ct31), sl31⟩) (c31 : PySem.W.codeIn K cd31 "require_lots_and_lot" = true) (k31 : PySem.W.keepIn K (.ref f31) = true)
  {od32 an32 : Option Addr} {sl32 : Array (Option Value)} {oc32 kV32 dc32 pm32 cd32 ct32 : Value} {f32 : Addr}
  (a32 : PySem.W.nsIn K mainGlobals "reduced" = some (some (.ref f32))) (l32 : K.lookup f32 = some ⟨oc32, od32, .func (PySem.W.fnOf "reduced" "reduced" (defArgs st_reduced) (defBody st_reduced) (defScope st_reduced) .none kV32 dc32 pm32 an32 cd32 ct32), sl32⟩) (c32 : PySem.W.codeIn K cd32 "reduced" = true) (k32 : PySem.W.keepIn K (.ref f32) = true)
  {od33 an33 : Option Addr} {sl33 : Array (Option Value)} {oc33 kV33 dc33 pm33 cd33 ct33 : Value} {f33 : Addr}
  (a33 : PySem.W.nsIn K mainGlobals "is_sum_in" = some (some (.ref f33))) (l33 : K.lookup f33 = some ⟨oc33, od33, .func (PySem.W.fnOf "is_sum_in" "is_sum_in" (defArgs st_is_sum_in) (defBody st_is_sum_in) (defScope st_is_sum_in) .none kV33 dc33 pm33 an33 cd33 ct33), sl33⟩) (c33 : PySem.W.codeIn K cd33 "is_sum_in" = true) (k33 : PySem.W.keepIn K (.ref f33) = true)
  {od34 an34 : Option Addr} {sl34 : Array (Option Value)} {oc34 kV34 dc34 pm34 cd34 ct34 : Value} {f34 : Addr}
  (a34 : PySem.W.nsIn K mainGlobals "test_mask" = some (some (.ref f34))) (l34 : K.lookup f34 = some ⟨oc34, od34, .func (PySem.W.fnOf "test_mask" "test_mask" (defArgs st_test_mask) (defBody st_test_mask) (defScope st_test_mask) .none kV34 dc34 pm34 an34 cd34 ct34), sl34⟩) (c34 : PySem.W.codeIn K cd34 "test_mask" = true) (k34 : PySem.W.keepIn K (.ref f34) = true)
  {od35 an35 : Option Addr} {sl35 : Array (Option Value)} {oc35 kV35 dc35 pm35 cd35 ct35 : Value} {f35 : Addr}
  (a35 : PySem.W.nsIn K mainGlobals "sum_or_test" = some (some (.ref f35))) (l35 : K.lookup f35 = some ⟨oc35, od35, .func (PySem.W.fnOf "sum_or_test" "sum_or_test" (defArgs st_sum_or_test) (defBody st_sum_or_test) (defScope st_sum_or_test) .none kV35 dc35 pm35 an35 cd35 ct35), sl35⟩) (c35 : PySem.W.codeIn K cd35 "sum_or_test" = true) (k35 : PySem.W.keepIn K (.ref f35) = true)
  {od36 an36 : Option Addr} {sl36 : Array (Option Value)} {oc36 kV36 dc36 pm36 cd36 ct36 : Value} {f36 : Addr}
  (a36 : PySem.W.nsIn K mainGlobals "is_told" = some (some (.ref f36))) (l36 : K.lookup f36 = some ⟨oc36, od36, .func (PySem.W.fnOf "is_told" "is_told" (defArgs st_is_told) (defBody st_is_told) (defScope st_is_told) .none kV36 dc36 pm36 an36 cd36 ct36), sl36⟩) (c36 : PySem.W.codeIn K cd36 "is_told" = true) (k36 : PySem.W.keepIn K (.ref f36) = true)
  {od37 an37 : Option Addr} {sl37 : Array (Option Value)} {oc37 kV37 dc37 pm37 cd37 ct37 : Value} {f37 : Addr}
  (a37 : PySem.W.nsIn K mainGlobals "is_sum_or_test" = some (some (.ref f37))) (l37 : K.lookup f37 = some ⟨oc37, od37, .func (PySem.W.fnOf "is_sum_or_test" "is_sum_or_test" (defArgs st_is_sum_or_test) (defBody st_is_sum_or_test) (defScope st_is_sum_or_test) .none kV37 dc37 pm37 an37 cd37 ct37), sl37⟩) (c37 : PySem.W.codeIn K cd37 "is_sum_or_test" = true) (k37 : PySem.W.keepIn K (.ref f37) = true)
  {od38 an38 : Option Addr} {sl38 : Array (Option Value)} {oc38 kV38 dc38 pm38 cd38 ct38 : Value} {f38 : Addr}
  (a38 : PySem.W.nsIn K mainGlobals "is_bit" = some (some (.ref f38))) (l38 : K.lookup f38 = some ⟨oc38, od38, .func (PySem.W.fnOf "is_bit" "is_bit" (defArgs st_is_bit) (defBody st_is_bit) (defScope st_is_bit) .none kV38 dc38 pm38 an38 cd38 ct38), sl38⟩) (c38 : PySem.W.codeIn K cd38 "is_bit" = true) (k38 : PySem.W.keepIn K (.ref f38) = true)
  {od39 an39 : Option Addr} {sl39 : Array (Option Value)} {oc39 kV39 dc39 pm39 cd39 ct39 : Value} {f39 : Addr}
  (a39 : PySem.W.nsIn K mainGlobals "require_bits" = some (some (.ref f39))) (l39 : K.lookup f39 = some ⟨oc39, od39, .func (PySem.W.fnOf "require_bits" "require_bits" (defArgs st_require_bits) (defBody st_require_bits) (defScope st_require_bits) .none kV39 dc39 pm39 an39 cd39 ct39), sl39⟩) (c39 : PySem.W.codeIn K cd39 "require_bits" = true) (k39 : PySem.W.keepIn K (.ref f39) = true)
  {od40 an40 : Option Addr} {sl40 : Array (Option Value)} {oc40 kV40 dc40 pm40 cd40 ct40 : Value} {f40 : Addr}
  (a40 : PySem.W.nsIn K mainGlobals "met_by" = some (some (.ref f40))) (l40 : K.lookup f40 = some ⟨oc40, od40, .func (PySem.W.fnOf "met_by" "met_by" (defArgs st_met_by) (defBody st_met_by) (defScope st_met_by) .none kV40 dc40 pm40 an40 cd40 ct40), sl40⟩) (c40 : PySem.W.codeIn K cd40 "met_by" = true) (k40 : PySem.W.keepIn K (.ref f40) = true)
  {od41 an41 : Option Addr} {sl41 : Array (Option Value)} {oc41 kV41 dc41 pm41 cd41 ct41 : Value} {f41 : Addr}
  (a41 : PySem.W.nsIn K mainGlobals "met_or_bar" = some (some (.ref f41))) (l41 : K.lookup f41 = some ⟨oc41, od41, .func (PySem.W.fnOf "met_or_bar" "met_or_bar" (defArgs st_met_or_bar) (defBody st_met_or_bar) (defScope st_met_or_bar) .none kV41 dc41 pm41 an41 cd41 ct41), sl41⟩) (c41 : PySem.W.codeIn K cd41 "met_or_bar" = true) (k41 : PySem.W.keepIn K (.ref f41) = true)
  {od42 an42 : Option Addr} {sl42 : Array (Option Value)} {oc42 kV42 dc42 pm42 cd42 ct42 : Value} {f42 : Addr}
  (a42 : PySem.W.nsIn K mainGlobals "is_met_or_bar" = some (some (.ref f42))) (l42 : K.lookup f42 = some ⟨oc42, od42, .func (PySem.W.fnOf "is_met_or_bar" "is_met_or_bar" (defArgs st_is_met_or_bar) (defBody st_is_met_or_bar) (defScope st_is_met_or_bar) .none kV42 dc42 pm42 an42 cd42 ct42), sl42⟩) (c42 : PySem.W.codeIn K cd42 "is_met_or_bar" = true) (k42 : PySem.W.keepIn K (.ref f42) = true)
  {od43 an43 : Option Addr} {sl43 : Array (Option Value)} {oc43 kV43 dc43 pm43 ct43 : Value} {f43 cc43 P43 : Addr}
  (a43 : PySem.W.nsIn K mainGlobals "_law_right" = some (some (.ref f43))) (l43 : K.lookup f43 = some ⟨oc43, od43, .func (PySem.W.fnOf "_law_right" "_law_right" (defArgs st__law_right) (defBody st__law_right) (defScope st__law_right) .none kV43 dc43 pm43 an43 (.ref cc43) ct43), sl43⟩) (c43 : PySem.W.codeIn K (.ref cc43) "_law_right" = true) (k43 : PySem.W.keepIn K (.ref f43) = true)
  {od44 an44 : Option Addr} {sl44 : Array (Option Value)} {oc44 kV44 dc44 pm44 ct44 : Value} {f44 cc44 P44 : Addr}
  (a44 : PySem.W.nsIn K mainGlobals "law" = some (some (.ref f44))) (l44 : K.lookup f44 = some ⟨oc44, od44, .func (PySem.W.fnOf "law" "law" (defArgs st_law) (defBody st_law) (defScope st_law) .none kV44 dc44 pm44 an44 (.ref cc44) ct44), sl44⟩) (c44 : PySem.W.codeIn K (.ref cc44) "law" = true) (k44 : PySem.W.keepIn K (.ref f44) = true)
  (z0 : PySem.W.nsIn K mainGlobals "abs" = some none)
  (z1 : PySem.W.nsIn K mainGlobals "all" = some none)
  (z2 : PySem.W.nsIn K mainGlobals "any" = some none)
  (z3 : PySem.W.nsIn K mainGlobals "bool" = some none)
  (z4 : PySem.W.nsIn K mainGlobals "enumerate" = some none)
  (z5 : PySem.W.nsIn K mainGlobals "int" = some none)
  (z6 : PySem.W.nsIn K mainGlobals "isinstance" = some none)
  (z7 : PySem.W.nsIn K mainGlobals "len" = some none)
  (z8 : PySem.W.nsIn K mainGlobals "max" = some none)
  (z9 : PySem.W.nsIn K mainGlobals "min" = some none)
  (z10 : PySem.W.nsIn K mainGlobals "range" = some none)
  (z11 : PySem.W.nsIn K mainGlobals "repr" = some none)
  (z12 : PySem.W.nsIn K mainGlobals "sorted" = some none)
  (z13 : PySem.W.nsIn K mainGlobals "str" = some none)
  (z14 : PySem.W.nsIn K mainGlobals "sum" = some none)
  (z15 : PySem.W.nsIn K mainGlobals "tuple" = some none)
  (z16 : PySem.W.nsIn K mainGlobals "zip" = some none)
  {t0 : Tok} (v0 : PySem.W.nsIn K mainGlobals "BAR" = some (some (.str "bar" t0)))
  {t1 : Tok} (v1 : PySem.W.nsIn K mainGlobals "LOT" = some (some (.str "lot" t1)))
  {t2 : Tok} (v2 : PySem.W.nsIn K mainGlobals "MOST_LINES" = some (some (.int 24 t2)))
  {t3 : Tok} (v3 : PySem.W.nsIn K mainGlobals "MOST_LOTS" = some (some (.int 64 t3)))
  {t4 : Tok} (v4 : PySem.W.nsIn K mainGlobals "PAIR" = some (some (.int 2 t4)))
  {t5 : Tok} (v5 : PySem.W.nsIn K mainGlobals "SUM" = some (some (.str "sum" t5)))
  {t6 : Tok} (v6 : PySem.W.nsIn K mainGlobals "TEST" = some (some (.str "test" t6)))
  {e0C : Addr} (e0a : PySem.W.nsIn K mainGlobals "InvalidLot" = some (some (.ref e0C))) (e0k : PySem.W.keepIn K (.ref e0C) = true) (e0b : PySem.W.subIn K (.ref e0C) (.type "BaseException") = some true) (e0t : PySem.W.typeIn K (.ref e0C) = some (.type "type")) (e0i : PySem.W.isClsIn K e0C = true)
  (e0x : PySem.W.excIn K e0C [.type "ValueError", .type "Exception", .type "BaseException", .type "object"] "ValueError.__new__" = true)
  {e1C : Addr} (e1a : PySem.W.nsIn K mainGlobals "InvalidNumber" = some (some (.ref e1C))) (e1k : PySem.W.keepIn K (.ref e1C) = true) (e1b : PySem.W.subIn K (.ref e1C) (.type "BaseException") = some true) (e1t : PySem.W.typeIn K (.ref e1C) = some (.type "type")) (e1i : PySem.W.isClsIn K e1C = true)
  (e1ok : PySem.W.excInitIn K e1C [.type "IndexError", .type "LookupError", .type "Exception", .type "BaseException", .type "object"] "IndexError.__new__" = true) (e1ov : PySem.W.excOver K e1C [.type "IndexError", .type "LookupError", .type "Exception", .type "BaseException", .type "object"] = true)
  (e1sa : PySem.W.findIn K (.ref e1C) "__setattr__" = some (some (.builtin "object.__setattr__"))) (e1ga : PySem.W.findIn K (.ref e1C) "__getattribute__" = some (some (.builtin "BaseException.__getattribute__"))) (e1gg : PySem.W.findIn K (.ref e1C) "__getattr__" = some none) (e1no : PySem.W.findIn K (.ref e1C) "given" = some none)
  {e1I : Addr} (e1ic : PySem.W.findIn K (.ref e1C) "__init__" = some (some (.ref e1I))) (e1ti : PySem.W.typeIn K (.ref e1I) = some (.type "function")) (e1hd : PySem.W.hasDictIn K e1C = true) (e1sb : PySem.W.subIn K (.ref e1C) (.type "IndexError") = some true) (e1su : PySem.W.ks_superIn K e1C e1C "__init__" = some (some (.builtin "IndexError.__init__"))) (e1op : PySem.W.nsIn K cStatics "thirdparty.any" = some none) (e1mr : PySem.W.mroIn K e1C (.ref e1C) = some true) (e1ns : PySem.W.nsIn K mainGlobals "super" = some none) (e1top : (P.main.scope.names.lookup ("super" : Str)).isSome = false)
  {e1oc e1dc e1pm e1ct e1ccl e1cl : Value} {e1od e1an e1cdd e1cld : Option Addr} {e1cc e1cda : Addr} {e1osl e1ccs e1csl : Array (Option Value)} {e1vs : Array Value} {e1file : Str} {e1tf : Tok}
  (e1l : K.lookup e1I = some ⟨e1oc, e1od, .func (PySem.W.ksFn "__init__" "InvalidNumber.__init__" (PX.iA "given" ⟨10, 17, 10, 21⟩ ⟨10, 23, 10, 28⟩) (PX.iB "given" ⟨11, 8, 11, 13⟩ ⟨11, 8, 11, 15⟩ ⟨11, 8, 11, 24⟩ ⟨11, 25, 11, 30⟩ ⟨11, 8, 11, 31⟩ ⟨11, 8, 11, 31⟩ ⟨12, 8, 12, 12⟩ ⟨12, 8, 12, 18⟩ ⟨12, 21, 12, 26⟩ ⟨12, 8, 12, 26⟩) (PX.iS "given") .none .none e1dc e1pm e1an (.ref e1cda) e1ct e1cc), e1osl⟩) (e1cd : PySem.W.codeIn K (.ref e1cda) "InvalidNumber.__init__" = true) (e1ce : K.lookup e1cc = some ⟨e1cl, e1cld, .cell (some (.ref e1C)), e1csl⟩) (e1co : K.lookup e1cda = some ⟨e1ccl, e1cdd, .fields e1vs, e1ccs⟩) (e1fi : (e1vs)[2]? = some (.str e1file e1tf)) (e1mf : ((P.main.file : Str) == e1file) = true)
  {e2C : Addr} (e2a : PySem.W.nsIn K mainGlobals "InvalidOperation" = some (some (.ref e2C))) (e2k : PySem.W.keepIn K (.ref e2C) = true) (e2b : PySem.W.subIn K (.ref e2C) (.type "BaseException") = some true) (e2t : PySem.W.typeIn K (.ref e2C) = some (.type "type")) (e2i : PySem.W.isClsIn K e2C = true)
  (e2x : PySem.W.excIn K e2C [.type "ValueError", .type "Exception", .type "BaseException", .type "object"] "ValueError.__new__" = true)
  (se0e0 : PySem.W.subIn K (.ref e0C) (.ref e0C) = some true)
  (se0e1 : PySem.W.subIn K (.ref e0C) (.ref e1C) = some false)
  (se0e2 : PySem.W.subIn K (.ref e0C) (.ref e2C) = some false)
  (se1e0 : PySem.W.subIn K (.ref e1C) (.ref e0C) = some false)
  (se1e1 : PySem.W.subIn K (.ref e1C) (.ref e1C) = some true)
  (se1e2 : PySem.W.subIn K (.ref e1C) (.ref e2C) = some false)
  (se2e0 : PySem.W.subIn K (.ref e2C) (.ref e0C) = some false)
  (se2e1 : PySem.W.subIn K (.ref e2C) (.ref e1C) = some false)
  (se2e2 : PySem.W.subIn K (.ref e2C) (.ref e2C) = some true)
  (hnd : (([(P43, ("_law_right" : Str) ++ ".<locals>." ++ "<lambda>"), (P44, ("law" : Str) ++ ".<locals>." ++ "<lambda>")] : List (Addr × Str)).map (·.1)).Nodup) : Md P K mg where
  f__law_dice := f0
  fd__law_dice := _
  F__law_dice := fun_mk (st := st__law_dice) l0 c0 k0
  g__law_dice := PySem.W.mg_of X G a0
  b__law_dice := (fun_mk (st := st__law_dice) l0 c0 k0).binds (ps := ["script", "spot"]) fun _ _ _ _ _ _ us hl => match us, hl with | [_, _], _ => rfl
  f__law_met := f1
  fd__law_met := _
  F__law_met := fun_mk (st := st__law_met) l1 c1 k1
  g__law_met := PySem.W.mg_of X G a1
  b__law_met := (fun_mk (st := st__law_met) l1 c1 k1).binds (ps := ["call"]) fun _ _ _ _ _ _ us hl => match us, hl with | [_], _ => rfl
  f_is_whole := f2
  fd_is_whole := _
  F_is_whole := fun_mk (st := st_is_whole) l2 c2 k2
  g_is_whole := PySem.W.mg_of X G a2
  b_is_whole := (fun_mk (st := st_is_whole) l2 c2 k2).binds (ps := ["value"]) fun _ _ _ _ _ _ us hl => match us, hl with | [_], _ => rfl
  f_is_below := f3
  fd_is_below := _
  F_is_below := fun_mk (st := st_is_below) l3 c3 k3
  g_is_below := PySem.W.mg_of X G a3
  b_is_below := (fun_mk (st := st_is_below) l3 c3 k3).binds (ps := ["value", "many"]) fun _ _ _ _ _ _ us hl => match us, hl with | [_, _], _ => rfl
  f_is_rising := f4
  fd_is_rising := _
  F_is_rising := fun_mk (st := st_is_rising) l4 c4 k4
  g_is_rising := PySem.W.mg_of X G a4
  b_is_rising := (fun_mk (st := st_is_rising) l4 c4 k4).binds (ps := ["value", "many"]) fun _ _ _ _ _ _ us hl => match us, hl with | [_, _], _ => rfl
  f_are_lots_in := f5
  fd_are_lots_in := _
  F_are_lots_in := fun_mk (st := st_are_lots_in) l5 c5 k5
  g_are_lots_in := PySem.W.mg_of X G a5
  b_are_lots_in := (fun_mk (st := st_are_lots_in) l5 c5 k5).binds (ps := ["value"]) fun _ _ _ _ _ _ us hl => match us, hl with | [_], _ => rfl
  f_require_lots := f6
  fd_require_lots := _
  F_require_lots := fun_mk (st := st_require_lots) l6 c6 k6
  g_require_lots := PySem.W.mg_of X G a6
  b_require_lots := (fun_mk (st := st_require_lots) l6 c6 k6).binds (ps := ["value"]) fun _ _ _ _ _ _ us hl => match us, hl with | [_], _ => rfl
  f_lot_of := f7
  fd_lot_of := _
  F_lot_of := fun_mk (st := st_lot_of) l7 c7 k7
  g_lot_of := PySem.W.mg_of X G a7
  b_lot_of := (fun_mk (st := st_lot_of) l7 c7 k7).binds (ps := ["mask"]) fun _ _ _ _ _ _ us hl => match us, hl with | [_], _ => rfl
  f_told_lots := f8
  fd_told_lots := _
  F_told_lots := fun_mk (st := st_told_lots) l8 c8 k8
  g_told_lots := PySem.W.mg_of X G a8
  b_told_lots := (fun_mk (st := st_told_lots) l8 c8 k8).binds (ps := ["masks"]) fun _ _ _ _ _ _ us hl => match us, hl with | [_], _ => rfl
  f_head_of := f9
  fd_head_of := _
  F_head_of := fun_mk (st := st_head_of) l9 c9 k9
  g_head_of := PySem.W.mg_of X G a9
  b_head_of := (fun_mk (st := st_head_of) l9 c9 k9).binds (ps := ["mask"]) fun _ _ _ _ _ _ us hl => match us, hl with | [_], _ => rfl
  f_told_form := f10
  fd_told_form := _
  F_told_form := fun_mk (st := st_told_form) l10 c10 k10
  g_told_form := PySem.W.mg_of X G a10
  b_told_form := (fun_mk (st := st_told_form) l10 c10 k10).binds (ps := ["masks"]) fun _ _ _ _ _ _ us hl => match us, hl with | [_], _ => rfl
  f_form_masks := f11
  fd_form_masks := _
  F_form_masks := fun_mk (st := st_form_masks) l11 c11 k11
  g_form_masks := PySem.W.mg_of X G a11
  b_form_masks := (fun_mk (st := st_form_masks) l11 c11 k11).binds (ps := ["masks"]) fun _ _ _ _ _ _ us hl => match us, hl with | [_], _ => rfl
  f_mask_of := f12
  fd_mask_of := _
  F_mask_of := fun_mk (st := st_mask_of) l12 c12 k12
  g_mask_of := PySem.W.mg_of X G a12
  b_mask_of := (fun_mk (st := st_mask_of) l12 c12 k12).binds (ps := ["lot"]) fun _ _ _ _ _ _ us hl => match us, hl with | [_], _ => rfl
  f_masks_of := f13
  fd_masks_of := _
  F_masks_of := fun_mk (st := st_masks_of) l13 c13 k13
  g_masks_of := PySem.W.mg_of X G a13
  b_masks_of := (fun_mk (st := st_masks_of) l13 c13 k13).binds (ps := ["lots"]) fun _ _ _ _ _ _ us hl => match us, hl with | [_], _ => rfl
  f_form_of := f14
  fd_form_of := _
  F_form_of := fun_mk (st := st_form_of) l14 c14 k14
  g_form_of := PySem.W.mg_of X G a14
  b_form_of := (fun_mk (st := st_form_of) l14 c14 k14).binds (ps := ["lots"]) fun _ _ _ _ _ _ us hl => match us, hl with | [_], _ => rfl
  f_require_many := f15
  fd_require_many := _
  F_require_many := fun_mk (st := st_require_many) l15 c15 k15
  g_require_many := PySem.W.mg_of X G a15
  b_require_many := (fun_mk (st := st_require_many) l15 c15 k15).binds (ps := ["value"]) fun _ _ _ _ _ _ us hl => match us, hl with | [_], _ => rfl
  f_opposite_masks := f16
  fd_opposite_masks := _
  F_opposite_masks := fun_mk (st := st_opposite_masks) l16 c16 k16
  g_opposite_masks := PySem.W.mg_of X G a16
  b_opposite_masks := (fun_mk (st := st_opposite_masks) l16 c16 k16).binds (ps := ["many", "form"]) fun _ _ _ _ _ _ us hl => match us, hl with | [_, _], _ => rfl
  f_opposite_form := f17
  fd_opposite_form := _
  F_opposite_form := fun_mk (st := st_opposite_form) l17 c17 k17
  g_opposite_form := PySem.W.mg_of X G a17
  b_opposite_form := (fun_mk (st := st_opposite_form) l17 c17 k17).binds (ps := ["many", "lots"]) fun _ _ _ _ _ _ us hl => match us, hl with | [_, _], _ => rfl
  f_sum_of_masks := f18
  fd_sum_of_masks := _
  F_sum_of_masks := fun_mk (st := st_sum_of_masks) l18 c18 k18
  g_sum_of_masks := PySem.W.mg_of X G a18
  b_sum_of_masks := (fun_mk (st := st_sum_of_masks) l18 c18 k18).binds (ps := ["masks", "pick"]) fun _ _ _ _ _ _ us hl => match us, hl with | [_, _], _ => rfl
  f_sum_of_pick := f19
  fd_sum_of_pick := _
  F_sum_of_pick := fun_mk (st := st_sum_of_pick) l19 c19 k19
  g_sum_of_pick := PySem.W.mg_of X G a19
  b_sum_of_pick := (fun_mk (st := st_sum_of_pick) l19 c19 k19).binds (ps := ["lots", "pick"]) fun _ _ _ _ _ _ us hl => match us, hl with | [_, _], _ => rfl
  f__law_roll := f20
  fd__law_roll := _
  F__law_roll := fun_mk (st := st__law_roll) l20 c20 k20
  g__law_roll := PySem.W.mg_of X G a20
  b__law_roll := (fun_mk (st := st__law_roll) l20 c20 k20).binds (ps := ["dice", "most"]) fun _ _ _ _ _ _ us hl => match us, hl with | [_, _], _ => rfl
  f__law_pick := f21
  fd__law_pick := _
  F__law_pick := fun_mk (st := st__law_pick) l21 c21 k21
  g__law_pick := PySem.W.mg_of X G a21
  b__law_pick := (fun_mk (st := st__law_pick) l21 c21 k21).binds (ps := ["dice", "items"]) fun _ _ _ _ _ _ us hl => match us, hl with | [_, _], _ => rfl
  f_is_lot_of := f22
  fd_is_lot_of := _
  F_is_lot_of := fun_mk (st := st_is_lot_of) l22 c22 k22
  g_is_lot_of := PySem.W.mg_of X G a22
  b_is_lot_of := (fun_mk (st := st_is_lot_of) l22 c22 k22).binds (ps := ["many", "value"]) fun _ _ _ _ _ _ us hl => match us, hl with | [_, _], _ => rfl
  f_require_lot := f23
  fd_require_lot := _
  F_require_lot := fun_mk (st := st_require_lot) l23 c23 k23
  g_require_lot := PySem.W.mg_of X G a23
  b_require_lot := (fun_mk (st := st_require_lot) l23 c23 k23).binds (ps := ["value"]) fun _ _ _ _ _ _ us hl => match us, hl with | [_], _ => rfl
  f_require_two := f24
  fd_require_two := _
  F_require_two := fun_mk (st := st_require_two) l24 c24 k24
  g_require_two := PySem.W.mg_of X G a24
  b_require_two := (fun_mk (st := st_require_two) l24 c24 k24).binds (ps := ["one", "other"]) fun _ _ _ _ _ _ us hl => match us, hl with | [_, _], _ => rfl
  f_lot_sum := f25
  fd_lot_sum := _
  F_lot_sum := fun_mk (st := st_lot_sum) l25 c25 k25
  g_lot_sum := PySem.W.mg_of X G a25
  b_lot_sum := (fun_mk (st := st_lot_sum) l25 c25 k25).binds (ps := ["one", "other"]) fun _ _ _ _ _ _ us hl => match us, hl with | [_, _], _ => rfl
  f_size_of := f26
  fd_size_of := _
  F_size_of := fun_mk (st := st_size_of) l26 c26 k26
  g_size_of := PySem.W.mg_of X G a26
  b_size_of := (fun_mk (st := st_size_of) l26 c26 k26).binds (ps := ["mask"]) fun _ _ _ _ _ _ us hl => match us, hl with | [_], _ => rfl
  f_is_odd := f27
  fd_is_odd := _
  F_is_odd := fun_mk (st := st_is_odd) l27 c27 k27
  g_is_odd := PySem.W.mg_of X G a27
  b_is_odd := (fun_mk (st := st_is_odd) l27 c27 k27).binds (ps := ["mask"]) fun _ _ _ _ _ _ us hl => match us, hl with | [_], _ => rfl
  f_does_meet_oddly := f28
  fd_does_meet_oddly := _
  F_does_meet_oddly := fun_mk (st := st_does_meet_oddly) l28 c28 k28
  g_does_meet_oddly := PySem.W.mg_of X G a28
  b_does_meet_oddly := (fun_mk (st := st_does_meet_oddly) l28 c28 k28).binds (ps := ["one", "other"]) fun _ _ _ _ _ _ us hl => match us, hl with | [_, _], _ => rfl
  f_common_masks := f29
  fd_common_masks := _
  F_common_masks := fun_mk (st := st_common_masks) l29 c29 k29
  g_common_masks := PySem.W.mg_of X G a29
  b_common_masks := (fun_mk (st := st_common_masks) l29 c29 k29).binds (ps := ["many", "form", "more"]) fun _ _ _ _ _ _ us hl => match us, hl with | [_, _, _], _ => rfl
  f_common_form := f30
  fd_common_form := _
  F_common_form := fun_mk (st := st_common_form) l30 c30 k30
  g_common_form := PySem.W.mg_of X G a30
  b_common_form := (fun_mk (st := st_common_form) l30 c30 k30).binds (ps := ["lots", "more"]) fun _ _ _ _ _ _ us hl => match us, hl with | [_, _], _ => rfl
  f_require_lots_and_lot := f31
  fd_require_lots_and_lot := _
  F_require_lots_and_lot := fun_mk (st := st_require_lots_and_lot) l31 c31 k31
  g_require_lots_and_lot := PySem.W.mg_of X G a31
  b_require_lots_and_lot := (fun_mk (st := st_require_lots_and_lot) l31 c31 k31).binds (ps := ["lots", "lot"]) fun _ _ _ _ _ _ us hl => match us, hl with | [_, _], _ => rfl
  f_reduced := f32
  fd_reduced := _
  F_reduced := fun_mk (st := st_reduced) l32 c32 k32
  g_reduced := PySem.W.mg_of X G a32
  b_reduced := (fun_mk (st := st_reduced) l32 c32 k32).binds (ps := ["mask", "form"]) fun _ _ _ _ _ _ us hl => match us, hl with | [_, _], _ => rfl
  f_is_sum_in := f33
  fd_is_sum_in := _
  F_is_sum_in := fun_mk (st := st_is_sum_in) l33 c33 k33
  g_is_sum_in := PySem.W.mg_of X G a33
  b_is_sum_in := (fun_mk (st := st_is_sum_in) l33 c33 k33).binds (ps := ["mask", "form"]) fun _ _ _ _ _ _ us hl => match us, hl with | [_, _], _ => rfl
  f_test_mask := f34
  fd_test_mask := _
  F_test_mask := fun_mk (st := st_test_mask) l34 c34 k34
  g_test_mask := PySem.W.mg_of X G a34
  b_test_mask := (fun_mk (st := st_test_mask) l34 c34 k34).binds (ps := ["mask", "form"]) fun _ _ _ _ _ _ us hl => match us, hl with | [_, _], _ => rfl
  f_sum_or_test := f35
  fd_sum_or_test := _
  F_sum_or_test := fun_mk (st := st_sum_or_test) l35 c35 k35
  g_sum_or_test := PySem.W.mg_of X G a35
  b_sum_or_test := (fun_mk (st := st_sum_or_test) l35 c35 k35).binds (ps := ["lots", "lot"]) fun _ _ _ _ _ _ us hl => match us, hl with | [_, _], _ => rfl
  f_is_told := f36
  fd_is_told := _
  F_is_told := fun_mk (st := st_is_told) l36 c36 k36
  g_is_told := PySem.W.mg_of X G a36
  b_is_told := (fun_mk (st := st_is_told) l36 c36 k36).binds (ps := ["value", "word", "many"]) fun _ _ _ _ _ _ us hl => match us, hl with | [_, _, _], _ => rfl
  f_is_sum_or_test := f37
  fd_is_sum_or_test := _
  F_is_sum_or_test := fun_mk (st := st_is_sum_or_test) l37 c37 k37
  g_is_sum_or_test := PySem.W.mg_of X G a37
  b_is_sum_or_test := (fun_mk (st := st_is_sum_or_test) l37 c37 k37).binds (ps := ["lots", "lot", "value"]) fun _ _ _ _ _ _ us hl => match us, hl with | [_, _, _], _ => rfl
  f_is_bit := f38
  fd_is_bit := _
  F_is_bit := fun_mk (st := st_is_bit) l38 c38 k38
  g_is_bit := PySem.W.mg_of X G a38
  b_is_bit := (fun_mk (st := st_is_bit) l38 c38 k38).binds (ps := ["value"]) fun _ _ _ _ _ _ us hl => match us, hl with | [_], _ => rfl
  f_require_bits := f39
  fd_require_bits := _
  F_require_bits := fun_mk (st := st_require_bits) l39 c39 k39
  g_require_bits := PySem.W.mg_of X G a39
  b_require_bits := (fun_mk (st := st_require_bits) l39 c39 k39).binds (ps := ["lots", "bits"]) fun _ _ _ _ _ _ us hl => match us, hl with | [_, _], _ => rfl
  f_met_by := f40
  fd_met_by := _
  F_met_by := fun_mk (st := st_met_by) l40 c40 k40
  g_met_by := PySem.W.mg_of X G a40
  b_met_by := (fun_mk (st := st_met_by) l40 c40 k40).binds (ps := ["masks", "bits"]) fun _ _ _ _ _ _ us hl => match us, hl with | [_, _], _ => rfl
  f_met_or_bar := f41
  fd_met_or_bar := _
  F_met_or_bar := fun_mk (st := st_met_or_bar) l41 c41 k41
  g_met_or_bar := PySem.W.mg_of X G a41
  b_met_or_bar := (fun_mk (st := st_met_or_bar) l41 c41 k41).binds (ps := ["lots", "bits"]) fun _ _ _ _ _ _ us hl => match us, hl with | [_, _], _ => rfl
  f_is_met_or_bar := f42
  fd_is_met_or_bar := _
  F_is_met_or_bar := fun_mk (st := st_is_met_or_bar) l42 c42 k42
  g_is_met_or_bar := PySem.W.mg_of X G a42
  b_is_met_or_bar := (fun_mk (st := st_is_met_or_bar) l42 c42 k42).binds (ps := ["lots", "bits", "value"]) fun _ _ _ _ _ _ us hl => match us, hl with | [_, _, _], _ => rfl
  f__law_right := f43
  fd__law_right := _
  F__law_right := fun_mk (st := st__law_right) l43 c43 k43
  g__law_right := PySem.W.mg_of X G a43
  b__law_right := (fun_mk (st := st__law_right) l43 c43 k43).binds (ps := ["dice"]) fun _ _ _ _ _ _ us hl => match us, hl with | [_], _ => rfl
  cc__law_right := cc43
  P__law_right := P43
  cd__law_right := rfl
  f_law := f44
  fd_law := _
  F_law := fun_mk (st := st_law) l44 c44 k44
  g_law := PySem.W.mg_of X G a44
  b_law := (fun_mk (st := st_law) l44 c44 k44).binds (ps := ["script"]) fun _ _ _ _ _ _ us hl => match us, hl with | [_], _ => rfl
  cc_law := cc44
  P_law := P44
  cd_law := rfl
  z_abs := PySem.W.mg_none_of X G z0
  z_all := PySem.W.mg_none_of X G z1
  z_any := PySem.W.mg_none_of X G z2
  z_bool := PySem.W.mg_none_of X G z3
  z_enumerate := PySem.W.mg_none_of X G z4
  z_int := PySem.W.mg_none_of X G z5
  z_isinstance := PySem.W.mg_none_of X G z6
  z_len := PySem.W.mg_none_of X G z7
  z_max := PySem.W.mg_none_of X G z8
  z_min := PySem.W.mg_none_of X G z9
  z_range := PySem.W.mg_none_of X G z10
  z_repr := PySem.W.mg_none_of X G z11
  z_sorted := PySem.W.mg_none_of X G z12
  z_str := PySem.W.mg_none_of X G z13
  z_sum := PySem.W.mg_none_of X G z14
  z_tuple := PySem.W.mg_none_of X G z15
  z_zip := PySem.W.mg_none_of X G z16
  c_BAR := ⟨_, PySem.W.mg_of X G v0⟩
  c_LOT := ⟨_, PySem.W.mg_of X G v1⟩
  c_MOST_LINES := ⟨_, PySem.W.mg_of X G v2⟩
  c_MOST_LOTS := ⟨_, PySem.W.mg_of X G v3⟩
  c_PAIR := ⟨_, PySem.W.mg_of X G v4⟩
  c_SUM := ⟨_, PySem.W.mg_of X G v5⟩
  c_TEST := ⟨_, PySem.W.mg_of X G v6⟩
  a_InvalidLot := e0C
  ga_InvalidLot := PySem.W.mg_of X G e0a
  e_InvalidLot := ⟨e0C, _, _, _, _, PySem.W.mg_of X G e0a, PySem.F.excBase_ValueError, e0x, e0k, e0b, e0t⟩
  a_InvalidNumber := e1C
  ga_InvalidNumber := PySem.W.mg_of X G e1a
  i_InvalidNumber := e1I
  e_InvalidNumber := { nm := ⟨by decide, by decide, by decide, by decide, by decide⟩, gC := PySem.W.mg_of X G e1a, fb := PySem.F.excBase_IndexError, kf := PySem.W.kxs_IndexError, sf := PySem.F.store_IndexError, ok := e1ok, over := e1ov, sa := e1sa, ga := e1ga, gg := e1gg, noN := e1no, iC := e1ic, tC := e1ti, kC := e1k, exC := e1b, tyC := e1t, hdC := e1hd, isC := e1i, subB := e1sb, sup := e1su, opq := e1op, mro := e1mr, nS := PySem.W.mg_none_of X G e1ns, bd := fun _ _ _ _ _ _ _ _ _ _ _ _ => rfl, top := e1top, fn := ⟨_, _, _, _, _, _, _, _, _, _, _, _, _, _, _, _, _, _, _, _, _, _, _, _, _, _, _, _, _, _, _, e1l, e1cd, e1ce, e1co, e1fi, e1mf, fun _ => ⟨_, rfl⟩⟩ }
  a_InvalidOperation := e2C
  ga_InvalidOperation := PySem.W.mg_of X G e2a
  e_InvalidOperation := ⟨e2C, _, _, _, _, PySem.W.mg_of X G e2a, PySem.F.excBase_ValueError, e2x, e2k, e2b, e2t⟩
  x_InvalidLot_InvalidLot := exm_by e0b e0i e0t se0e0
  x_InvalidLot_InvalidNumber := exm_by e1b e1i e1t se0e1
  x_InvalidLot_InvalidOperation := exm_by e2b e2i e2t se0e2
  x_InvalidNumber_InvalidLot := exm_by e0b e0i e0t se1e0
  x_InvalidNumber_InvalidNumber := exm_by e1b e1i e1t se1e1
  x_InvalidNumber_InvalidOperation := exm_by e2b e2i e2t se1e2
  x_InvalidOperation_InvalidLot := exm_by e0b e0i e0t se2e0
  x_InvalidOperation_InvalidNumber := exm_by e1b e1i e1t se2e1
  x_InvalidOperation_InvalidOperation := exm_by e2b e2i e2t se2e2
  nd := hnd
  bl := fun s v => .of_eq rfl
end K03


namespace K03
open PySem PySem.Spec PyProof.Rows L2 PV LamX
theorem all_mk {l : PySem.W.OpenLaw} {w : World} {q : Program} {K : PySem.W.Frag} {h : Heap} {mg : Str → Option Value} {fa : Addr} {x0 y0 : Addr} {x1 y1 : Addr} (hfa : mg "law" = some (.ref fa)) (M : Md l.prog K mg) (t : TabLs q K h [(x0, y0), (x1, y1)]) (u0 : M.cc__law_right = x0) (v0 : M.P__law_right = y0) (u1 : M.cc_law = x1) (v1 : M.P_law = y1) (hf : ∀ ns : List Int, ns.length ≤ 63 → f_law [.ro (ns.map D.int)] = .ok (.bl true)) :
  LawG l w K (L2.CX l.prog w) 11 63 "script" mg fa h := by
  subst u0 v0
  subst u1 v1
  have e := hfa.symm.trans M.g_law
  have e2 : fa = M.f_law := by
    cases e
    rfl
  subst e2
  exact lawG_of (T := [(M.P__law_right, ("_law_right" : Str) ++ ".<locals>." ++ "<lambda>"), (M.P_law, ("law" : Str) ++ ".<locals>." ++ "<lambda>")]) t (TT2.all (.cons _ _ _ (.cons _ _ _ .nil))) hf M.bl fun base _ _ tbs => ok_law M ⟨tbs _ (by exact (.head _)), tbs _ (by exact (.tail _ (.head _))), trivial⟩
end K03

namespace K03
open PySem L2 PV ERB
theorem dice_eq : f__law_dice = ERB.f__law_dice := rfl
theorem pick_eq : f__law_pick = ERB.f__law_pick := rfl
def M0 : List D := match k__law_right_0 [] with
  | .ok (.lst l) _ => l
  | _ => []
theorem hk0 (e : En) : k__law_right_0 e = .ok (.lst M0) e := by kernel_rfl
def M1 : List D := match k__law_right_1 [] with
  | .ok (.lst l) _ => l
  | _ => []
theorem hk1 (e : En) : k__law_right_1 e = .ok (.lst M1) e := by kernel_rfl
def M2 : List D := match k__law_right_2 [] with
  | .ok (.lst l) _ => l
  | _ => []
theorem hk2 (e : En) : k__law_right_2 e = .ok (.lst M2) e := by kernel_rfl
def M3 : List D := match k__law_right_4 [] with
  | .ok (.lst l) _ => l
  | _ => []
theorem hk3 (e : En) : k__law_right_4 e = .ok (.lst M3) e := by kernel_rfl
def M4 : List D := match k__law_right_5 [] with
  | .ok (.lst l) _ => l
  | _ => []
theorem hk4 (e : En) : k__law_right_5 e = .ok (.lst M4) e := by kernel_rfl
theorem H0 : ∀ x0 ∈ M0, metR hs__law_met dd__law_met (f_lot_sum [x0, x0]) = some (.tup [.str "refused", .str "lot"]) := all1 (F := fun x0 => metR hs__law_met dd__law_met (f_lot_sum [x0, x0])) (G := fun x0 => .tup [.str "refused", .str "lot"]) (by kernel_rfl)
theorem H1 : ∀ x0 ∈ M0, metR hs__law_met dd__law_met (f_lot_sum [.tup [.int 0, .int 5], x0]) = some (.tup [.str "refused", .str "lot"]) := all1 (F := fun x0 => metR hs__law_met dd__law_met (f_lot_sum [.tup [.int 0, .int 5], x0])) (G := fun x0 => .tup [.str "refused", .str "lot"]) (by kernel_rfl)
theorem H2 : ∀ x0 ∈ M0, metR hs__law_met dd__law_met (f_does_meet_oddly [x0, .tup [.int 0, .int 5]]) = some (.tup [.str "refused", .str "lot"]) := all1 (F := fun x0 => metR hs__law_met dd__law_met (f_does_meet_oddly [x0, .tup [.int 0, .int 5]])) (G := fun x0 => .tup [.str "refused", .str "lot"]) (by kernel_rfl)
theorem H3 : ∀ x0 ∈ M0, metR hs__law_met dd__law_met (f_does_meet_oddly [.tup [.int 0, .int 5], x0]) = some (.tup [.str "refused", .str "lot"]) := all1 (F := fun x0 => metR hs__law_met dd__law_met (f_does_meet_oddly [.tup [.int 0, .int 5], x0])) (G := fun x0 => .tup [.str "refused", .str "lot"]) (by kernel_rfl)
theorem H4 : ∀ x1 ∈ M1, metR hs__law_met dd__law_met (f_form_of [x1]) = some (.tup [.str "refused", .str "lot"]) := all1 (F := fun x1 => metR hs__law_met dd__law_met (f_form_of [x1])) (G := fun x1 => .tup [.str "refused", .str "lot"]) (by kernel_rfl)
theorem H5 : ∀ x1 ∈ M1, metR hs__law_met dd__law_met (f_common_form [x1, x1]) = some (.tup [.str "refused", .str "lot"]) := all1 (F := fun x1 => metR hs__law_met dd__law_met (f_common_form [x1, x1])) (G := fun x1 => .tup [.str "refused", .str "lot"]) (by kernel_rfl)
theorem H6 : ∀ x1 ∈ M1, metR hs__law_met dd__law_met (f_common_form [.tup [.tup [.int 0, .int 1], .tup [.int 1, .int 2], .tup [.int 0, .int 2]], x1]) = some (.tup [.str "refused", .str "lot"]) := all1 (F := fun x1 => metR hs__law_met dd__law_met (f_common_form [.tup [.tup [.int 0, .int 1], .tup [.int 1, .int 2], .tup [.int 0, .int 2]], x1])) (G := fun x1 => .tup [.str "refused", .str "lot"]) (by kernel_rfl)
theorem H7 : ∀ x1 ∈ M1, ∀ x2 ∈ M2, metR hs__law_met dd__law_met (f_sum_of_pick [x1, x2]) = some (.tup [.str "refused", .str "lot"]) := all2 (F := fun x1 x2 => metR hs__law_met dd__law_met (f_sum_of_pick [x1, x2])) (G := fun x1 x2 => .tup [.str "refused", .str "lot"]) (by kernel_rfl)
theorem H8 : ∀ x2 ∈ M2, metR hs__law_met dd__law_met (f_sum_of_pick [.tup [.tup [.int 0, .int 1], .tup [.int 1, .int 2], .tup [.int 0, .int 2]], x2]) = some (.tup [.str "refused", .str "operation"]) := all1 (F := fun x2 => metR hs__law_met dd__law_met (f_sum_of_pick [.tup [.tup [.int 0, .int 1], .tup [.int 1, .int 2], .tup [.int 0, .int 2]], x2])) (G := fun x2 => .tup [.str "refused", .str "operation"]) (by kernel_rfl)
theorem H9 : ∀ x1 ∈ M1, ∀ x0 ∈ M0, metR hs__law_met dd__law_met (f_sum_or_test [x1, x0]) = some (.tup [.str "refused", .str "lot"]) := all2 (F := fun x1 x0 => metR hs__law_met dd__law_met (f_sum_or_test [x1, x0])) (G := fun x1 x0 => .tup [.str "refused", .str "lot"]) (by kernel_rfl)
theorem H10 : ∀ x0 ∈ M0, metR hs__law_met dd__law_met (f_sum_or_test [.tup [.tup [.int 0, .int 1], .tup [.int 1, .int 2], .tup [.int 0, .int 2]], x0]) = some (.tup [.str "refused", .str "lot"]) := all1 (F := fun x0 => metR hs__law_met dd__law_met (f_sum_or_test [.tup [.tup [.int 0, .int 1], .tup [.int 1, .int 2], .tup [.int 0, .int 2]], x0])) (G := fun x0 => .tup [.str "refused", .str "lot"]) (by kernel_rfl)
theorem H11 : ∀ x1 ∈ M1, ∀ x0 ∈ M0, metR hs__law_met dd__law_met (f_is_sum_or_test [x1, x0, .non]) = some (.tup [.str "refused", .str "lot"]) := all2 (F := fun x1 x0 => metR hs__law_met dd__law_met (f_is_sum_or_test [x1, x0, .non])) (G := fun x1 x0 => .tup [.str "refused", .str "lot"]) (by kernel_rfl)
theorem H12 : ∀ x0 ∈ M0, metR hs__law_met dd__law_met (f_is_sum_or_test [.tup [.tup [.int 0, .int 1], .tup [.int 1, .int 2], .tup [.int 0, .int 2]], x0, .non]) = some (.tup [.str "refused", .str "lot"]) := all1 (F := fun x0 => metR hs__law_met dd__law_met (f_is_sum_or_test [.tup [.tup [.int 0, .int 1], .tup [.int 1, .int 2], .tup [.int 0, .int 2]], x0, .non])) (G := fun x0 => .tup [.str "refused", .str "lot"]) (by kernel_rfl)
theorem H13 : ∀ x1 ∈ M1, ∀ x3 ∈ M3, metR hs__law_met dd__law_met (f_met_or_bar [x1, x3]) = some (.tup [.str "refused", .str "lot"]) := all2 (F := fun x1 x3 => metR hs__law_met dd__law_met (f_met_or_bar [x1, x3])) (G := fun x1 x3 => .tup [.str "refused", .str "lot"]) (by kernel_rfl)
theorem H14 : ∀ x3 ∈ M3, metR hs__law_met dd__law_met (f_met_or_bar [.tup [.tup [.int 0, .int 1], .tup [.int 1, .int 2], .tup [.int 0, .int 2]], x3]) = some (.tup [.str "refused", .str "operation"]) := all1 (F := fun x3 => metR hs__law_met dd__law_met (f_met_or_bar [.tup [.tup [.int 0, .int 1], .tup [.int 1, .int 2], .tup [.int 0, .int 2]], x3])) (G := fun x3 => .tup [.str "refused", .str "operation"]) (by kernel_rfl)
theorem H15 : ∀ x1 ∈ M1, ∀ x3 ∈ M3, metR hs__law_met dd__law_met (f_is_met_or_bar [x1, x3, .non]) = some (.tup [.str "refused", .str "lot"]) := all2 (F := fun x1 x3 => metR hs__law_met dd__law_met (f_is_met_or_bar [x1, x3, .non])) (G := fun x1 x3 => .tup [.str "refused", .str "lot"]) (by kernel_rfl)
theorem H16 : ∀ x3 ∈ M3, metR hs__law_met dd__law_met (f_is_met_or_bar [.tup [.tup [.int 0, .int 1], .tup [.int 1, .int 2], .tup [.int 0, .int 2]], x3, .non]) = some (.tup [.str "refused", .str "operation"]) := all1 (F := fun x3 => metR hs__law_met dd__law_met (f_is_met_or_bar [.tup [.tup [.int 0, .int 1], .tup [.int 1, .int 2], .tup [.int 0, .int 2]], x3, .non])) (G := fun x3 => .tup [.str "refused", .str "operation"]) (by kernel_rfl)
theorem H17 : ∀ x4 ∈ M4, ∀ x1 ∈ M1, metR hs__law_met dd__law_met (f_opposite_form [x4, x1]) = some (.tup [.str "refused", .str ("number " ++ rep x4)]) := all2 (F := fun x4 x1 => metR hs__law_met dd__law_met (f_opposite_form [x4, x1])) (G := fun x4 x1 => .tup [.str "refused", .str ("number " ++ rep x4)]) (by kernel_rfl)
theorem H18 : ∀ x1 ∈ M1, metR hs__law_met dd__law_met (f_opposite_form [.int 3, x1]) = some (.tup [.str "refused", .str "lot"]) := all1 (F := fun x1 => metR hs__law_met dd__law_met (f_opposite_form [.int 3, x1])) (G := fun x1 => .tup [.str "refused", .str "lot"]) (by kernel_rfl)
theorem H19 : metR hs__law_met dd__law_met (f_opposite_form [.int 3, .tup [.tup [.int 0, .int 1], .tup [.int 2, .int 3]]]) = some (.tup [.str "refused", .str "operation"]) := sameO_eq (by kernel_rfl)
theorem H20 : ∀ x4 ∈ M4, ∀ x0 ∈ M0, metR hs__law_met dd__law_met (f_is_lot_of [x4, x0]) = some (.tup [.str "refused", .str ("number " ++ rep x4)]) := all2 (F := fun x4 x0 => metR hs__law_met dd__law_met (f_is_lot_of [x4, x0])) (G := fun x4 x0 => .tup [.str "refused", .str ("number " ++ rep x4)]) (by kernel_rfl)
theorem H21 : metR hs__law_met dd__law_met (f_opposite_form [.int 3, .tup [.tup [.int 0, .int 1], .tup [.int 1, .int 2], .tup [.int 0, .int 2]]]) = some (.tup [.str "refused", .str "fine"]) := sameO_eq (by kernel_rfl)
theorem HR : ∀ v ∈ M4, oRepr [v] = some (.str (rep v)) := rep_ok (by kernel_rfl)
theorem HL : ∀ x0 ∈ M0, okV (f_is_lot_of [.int 24, x0]) = some (.bl false) := all1 (F := fun x0 => okV (f_is_lot_of [.int 24, x0])) (G := fun _ => .bl false) (by kernel_rfl)
end K03

namespace K03
open PySem L2 PV ERB
theorem HN : ∀ x4 ∈ M4, oAdd [.str "number ", .str (rep x4)] = some (.str ("number " ++ rep x4)) := all1 (F := fun x4 => oAdd [.str "number ", .str (rep x4)]) (G := fun x4 => .str ("number " ++ rep x4)) (by kernel_rfl)
theorem HF : ∀ x4 ∈ M4, flatE (.lst [.tup [.str "refused", .str "lot"], .tup [.str "refused", .str "lot"], .tup [.str "refused", .str "lot"], .tup [.str "refused", .str "lot"], .tup [.str "refused", .str "lot"], .tup [.str "refused", .str "lot"], .tup [.str "refused", .str "lot"], .tup [.str "refused", .str "lot"], .tup [.str "refused", .str "operation"], .tup [.str "refused", .str "lot"], .tup [.str "refused", .str "lot"], .tup [.str "refused", .str "lot"], .tup [.str "refused", .str "lot"], .tup [.str "refused", .str "lot"], .tup [.str "refused", .str "operation"], .tup [.str "refused", .str "lot"], .tup [.str "refused", .str "operation"], .tup [.str "refused", .str ("number " ++ rep x4)], .tup [.str "refused", .str "lot"], .tup [.str "refused", .str "operation"], .tup [.str "refused", .str ("number " ++ rep x4)], .tup [.str "refused", .str "fine"]]) = true := List.all_eq_true.mp (by kernel_rfl)
theorem right_ok {n : Nat} {d : D} (hd : GD n d) (hn : n ≤ 100000) : ∃ d', f__law_right d [] = .ok (.bl true) d' ∧ GD (n + 5) d' := by
  obtain ⟨x0, d0, h0, e0, g0⟩ := pick_mem hd (by omega) (l := M0) (by decide +kernel) (by decide +kernel)
  obtain ⟨x1, d1, h1, e1, g1⟩ := pick_mem g0 (by omega) (l := M1) (by decide +kernel) (by decide +kernel)
  obtain ⟨x2, d2, h2, e2, g2⟩ := pick_mem g1 (by omega) (l := M2) (by decide +kernel) (by decide +kernel)
  obtain ⟨x3, d3, h3, e3, g3⟩ := pick_mem g2 (by omega) (l := M3) (by decide +kernel) (by decide +kernel)
  obtain ⟨x4, d4, h4, e4, g4⟩ := pick_mem g3 (by omega) (l := M4) (by decide +kernel) (by decide +kernel)
  refine ⟨d4, ?_, g4⟩
  rw [← pick_eq] at e0 e1 e2 e3 e4
  have r8 : oRep [.lst [.str "lot"], .int 8] = some (.lst [.str "lot", .str "lot", .str "lot", .str "lot", .str "lot", .str "lot", .str "lot", .str "lot"]) := rfl
  have r5 : oRep [.lst [.str "lot"], .int 5] = some (.lst [.str "lot", .str "lot", .str "lot", .str "lot", .str "lot"]) := rfl
  have a1 : oAdd [.lst [.str "lot", .str "lot", .str "lot", .str "lot", .str "lot", .str "lot", .str "lot", .str "lot"], .lst [.str "operation"]] = some (.lst [.str "lot", .str "lot", .str "lot", .str "lot", .str "lot", .str "lot", .str "lot", .str "lot", .str "operation"]) := rfl
  have a2 : oAdd [.lst [.str "lot", .str "lot", .str "lot", .str "lot", .str "lot", .str "lot", .str "lot", .str "lot", .str "operation"], .lst [.str "lot", .str "lot", .str "lot", .str "lot", .str "lot"]] = some (.lst [.str "lot", .str "lot", .str "lot", .str "lot", .str "lot", .str "lot", .str "lot", .str "lot", .str "operation", .str "lot", .str "lot", .str "lot", .str "lot", .str "lot"]) := rfl
  have a3 : oAdd [.lst [.str "lot", .str "lot", .str "lot", .str "lot", .str "lot", .str "lot", .str "lot", .str "lot", .str "operation", .str "lot", .str "lot", .str "lot", .str "lot", .str "lot"], .lst [.str "operation", .str "lot", .str "operation"]] = some (.lst [.str "lot", .str "lot", .str "lot", .str "lot", .str "lot", .str "lot", .str "lot", .str "lot", .str "operation", .str "lot", .str "lot", .str "lot", .str "lot", .str "lot", .str "operation", .str "lot", .str "operation"]) := rfl
  have a4 : oAdd [.lst [.str "lot", .str "lot", .str "lot", .str "lot", .str "lot", .str "lot", .str "lot", .str "lot", .str "operation", .str "lot", .str "lot", .str "lot", .str "lot", .str "lot", .str "operation", .str "lot", .str "operation"], .lst [.str ("number " ++ rep x4), .str "lot", .str "operation", .str ("number " ++ rep x4), .str "fine"]] = some (.lst [.str "lot", .str "lot", .str "lot", .str "lot", .str "lot", .str "lot", .str "lot", .str "lot", .str "operation", .str "lot", .str "lot", .str "lot", .str "lot", .str "lot", .str "operation", .str "lot", .str "operation", .str ("number " ++ rep x4), .str "lot", .str "operation", .str ("number " ++ rep x4), .str "fine"]) := rfl
  have hl := okV_eq (HL x0 h0)
  refine runR_end ?_
  unfold m__law_right
  refine re_step (by (simp only [runD, runF, runR, runRF, startE, rf0, sSeq, sNil, sPass, sEx, sRt, sRtN, sIf, sSet, sSetO, sPar, sAug, sSub, sAsg, sFz, sFor, mOp, evA, evP, fill, evS, mTup, mLst, mV, mK, mT, mNot, mAnd, mOr, mAndV, mOrV, mNotV, mIf, mChain, mCall, mCallL, mCallR, mIsi, mIt, iAny, mSl, evO, mGet, mOwn, PV.val, ownV, setV, free, bindT, bindTs, wipeE, backE, R.bind, R.bs, Rs.bind, Oe.ev, Oe.sl, tYs, isLst, List.map_cons, List.map_nil, List.length_cons, List.length_nil, List.replicate, List.cons_append, List.nil_append, List.append_nil, List.getElem?_cons_zero, List.getElem?_cons_succ, List.getElem?_nil, List.set_cons_zero, List.set_cons_succ, Option.some.injEq, if_true, if_false, Bool.false_eq_true, Nat.sub_self, Nat.reduceSub, Nat.reduceAdd, Nat.reduceLT, reduceCtorEq, ite_true, ite_false, Bool.not_true, Bool.not_false, Option.bind_some, Option.map_some, ne_eq, not_false_eq_true, and_self, and_true, true_and, Nat.succ_ne_self, List.contains_cons, List.contains_nil, String.reduceBEq, Bool.or_true, Bool.true_or, Bool.or_false, Bool.false_or, Bool.and_true, Bool.and_false, Bool.false_and, Bool.true_and, beq_self_eq_true, subN, tyN, Nat.reduceEqDiff, startE]; rfl)) ?_
  refine re_step (by (simp only [runD, runF, runR, runRF, startE, rf0, sSeq, sNil, sPass, sEx, sRt, sRtN, sIf, sSet, sSetO, sPar, sAug, sSub, sAsg, sFz, sFor, mOp, evA, evP, fill, evS, mTup, mLst, mV, mK, mT, mNot, mAnd, mOr, mAndV, mOrV, mNotV, mIf, mChain, mCall, mCallL, mCallR, mIsi, mIt, iAny, mSl, evO, mGet, mOwn, PV.val, ownV, setV, free, bindT, bindTs, wipeE, backE, R.bind, R.bs, Rs.bind, Oe.ev, Oe.sl, tYs, isLst, List.map_cons, List.map_nil, List.length_cons, List.length_nil, List.replicate, List.cons_append, List.nil_append, List.append_nil, List.getElem?_cons_zero, List.getElem?_cons_succ, List.getElem?_nil, List.set_cons_zero, List.set_cons_succ, Option.some.injEq, if_true, if_false, Bool.false_eq_true, Nat.sub_self, Nat.reduceSub, Nat.reduceAdd, Nat.reduceLT, reduceCtorEq, ite_true, ite_false, Bool.not_true, Bool.not_false, Option.bind_some, Option.map_some, ne_eq, not_false_eq_true, and_self, and_true, true_and, Nat.succ_ne_self, List.contains_cons, List.contains_nil, String.reduceBEq, Bool.or_true, Bool.true_or, Bool.or_false, Bool.false_or, Bool.and_true, Bool.and_false, Bool.false_and, Bool.true_and, beq_self_eq_true, subN, tyN, Nat.reduceEqDiff, hk0, e0]; rfl)) ?_
  refine re_step (by (simp only [runD, runF, runR, runRF, startE, rf0, sSeq, sNil, sPass, sEx, sRt, sRtN, sIf, sSet, sSetO, sPar, sAug, sSub, sAsg, sFz, sFor, mOp, evA, evP, fill, evS, mTup, mLst, mV, mK, mT, mNot, mAnd, mOr, mAndV, mOrV, mNotV, mIf, mChain, mCall, mCallL, mCallR, mIsi, mIt, iAny, mSl, evO, mGet, mOwn, PV.val, ownV, setV, free, bindT, bindTs, wipeE, backE, R.bind, R.bs, Rs.bind, Oe.ev, Oe.sl, tYs, isLst, List.map_cons, List.map_nil, List.length_cons, List.length_nil, List.replicate, List.cons_append, List.nil_append, List.append_nil, List.getElem?_cons_zero, List.getElem?_cons_succ, List.getElem?_nil, List.set_cons_zero, List.set_cons_succ, Option.some.injEq, if_true, if_false, Bool.false_eq_true, Nat.sub_self, Nat.reduceSub, Nat.reduceAdd, Nat.reduceLT, reduceCtorEq, ite_true, ite_false, Bool.not_true, Bool.not_false, Option.bind_some, Option.map_some, ne_eq, not_false_eq_true, and_self, and_true, true_and, Nat.succ_ne_self, List.contains_cons, List.contains_nil, String.reduceBEq, Bool.or_true, Bool.true_or, Bool.or_false, Bool.false_or, Bool.and_true, Bool.and_false, Bool.false_and, Bool.true_and, beq_self_eq_true, subN, tyN, Nat.reduceEqDiff, hk1, e1]; rfl)) ?_
  refine re_step (by (simp only [runD, runF, runR, runRF, startE, rf0, sSeq, sNil, sPass, sEx, sRt, sRtN, sIf, sSet, sSetO, sPar, sAug, sSub, sAsg, sFz, sFor, mOp, evA, evP, fill, evS, mTup, mLst, mV, mK, mT, mNot, mAnd, mOr, mAndV, mOrV, mNotV, mIf, mChain, mCall, mCallL, mCallR, mIsi, mIt, iAny, mSl, evO, mGet, mOwn, PV.val, ownV, setV, free, bindT, bindTs, wipeE, backE, R.bind, R.bs, Rs.bind, Oe.ev, Oe.sl, tYs, isLst, List.map_cons, List.map_nil, List.length_cons, List.length_nil, List.replicate, List.cons_append, List.nil_append, List.append_nil, List.getElem?_cons_zero, List.getElem?_cons_succ, List.getElem?_nil, List.set_cons_zero, List.set_cons_succ, Option.some.injEq, if_true, if_false, Bool.false_eq_true, Nat.sub_self, Nat.reduceSub, Nat.reduceAdd, Nat.reduceLT, reduceCtorEq, ite_true, ite_false, Bool.not_true, Bool.not_false, Option.bind_some, Option.map_some, ne_eq, not_false_eq_true, and_self, and_true, true_and, Nat.succ_ne_self, List.contains_cons, List.contains_nil, String.reduceBEq, Bool.or_true, Bool.true_or, Bool.or_false, Bool.false_or, Bool.and_true, Bool.and_false, Bool.false_and, Bool.true_and, beq_self_eq_true, subN, tyN, Nat.reduceEqDiff, hk2, e2]; rfl)) ?_
  refine re_step (by (simp only [runD, runF, runR, runRF, startE, rf0, sSeq, sNil, sPass, sEx, sRt, sRtN, sIf, sSet, sSetO, sPar, sAug, sSub, sAsg, sFz, sFor, mOp, evA, evP, fill, evS, mTup, mLst, mV, mK, mT, mNot, mAnd, mOr, mAndV, mOrV, mNotV, mIf, mChain, mCall, mCallL, mCallR, mIsi, mIt, iAny, mSl, evO, mGet, mOwn, PV.val, ownV, setV, free, bindT, bindTs, wipeE, backE, R.bind, R.bs, Rs.bind, Oe.ev, Oe.sl, tYs, isLst, List.map_cons, List.map_nil, List.length_cons, List.length_nil, List.replicate, List.cons_append, List.nil_append, List.append_nil, List.getElem?_cons_zero, List.getElem?_cons_succ, List.getElem?_nil, List.set_cons_zero, List.set_cons_succ, Option.some.injEq, if_true, if_false, Bool.false_eq_true, Nat.sub_self, Nat.reduceSub, Nat.reduceAdd, Nat.reduceLT, reduceCtorEq, ite_true, ite_false, Bool.not_true, Bool.not_false, Option.bind_some, Option.map_some, ne_eq, not_false_eq_true, and_self, and_true, true_and, Nat.succ_ne_self, List.contains_cons, List.contains_nil, String.reduceBEq, Bool.or_true, Bool.true_or, Bool.or_false, Bool.false_or, Bool.and_true, Bool.and_false, Bool.false_and, Bool.true_and, beq_self_eq_true, subN, tyN, Nat.reduceEqDiff, hk3, e3]; rfl)) ?_
  refine re_step (by (simp only [runD, runF, runR, runRF, startE, rf0, sSeq, sNil, sPass, sEx, sRt, sRtN, sIf, sSet, sSetO, sPar, sAug, sSub, sAsg, sFz, sFor, mOp, evA, evP, fill, evS, mTup, mLst, mV, mK, mT, mNot, mAnd, mOr, mAndV, mOrV, mNotV, mIf, mChain, mCall, mCallL, mCallR, mIsi, mIt, iAny, mSl, evO, mGet, mOwn, PV.val, ownV, setV, free, bindT, bindTs, wipeE, backE, R.bind, R.bs, Rs.bind, Oe.ev, Oe.sl, tYs, isLst, List.map_cons, List.map_nil, List.length_cons, List.length_nil, List.replicate, List.cons_append, List.nil_append, List.append_nil, List.getElem?_cons_zero, List.getElem?_cons_succ, List.getElem?_nil, List.set_cons_zero, List.set_cons_succ, Option.some.injEq, if_true, if_false, Bool.false_eq_true, Nat.sub_self, Nat.reduceSub, Nat.reduceAdd, Nat.reduceLT, reduceCtorEq, ite_true, ite_false, Bool.not_true, Bool.not_false, Option.bind_some, Option.map_some, ne_eq, not_false_eq_true, and_self, and_true, true_and, Nat.succ_ne_self, List.contains_cons, List.contains_nil, String.reduceBEq, Bool.or_true, Bool.true_or, Bool.or_false, Bool.false_or, Bool.and_true, Bool.and_false, Bool.false_and, Bool.true_and, beq_self_eq_true, subN, tyN, Nat.reduceEqDiff, hk4, e4]; rfl)) ?_
  refine re_step (by (simp only [runD, runF, runR, runRF, startE, rf0, sSeq, sNil, sPass, sEx, sRt, sRtN, sIf, sSet, sSetO, sPar, sAug, sSub, sAsg, sFz, sFor, mOp, evA, evP, fill, evS, mTup, mLst, mV, mK, mT, mNot, mAnd, mOr, mAndV, mOrV, mNotV, mIf, mChain, mCall, mCallL, mCallR, mIsi, mIt, iAny, mSl, evO, mGet, mOwn, PV.val, ownV, setV, free, bindT, bindTs, wipeE, backE, R.bind, R.bs, Rs.bind, Oe.ev, Oe.sl, tYs, isLst, List.map_cons, List.map_nil, List.length_cons, List.length_nil, List.replicate, List.cons_append, List.nil_append, List.append_nil, List.getElem?_cons_zero, List.getElem?_cons_succ, List.getElem?_nil, List.set_cons_zero, List.set_cons_succ, Option.some.injEq, if_true, if_false, Bool.false_eq_true, Nat.sub_self, Nat.reduceSub, Nat.reduceAdd, Nat.reduceLT, reduceCtorEq, ite_true, ite_false, Bool.not_true, Bool.not_false, Option.bind_some, Option.map_some, ne_eq, not_false_eq_true, and_self, and_true, true_and, Nat.succ_ne_self, List.contains_cons, List.contains_nil, String.reduceBEq, Bool.or_true, Bool.true_or, Bool.or_false, Bool.false_or, Bool.and_true, Bool.and_false, Bool.false_and, Bool.true_and, beq_self_eq_true, subN, tyN, Nat.reduceEqDiff, mMet_call, metE_eq, kAppend, lim, H0 x0 h0]; rfl)) ?_
  refine re_step (by (simp only [runD, runF, runR, runRF, startE, rf0, sSeq, sNil, sPass, sEx, sRt, sRtN, sIf, sSet, sSetO, sPar, sAug, sSub, sAsg, sFz, sFor, mOp, evA, evP, fill, evS, mTup, mLst, mV, mK, mT, mNot, mAnd, mOr, mAndV, mOrV, mNotV, mIf, mChain, mCall, mCallL, mCallR, mIsi, mIt, iAny, mSl, evO, mGet, mOwn, PV.val, ownV, setV, free, bindT, bindTs, wipeE, backE, R.bind, R.bs, Rs.bind, Oe.ev, Oe.sl, tYs, isLst, List.map_cons, List.map_nil, List.length_cons, List.length_nil, List.replicate, List.cons_append, List.nil_append, List.append_nil, List.getElem?_cons_zero, List.getElem?_cons_succ, List.getElem?_nil, List.set_cons_zero, List.set_cons_succ, Option.some.injEq, if_true, if_false, Bool.false_eq_true, Nat.sub_self, Nat.reduceSub, Nat.reduceAdd, Nat.reduceLT, reduceCtorEq, ite_true, ite_false, Bool.not_true, Bool.not_false, Option.bind_some, Option.map_some, ne_eq, not_false_eq_true, and_self, and_true, true_and, Nat.succ_ne_self, List.contains_cons, List.contains_nil, String.reduceBEq, Bool.or_true, Bool.true_or, Bool.or_false, Bool.false_or, Bool.and_true, Bool.and_false, Bool.false_and, Bool.true_and, beq_self_eq_true, subN, tyN, Nat.reduceEqDiff, mMet_call, metE_eq, kAppend, lim, H1 x0 h0]; rfl)) ?_
  refine re_step (by (simp only [runD, runF, runR, runRF, startE, rf0, sSeq, sNil, sPass, sEx, sRt, sRtN, sIf, sSet, sSetO, sPar, sAug, sSub, sAsg, sFz, sFor, mOp, evA, evP, fill, evS, mTup, mLst, mV, mK, mT, mNot, mAnd, mOr, mAndV, mOrV, mNotV, mIf, mChain, mCall, mCallL, mCallR, mIsi, mIt, iAny, mSl, evO, mGet, mOwn, PV.val, ownV, setV, free, bindT, bindTs, wipeE, backE, R.bind, R.bs, Rs.bind, Oe.ev, Oe.sl, tYs, isLst, List.map_cons, List.map_nil, List.length_cons, List.length_nil, List.replicate, List.cons_append, List.nil_append, List.append_nil, List.getElem?_cons_zero, List.getElem?_cons_succ, List.getElem?_nil, List.set_cons_zero, List.set_cons_succ, Option.some.injEq, if_true, if_false, Bool.false_eq_true, Nat.sub_self, Nat.reduceSub, Nat.reduceAdd, Nat.reduceLT, reduceCtorEq, ite_true, ite_false, Bool.not_true, Bool.not_false, Option.bind_some, Option.map_some, ne_eq, not_false_eq_true, and_self, and_true, true_and, Nat.succ_ne_self, List.contains_cons, List.contains_nil, String.reduceBEq, Bool.or_true, Bool.true_or, Bool.or_false, Bool.false_or, Bool.and_true, Bool.and_false, Bool.false_and, Bool.true_and, beq_self_eq_true, subN, tyN, Nat.reduceEqDiff, mMet_call, metE_eq, kAppend, lim, H2 x0 h0]; rfl)) ?_
  refine re_step (by (simp only [runD, runF, runR, runRF, startE, rf0, sSeq, sNil, sPass, sEx, sRt, sRtN, sIf, sSet, sSetO, sPar, sAug, sSub, sAsg, sFz, sFor, mOp, evA, evP, fill, evS, mTup, mLst, mV, mK, mT, mNot, mAnd, mOr, mAndV, mOrV, mNotV, mIf, mChain, mCall, mCallL, mCallR, mIsi, mIt, iAny, mSl, evO, mGet, mOwn, PV.val, ownV, setV, free, bindT, bindTs, wipeE, backE, R.bind, R.bs, Rs.bind, Oe.ev, Oe.sl, tYs, isLst, List.map_cons, List.map_nil, List.length_cons, List.length_nil, List.replicate, List.cons_append, List.nil_append, List.append_nil, List.getElem?_cons_zero, List.getElem?_cons_succ, List.getElem?_nil, List.set_cons_zero, List.set_cons_succ, Option.some.injEq, if_true, if_false, Bool.false_eq_true, Nat.sub_self, Nat.reduceSub, Nat.reduceAdd, Nat.reduceLT, reduceCtorEq, ite_true, ite_false, Bool.not_true, Bool.not_false, Option.bind_some, Option.map_some, ne_eq, not_false_eq_true, and_self, and_true, true_and, Nat.succ_ne_self, List.contains_cons, List.contains_nil, String.reduceBEq, Bool.or_true, Bool.true_or, Bool.or_false, Bool.false_or, Bool.and_true, Bool.and_false, Bool.false_and, Bool.true_and, beq_self_eq_true, subN, tyN, Nat.reduceEqDiff, mMet_call, metE_eq, kAppend, lim, H3 x0 h0]; rfl)) ?_
  refine re_step (by (simp only [runD, runF, runR, runRF, startE, rf0, sSeq, sNil, sPass, sEx, sRt, sRtN, sIf, sSet, sSetO, sPar, sAug, sSub, sAsg, sFz, sFor, mOp, evA, evP, fill, evS, mTup, mLst, mV, mK, mT, mNot, mAnd, mOr, mAndV, mOrV, mNotV, mIf, mChain, mCall, mCallL, mCallR, mIsi, mIt, iAny, mSl, evO, mGet, mOwn, PV.val, ownV, setV, free, bindT, bindTs, wipeE, backE, R.bind, R.bs, Rs.bind, Oe.ev, Oe.sl, tYs, isLst, List.map_cons, List.map_nil, List.length_cons, List.length_nil, List.replicate, List.cons_append, List.nil_append, List.append_nil, List.getElem?_cons_zero, List.getElem?_cons_succ, List.getElem?_nil, List.set_cons_zero, List.set_cons_succ, Option.some.injEq, if_true, if_false, Bool.false_eq_true, Nat.sub_self, Nat.reduceSub, Nat.reduceAdd, Nat.reduceLT, reduceCtorEq, ite_true, ite_false, Bool.not_true, Bool.not_false, Option.bind_some, Option.map_some, ne_eq, not_false_eq_true, and_self, and_true, true_and, Nat.succ_ne_self, List.contains_cons, List.contains_nil, String.reduceBEq, Bool.or_true, Bool.true_or, Bool.or_false, Bool.false_or, Bool.and_true, Bool.and_false, Bool.false_and, Bool.true_and, beq_self_eq_true, subN, tyN, Nat.reduceEqDiff, mMet_call, metE_eq, kAppend, lim, H4 x1 h1]; rfl)) ?_
  refine re_step (by (simp only [runD, runF, runR, runRF, startE, rf0, sSeq, sNil, sPass, sEx, sRt, sRtN, sIf, sSet, sSetO, sPar, sAug, sSub, sAsg, sFz, sFor, mOp, evA, evP, fill, evS, mTup, mLst, mV, mK, mT, mNot, mAnd, mOr, mAndV, mOrV, mNotV, mIf, mChain, mCall, mCallL, mCallR, mIsi, mIt, iAny, mSl, evO, mGet, mOwn, PV.val, ownV, setV, free, bindT, bindTs, wipeE, backE, R.bind, R.bs, Rs.bind, Oe.ev, Oe.sl, tYs, isLst, List.map_cons, List.map_nil, List.length_cons, List.length_nil, List.replicate, List.cons_append, List.nil_append, List.append_nil, List.getElem?_cons_zero, List.getElem?_cons_succ, List.getElem?_nil, List.set_cons_zero, List.set_cons_succ, Option.some.injEq, if_true, if_false, Bool.false_eq_true, Nat.sub_self, Nat.reduceSub, Nat.reduceAdd, Nat.reduceLT, reduceCtorEq, ite_true, ite_false, Bool.not_true, Bool.not_false, Option.bind_some, Option.map_some, ne_eq, not_false_eq_true, and_self, and_true, true_and, Nat.succ_ne_self, List.contains_cons, List.contains_nil, String.reduceBEq, Bool.or_true, Bool.true_or, Bool.or_false, Bool.false_or, Bool.and_true, Bool.and_false, Bool.false_and, Bool.true_and, beq_self_eq_true, subN, tyN, Nat.reduceEqDiff, mMet_call, metE_eq, kAppend, lim, H5 x1 h1]; rfl)) ?_
  refine re_step (by (simp only [runD, runF, runR, runRF, startE, rf0, sSeq, sNil, sPass, sEx, sRt, sRtN, sIf, sSet, sSetO, sPar, sAug, sSub, sAsg, sFz, sFor, mOp, evA, evP, fill, evS, mTup, mLst, mV, mK, mT, mNot, mAnd, mOr, mAndV, mOrV, mNotV, mIf, mChain, mCall, mCallL, mCallR, mIsi, mIt, iAny, mSl, evO, mGet, mOwn, PV.val, ownV, setV, free, bindT, bindTs, wipeE, backE, R.bind, R.bs, Rs.bind, Oe.ev, Oe.sl, tYs, isLst, List.map_cons, List.map_nil, List.length_cons, List.length_nil, List.replicate, List.cons_append, List.nil_append, List.append_nil, List.getElem?_cons_zero, List.getElem?_cons_succ, List.getElem?_nil, List.set_cons_zero, List.set_cons_succ, Option.some.injEq, if_true, if_false, Bool.false_eq_true, Nat.sub_self, Nat.reduceSub, Nat.reduceAdd, Nat.reduceLT, reduceCtorEq, ite_true, ite_false, Bool.not_true, Bool.not_false, Option.bind_some, Option.map_some, ne_eq, not_false_eq_true, and_self, and_true, true_and, Nat.succ_ne_self, List.contains_cons, List.contains_nil, String.reduceBEq, Bool.or_true, Bool.true_or, Bool.or_false, Bool.false_or, Bool.and_true, Bool.and_false, Bool.false_and, Bool.true_and, beq_self_eq_true, subN, tyN, Nat.reduceEqDiff, mMet_call, metE_eq, kAppend, lim, H6 x1 h1]; rfl)) ?_
  refine re_step (by (simp only [runD, runF, runR, runRF, startE, rf0, sSeq, sNil, sPass, sEx, sRt, sRtN, sIf, sSet, sSetO, sPar, sAug, sSub, sAsg, sFz, sFor, mOp, evA, evP, fill, evS, mTup, mLst, mV, mK, mT, mNot, mAnd, mOr, mAndV, mOrV, mNotV, mIf, mChain, mCall, mCallL, mCallR, mIsi, mIt, iAny, mSl, evO, mGet, mOwn, PV.val, ownV, setV, free, bindT, bindTs, wipeE, backE, R.bind, R.bs, Rs.bind, Oe.ev, Oe.sl, tYs, isLst, List.map_cons, List.map_nil, List.length_cons, List.length_nil, List.replicate, List.cons_append, List.nil_append, List.append_nil, List.getElem?_cons_zero, List.getElem?_cons_succ, List.getElem?_nil, List.set_cons_zero, List.set_cons_succ, Option.some.injEq, if_true, if_false, Bool.false_eq_true, Nat.sub_self, Nat.reduceSub, Nat.reduceAdd, Nat.reduceLT, reduceCtorEq, ite_true, ite_false, Bool.not_true, Bool.not_false, Option.bind_some, Option.map_some, ne_eq, not_false_eq_true, and_self, and_true, true_and, Nat.succ_ne_self, List.contains_cons, List.contains_nil, String.reduceBEq, Bool.or_true, Bool.true_or, Bool.or_false, Bool.false_or, Bool.and_true, Bool.and_false, Bool.false_and, Bool.true_and, beq_self_eq_true, subN, tyN, Nat.reduceEqDiff, mMet_call, metE_eq, kAppend, lim, H7 x1 h1 x2 h2]; rfl)) ?_
  refine re_step (by (simp only [runD, runF, runR, runRF, startE, rf0, sSeq, sNil, sPass, sEx, sRt, sRtN, sIf, sSet, sSetO, sPar, sAug, sSub, sAsg, sFz, sFor, mOp, evA, evP, fill, evS, mTup, mLst, mV, mK, mT, mNot, mAnd, mOr, mAndV, mOrV, mNotV, mIf, mChain, mCall, mCallL, mCallR, mIsi, mIt, iAny, mSl, evO, mGet, mOwn, PV.val, ownV, setV, free, bindT, bindTs, wipeE, backE, R.bind, R.bs, Rs.bind, Oe.ev, Oe.sl, tYs, isLst, List.map_cons, List.map_nil, List.length_cons, List.length_nil, List.replicate, List.cons_append, List.nil_append, List.append_nil, List.getElem?_cons_zero, List.getElem?_cons_succ, List.getElem?_nil, List.set_cons_zero, List.set_cons_succ, Option.some.injEq, if_true, if_false, Bool.false_eq_true, Nat.sub_self, Nat.reduceSub, Nat.reduceAdd, Nat.reduceLT, reduceCtorEq, ite_true, ite_false, Bool.not_true, Bool.not_false, Option.bind_some, Option.map_some, ne_eq, not_false_eq_true, and_self, and_true, true_and, Nat.succ_ne_self, List.contains_cons, List.contains_nil, String.reduceBEq, Bool.or_true, Bool.true_or, Bool.or_false, Bool.false_or, Bool.and_true, Bool.and_false, Bool.false_and, Bool.true_and, beq_self_eq_true, subN, tyN, Nat.reduceEqDiff, mMet_call, metE_eq, kAppend, lim, H8 x2 h2]; rfl)) ?_
  refine re_step (by (simp only [runD, runF, runR, runRF, startE, rf0, sSeq, sNil, sPass, sEx, sRt, sRtN, sIf, sSet, sSetO, sPar, sAug, sSub, sAsg, sFz, sFor, mOp, evA, evP, fill, evS, mTup, mLst, mV, mK, mT, mNot, mAnd, mOr, mAndV, mOrV, mNotV, mIf, mChain, mCall, mCallL, mCallR, mIsi, mIt, iAny, mSl, evO, mGet, mOwn, PV.val, ownV, setV, free, bindT, bindTs, wipeE, backE, R.bind, R.bs, Rs.bind, Oe.ev, Oe.sl, tYs, isLst, List.map_cons, List.map_nil, List.length_cons, List.length_nil, List.replicate, List.cons_append, List.nil_append, List.append_nil, List.getElem?_cons_zero, List.getElem?_cons_succ, List.getElem?_nil, List.set_cons_zero, List.set_cons_succ, Option.some.injEq, if_true, if_false, Bool.false_eq_true, Nat.sub_self, Nat.reduceSub, Nat.reduceAdd, Nat.reduceLT, reduceCtorEq, ite_true, ite_false, Bool.not_true, Bool.not_false, Option.bind_some, Option.map_some, ne_eq, not_false_eq_true, and_self, and_true, true_and, Nat.succ_ne_self, List.contains_cons, List.contains_nil, String.reduceBEq, Bool.or_true, Bool.true_or, Bool.or_false, Bool.false_or, Bool.and_true, Bool.and_false, Bool.false_and, Bool.true_and, beq_self_eq_true, subN, tyN, Nat.reduceEqDiff, oMul, r8, a1]; rfl)) ?_
  refine re_step (by (simp only [runD, runF, runR, runRF, startE, rf0, sSeq, sNil, sPass, sEx, sRt, sRtN, sIf, sSet, sSetO, sPar, sAug, sSub, sAsg, sFz, sFor, mOp, evA, evP, fill, evS, mTup, mLst, mV, mK, mT, mNot, mAnd, mOr, mAndV, mOrV, mNotV, mIf, mChain, mCall, mCallL, mCallR, mIsi, mIt, iAny, mSl, evO, mGet, mOwn, PV.val, ownV, setV, free, bindT, bindTs, wipeE, backE, R.bind, R.bs, Rs.bind, Oe.ev, Oe.sl, tYs, isLst, List.map_cons, List.map_nil, List.length_cons, List.length_nil, List.replicate, List.cons_append, List.nil_append, List.append_nil, List.getElem?_cons_zero, List.getElem?_cons_succ, List.getElem?_nil, List.set_cons_zero, List.set_cons_succ, Option.some.injEq, if_true, if_false, Bool.false_eq_true, Nat.sub_self, Nat.reduceSub, Nat.reduceAdd, Nat.reduceLT, reduceCtorEq, ite_true, ite_false, Bool.not_true, Bool.not_false, Option.bind_some, Option.map_some, ne_eq, not_false_eq_true, and_self, and_true, true_and, Nat.succ_ne_self, List.contains_cons, List.contains_nil, String.reduceBEq, Bool.or_true, Bool.true_or, Bool.or_false, Bool.false_or, Bool.and_true, Bool.and_false, Bool.false_and, Bool.true_and, beq_self_eq_true, subN, tyN, Nat.reduceEqDiff, mMet_call, metE_eq, kAppend, lim, H9 x1 h1 x0 h0]; rfl)) ?_
  refine re_step (by (simp only [runD, runF, runR, runRF, startE, rf0, sSeq, sNil, sPass, sEx, sRt, sRtN, sIf, sSet, sSetO, sPar, sAug, sSub, sAsg, sFz, sFor, mOp, evA, evP, fill, evS, mTup, mLst, mV, mK, mT, mNot, mAnd, mOr, mAndV, mOrV, mNotV, mIf, mChain, mCall, mCallL, mCallR, mIsi, mIt, iAny, mSl, evO, mGet, mOwn, PV.val, ownV, setV, free, bindT, bindTs, wipeE, backE, R.bind, R.bs, Rs.bind, Oe.ev, Oe.sl, tYs, isLst, List.map_cons, List.map_nil, List.length_cons, List.length_nil, List.replicate, List.cons_append, List.nil_append, List.append_nil, List.getElem?_cons_zero, List.getElem?_cons_succ, List.getElem?_nil, List.set_cons_zero, List.set_cons_succ, Option.some.injEq, if_true, if_false, Bool.false_eq_true, Nat.sub_self, Nat.reduceSub, Nat.reduceAdd, Nat.reduceLT, reduceCtorEq, ite_true, ite_false, Bool.not_true, Bool.not_false, Option.bind_some, Option.map_some, ne_eq, not_false_eq_true, and_self, and_true, true_and, Nat.succ_ne_self, List.contains_cons, List.contains_nil, String.reduceBEq, Bool.or_true, Bool.true_or, Bool.or_false, Bool.false_or, Bool.and_true, Bool.and_false, Bool.false_and, Bool.true_and, beq_self_eq_true, subN, tyN, Nat.reduceEqDiff, mMet_call, metE_eq, kAppend, lim, H10 x0 h0]; rfl)) ?_
  refine re_step (by (simp only [runD, runF, runR, runRF, startE, rf0, sSeq, sNil, sPass, sEx, sRt, sRtN, sIf, sSet, sSetO, sPar, sAug, sSub, sAsg, sFz, sFor, mOp, evA, evP, fill, evS, mTup, mLst, mV, mK, mT, mNot, mAnd, mOr, mAndV, mOrV, mNotV, mIf, mChain, mCall, mCallL, mCallR, mIsi, mIt, iAny, mSl, evO, mGet, mOwn, PV.val, ownV, setV, free, bindT, bindTs, wipeE, backE, R.bind, R.bs, Rs.bind, Oe.ev, Oe.sl, tYs, isLst, List.map_cons, List.map_nil, List.length_cons, List.length_nil, List.replicate, List.cons_append, List.nil_append, List.append_nil, List.getElem?_cons_zero, List.getElem?_cons_succ, List.getElem?_nil, List.set_cons_zero, List.set_cons_succ, Option.some.injEq, if_true, if_false, Bool.false_eq_true, Nat.sub_self, Nat.reduceSub, Nat.reduceAdd, Nat.reduceLT, reduceCtorEq, ite_true, ite_false, Bool.not_true, Bool.not_false, Option.bind_some, Option.map_some, ne_eq, not_false_eq_true, and_self, and_true, true_and, Nat.succ_ne_self, List.contains_cons, List.contains_nil, String.reduceBEq, Bool.or_true, Bool.true_or, Bool.or_false, Bool.false_or, Bool.and_true, Bool.and_false, Bool.false_and, Bool.true_and, beq_self_eq_true, subN, tyN, Nat.reduceEqDiff, mMet_call, metE_eq, kAppend, lim, H11 x1 h1 x0 h0]; rfl)) ?_
  refine re_step (by (simp only [runD, runF, runR, runRF, startE, rf0, sSeq, sNil, sPass, sEx, sRt, sRtN, sIf, sSet, sSetO, sPar, sAug, sSub, sAsg, sFz, sFor, mOp, evA, evP, fill, evS, mTup, mLst, mV, mK, mT, mNot, mAnd, mOr, mAndV, mOrV, mNotV, mIf, mChain, mCall, mCallL, mCallR, mIsi, mIt, iAny, mSl, evO, mGet, mOwn, PV.val, ownV, setV, free, bindT, bindTs, wipeE, backE, R.bind, R.bs, Rs.bind, Oe.ev, Oe.sl, tYs, isLst, List.map_cons, List.map_nil, List.length_cons, List.length_nil, List.replicate, List.cons_append, List.nil_append, List.append_nil, List.getElem?_cons_zero, List.getElem?_cons_succ, List.getElem?_nil, List.set_cons_zero, List.set_cons_succ, Option.some.injEq, if_true, if_false, Bool.false_eq_true, Nat.sub_self, Nat.reduceSub, Nat.reduceAdd, Nat.reduceLT, reduceCtorEq, ite_true, ite_false, Bool.not_true, Bool.not_false, Option.bind_some, Option.map_some, ne_eq, not_false_eq_true, and_self, and_true, true_and, Nat.succ_ne_self, List.contains_cons, List.contains_nil, String.reduceBEq, Bool.or_true, Bool.true_or, Bool.or_false, Bool.false_or, Bool.and_true, Bool.and_false, Bool.false_and, Bool.true_and, beq_self_eq_true, subN, tyN, Nat.reduceEqDiff, mMet_call, metE_eq, kAppend, lim, H12 x0 h0]; rfl)) ?_
  refine re_step (by (simp only [runD, runF, runR, runRF, startE, rf0, sSeq, sNil, sPass, sEx, sRt, sRtN, sIf, sSet, sSetO, sPar, sAug, sSub, sAsg, sFz, sFor, mOp, evA, evP, fill, evS, mTup, mLst, mV, mK, mT, mNot, mAnd, mOr, mAndV, mOrV, mNotV, mIf, mChain, mCall, mCallL, mCallR, mIsi, mIt, iAny, mSl, evO, mGet, mOwn, PV.val, ownV, setV, free, bindT, bindTs, wipeE, backE, R.bind, R.bs, Rs.bind, Oe.ev, Oe.sl, tYs, isLst, List.map_cons, List.map_nil, List.length_cons, List.length_nil, List.replicate, List.cons_append, List.nil_append, List.append_nil, List.getElem?_cons_zero, List.getElem?_cons_succ, List.getElem?_nil, List.set_cons_zero, List.set_cons_succ, Option.some.injEq, if_true, if_false, Bool.false_eq_true, Nat.sub_self, Nat.reduceSub, Nat.reduceAdd, Nat.reduceLT, reduceCtorEq, ite_true, ite_false, Bool.not_true, Bool.not_false, Option.bind_some, Option.map_some, ne_eq, not_false_eq_true, and_self, and_true, true_and, Nat.succ_ne_self, List.contains_cons, List.contains_nil, String.reduceBEq, Bool.or_true, Bool.true_or, Bool.or_false, Bool.false_or, Bool.and_true, Bool.and_false, Bool.false_and, Bool.true_and, beq_self_eq_true, subN, tyN, Nat.reduceEqDiff, mMet_call, metE_eq, kAppend, lim, H13 x1 h1 x3 h3]; rfl)) ?_
  refine re_step (by (simp only [runD, runF, runR, runRF, startE, rf0, sSeq, sNil, sPass, sEx, sRt, sRtN, sIf, sSet, sSetO, sPar, sAug, sSub, sAsg, sFz, sFor, mOp, evA, evP, fill, evS, mTup, mLst, mV, mK, mT, mNot, mAnd, mOr, mAndV, mOrV, mNotV, mIf, mChain, mCall, mCallL, mCallR, mIsi, mIt, iAny, mSl, evO, mGet, mOwn, PV.val, ownV, setV, free, bindT, bindTs, wipeE, backE, R.bind, R.bs, Rs.bind, Oe.ev, Oe.sl, tYs, isLst, List.map_cons, List.map_nil, List.length_cons, List.length_nil, List.replicate, List.cons_append, List.nil_append, List.append_nil, List.getElem?_cons_zero, List.getElem?_cons_succ, List.getElem?_nil, List.set_cons_zero, List.set_cons_succ, Option.some.injEq, if_true, if_false, Bool.false_eq_true, Nat.sub_self, Nat.reduceSub, Nat.reduceAdd, Nat.reduceLT, reduceCtorEq, ite_true, ite_false, Bool.not_true, Bool.not_false, Option.bind_some, Option.map_some, ne_eq, not_false_eq_true, and_self, and_true, true_and, Nat.succ_ne_self, List.contains_cons, List.contains_nil, String.reduceBEq, Bool.or_true, Bool.true_or, Bool.or_false, Bool.false_or, Bool.and_true, Bool.and_false, Bool.false_and, Bool.true_and, beq_self_eq_true, subN, tyN, Nat.reduceEqDiff, mMet_call, metE_eq, kAppend, lim, H14 x3 h3]; rfl)) ?_
  refine re_step (by (simp only [runD, runF, runR, runRF, startE, rf0, sSeq, sNil, sPass, sEx, sRt, sRtN, sIf, sSet, sSetO, sPar, sAug, sSub, sAsg, sFz, sFor, mOp, evA, evP, fill, evS, mTup, mLst, mV, mK, mT, mNot, mAnd, mOr, mAndV, mOrV, mNotV, mIf, mChain, mCall, mCallL, mCallR, mIsi, mIt, iAny, mSl, evO, mGet, mOwn, PV.val, ownV, setV, free, bindT, bindTs, wipeE, backE, R.bind, R.bs, Rs.bind, Oe.ev, Oe.sl, tYs, isLst, List.map_cons, List.map_nil, List.length_cons, List.length_nil, List.replicate, List.cons_append, List.nil_append, List.append_nil, List.getElem?_cons_zero, List.getElem?_cons_succ, List.getElem?_nil, List.set_cons_zero, List.set_cons_succ, Option.some.injEq, if_true, if_false, Bool.false_eq_true, Nat.sub_self, Nat.reduceSub, Nat.reduceAdd, Nat.reduceLT, reduceCtorEq, ite_true, ite_false, Bool.not_true, Bool.not_false, Option.bind_some, Option.map_some, ne_eq, not_false_eq_true, and_self, and_true, true_and, Nat.succ_ne_self, List.contains_cons, List.contains_nil, String.reduceBEq, Bool.or_true, Bool.true_or, Bool.or_false, Bool.false_or, Bool.and_true, Bool.and_false, Bool.false_and, Bool.true_and, beq_self_eq_true, subN, tyN, Nat.reduceEqDiff, mMet_call, metE_eq, kAppend, lim, H15 x1 h1 x3 h3]; rfl)) ?_
  refine re_step (by (simp only [runD, runF, runR, runRF, startE, rf0, sSeq, sNil, sPass, sEx, sRt, sRtN, sIf, sSet, sSetO, sPar, sAug, sSub, sAsg, sFz, sFor, mOp, evA, evP, fill, evS, mTup, mLst, mV, mK, mT, mNot, mAnd, mOr, mAndV, mOrV, mNotV, mIf, mChain, mCall, mCallL, mCallR, mIsi, mIt, iAny, mSl, evO, mGet, mOwn, PV.val, ownV, setV, free, bindT, bindTs, wipeE, backE, R.bind, R.bs, Rs.bind, Oe.ev, Oe.sl, tYs, isLst, List.map_cons, List.map_nil, List.length_cons, List.length_nil, List.replicate, List.cons_append, List.nil_append, List.append_nil, List.getElem?_cons_zero, List.getElem?_cons_succ, List.getElem?_nil, List.set_cons_zero, List.set_cons_succ, Option.some.injEq, if_true, if_false, Bool.false_eq_true, Nat.sub_self, Nat.reduceSub, Nat.reduceAdd, Nat.reduceLT, reduceCtorEq, ite_true, ite_false, Bool.not_true, Bool.not_false, Option.bind_some, Option.map_some, ne_eq, not_false_eq_true, and_self, and_true, true_and, Nat.succ_ne_self, List.contains_cons, List.contains_nil, String.reduceBEq, Bool.or_true, Bool.true_or, Bool.or_false, Bool.false_or, Bool.and_true, Bool.and_false, Bool.false_and, Bool.true_and, beq_self_eq_true, subN, tyN, Nat.reduceEqDiff, mMet_call, metE_eq, kAppend, lim, H16 x3 h3]; rfl)) ?_
  refine re_step (by (simp only [runD, runF, runR, runRF, startE, rf0, sSeq, sNil, sPass, sEx, sRt, sRtN, sIf, sSet, sSetO, sPar, sAug, sSub, sAsg, sFz, sFor, mOp, evA, evP, fill, evS, mTup, mLst, mV, mK, mT, mNot, mAnd, mOr, mAndV, mOrV, mNotV, mIf, mChain, mCall, mCallL, mCallR, mIsi, mIt, iAny, mSl, evO, mGet, mOwn, PV.val, ownV, setV, free, bindT, bindTs, wipeE, backE, R.bind, R.bs, Rs.bind, Oe.ev, Oe.sl, tYs, isLst, List.map_cons, List.map_nil, List.length_cons, List.length_nil, List.replicate, List.cons_append, List.nil_append, List.append_nil, List.getElem?_cons_zero, List.getElem?_cons_succ, List.getElem?_nil, List.set_cons_zero, List.set_cons_succ, Option.some.injEq, if_true, if_false, Bool.false_eq_true, Nat.sub_self, Nat.reduceSub, Nat.reduceAdd, Nat.reduceLT, reduceCtorEq, ite_true, ite_false, Bool.not_true, Bool.not_false, Option.bind_some, Option.map_some, ne_eq, not_false_eq_true, and_self, and_true, true_and, Nat.succ_ne_self, List.contains_cons, List.contains_nil, String.reduceBEq, Bool.or_true, Bool.true_or, Bool.or_false, Bool.false_or, Bool.and_true, Bool.and_false, Bool.false_and, Bool.true_and, beq_self_eq_true, subN, tyN, Nat.reduceEqDiff, oMul, r5, a2, a3]; rfl)) ?_
  refine re_step (by (simp only [runD, runF, runR, runRF, startE, rf0, sSeq, sNil, sPass, sEx, sRt, sRtN, sIf, sSet, sSetO, sPar, sAug, sSub, sAsg, sFz, sFor, mOp, evA, evP, fill, evS, mTup, mLst, mV, mK, mT, mNot, mAnd, mOr, mAndV, mOrV, mNotV, mIf, mChain, mCall, mCallL, mCallR, mIsi, mIt, iAny, mSl, evO, mGet, mOwn, PV.val, ownV, setV, free, bindT, bindTs, wipeE, backE, R.bind, R.bs, Rs.bind, Oe.ev, Oe.sl, tYs, isLst, List.map_cons, List.map_nil, List.length_cons, List.length_nil, List.replicate, List.cons_append, List.nil_append, List.append_nil, List.getElem?_cons_zero, List.getElem?_cons_succ, List.getElem?_nil, List.set_cons_zero, List.set_cons_succ, Option.some.injEq, if_true, if_false, Bool.false_eq_true, Nat.sub_self, Nat.reduceSub, Nat.reduceAdd, Nat.reduceLT, reduceCtorEq, ite_true, ite_false, Bool.not_true, Bool.not_false, Option.bind_some, Option.map_some, ne_eq, not_false_eq_true, and_self, and_true, true_and, Nat.succ_ne_self, List.contains_cons, List.contains_nil, String.reduceBEq, Bool.or_true, Bool.true_or, Bool.or_false, Bool.false_or, Bool.and_true, Bool.and_false, Bool.false_and, Bool.true_and, beq_self_eq_true, subN, tyN, Nat.reduceEqDiff, mMet_call, metE_eq, kAppend, lim, H17 x4 h4 x1 h1]; rfl)) ?_
  refine re_step (by (simp only [runD, runF, runR, runRF, startE, rf0, sSeq, sNil, sPass, sEx, sRt, sRtN, sIf, sSet, sSetO, sPar, sAug, sSub, sAsg, sFz, sFor, mOp, evA, evP, fill, evS, mTup, mLst, mV, mK, mT, mNot, mAnd, mOr, mAndV, mOrV, mNotV, mIf, mChain, mCall, mCallL, mCallR, mIsi, mIt, iAny, mSl, evO, mGet, mOwn, PV.val, ownV, setV, free, bindT, bindTs, wipeE, backE, R.bind, R.bs, Rs.bind, Oe.ev, Oe.sl, tYs, isLst, List.map_cons, List.map_nil, List.length_cons, List.length_nil, List.replicate, List.cons_append, List.nil_append, List.append_nil, List.getElem?_cons_zero, List.getElem?_cons_succ, List.getElem?_nil, List.set_cons_zero, List.set_cons_succ, Option.some.injEq, if_true, if_false, Bool.false_eq_true, Nat.sub_self, Nat.reduceSub, Nat.reduceAdd, Nat.reduceLT, reduceCtorEq, ite_true, ite_false, Bool.not_true, Bool.not_false, Option.bind_some, Option.map_some, ne_eq, not_false_eq_true, and_self, and_true, true_and, Nat.succ_ne_self, List.contains_cons, List.contains_nil, String.reduceBEq, Bool.or_true, Bool.true_or, Bool.or_false, Bool.false_or, Bool.and_true, Bool.and_false, Bool.false_and, Bool.true_and, beq_self_eq_true, subN, tyN, Nat.reduceEqDiff, mMet_call, metE_eq, kAppend, lim, H18 x1 h1]; rfl)) ?_
  refine re_step (by (simp only [runD, runF, runR, runRF, startE, rf0, sSeq, sNil, sPass, sEx, sRt, sRtN, sIf, sSet, sSetO, sPar, sAug, sSub, sAsg, sFz, sFor, mOp, evA, evP, fill, evS, mTup, mLst, mV, mK, mT, mNot, mAnd, mOr, mAndV, mOrV, mNotV, mIf, mChain, mCall, mCallL, mCallR, mIsi, mIt, iAny, mSl, evO, mGet, mOwn, PV.val, ownV, setV, free, bindT, bindTs, wipeE, backE, R.bind, R.bs, Rs.bind, Oe.ev, Oe.sl, tYs, isLst, List.map_cons, List.map_nil, List.length_cons, List.length_nil, List.replicate, List.cons_append, List.nil_append, List.append_nil, List.getElem?_cons_zero, List.getElem?_cons_succ, List.getElem?_nil, List.set_cons_zero, List.set_cons_succ, Option.some.injEq, if_true, if_false, Bool.false_eq_true, Nat.sub_self, Nat.reduceSub, Nat.reduceAdd, Nat.reduceLT, reduceCtorEq, ite_true, ite_false, Bool.not_true, Bool.not_false, Option.bind_some, Option.map_some, ne_eq, not_false_eq_true, and_self, and_true, true_and, Nat.succ_ne_self, List.contains_cons, List.contains_nil, String.reduceBEq, Bool.or_true, Bool.true_or, Bool.or_false, Bool.false_or, Bool.and_true, Bool.and_false, Bool.false_and, Bool.true_and, beq_self_eq_true, subN, tyN, Nat.reduceEqDiff, mMet_call, metE_eq, kAppend, lim, H19]; rfl)) ?_
  refine re_step (by (simp only [runD, runF, runR, runRF, startE, rf0, sSeq, sNil, sPass, sEx, sRt, sRtN, sIf, sSet, sSetO, sPar, sAug, sSub, sAsg, sFz, sFor, mOp, evA, evP, fill, evS, mTup, mLst, mV, mK, mT, mNot, mAnd, mOr, mAndV, mOrV, mNotV, mIf, mChain, mCall, mCallL, mCallR, mIsi, mIt, iAny, mSl, evO, mGet, mOwn, PV.val, ownV, setV, free, bindT, bindTs, wipeE, backE, R.bind, R.bs, Rs.bind, Oe.ev, Oe.sl, tYs, isLst, List.map_cons, List.map_nil, List.length_cons, List.length_nil, List.replicate, List.cons_append, List.nil_append, List.append_nil, List.getElem?_cons_zero, List.getElem?_cons_succ, List.getElem?_nil, List.set_cons_zero, List.set_cons_succ, Option.some.injEq, if_true, if_false, Bool.false_eq_true, Nat.sub_self, Nat.reduceSub, Nat.reduceAdd, Nat.reduceLT, reduceCtorEq, ite_true, ite_false, Bool.not_true, Bool.not_false, Option.bind_some, Option.map_some, ne_eq, not_false_eq_true, and_self, and_true, true_and, Nat.succ_ne_self, List.contains_cons, List.contains_nil, String.reduceBEq, Bool.or_true, Bool.true_or, Bool.or_false, Bool.false_or, Bool.and_true, Bool.and_false, Bool.false_and, Bool.true_and, beq_self_eq_true, subN, tyN, Nat.reduceEqDiff, mMet_call, metE_eq, kAppend, lim, H20 x4 h4 x0 h0]; rfl)) ?_
  refine re_step (by (simp only [runD, runF, runR, runRF, startE, rf0, sSeq, sNil, sPass, sEx, sRt, sRtN, sIf, sSet, sSetO, sPar, sAug, sSub, sAsg, sFz, sFor, mOp, evA, evP, fill, evS, mTup, mLst, mV, mK, mT, mNot, mAnd, mOr, mAndV, mOrV, mNotV, mIf, mChain, mCall, mCallL, mCallR, mIsi, mIt, iAny, mSl, evO, mGet, mOwn, PV.val, ownV, setV, free, bindT, bindTs, wipeE, backE, R.bind, R.bs, Rs.bind, Oe.ev, Oe.sl, tYs, isLst, List.map_cons, List.map_nil, List.length_cons, List.length_nil, List.replicate, List.cons_append, List.nil_append, List.append_nil, List.getElem?_cons_zero, List.getElem?_cons_succ, List.getElem?_nil, List.set_cons_zero, List.set_cons_succ, Option.some.injEq, if_true, if_false, Bool.false_eq_true, Nat.sub_self, Nat.reduceSub, Nat.reduceAdd, Nat.reduceLT, reduceCtorEq, ite_true, ite_false, Bool.not_true, Bool.not_false, Option.bind_some, Option.map_some, ne_eq, not_false_eq_true, and_self, and_true, true_and, Nat.succ_ne_self, List.contains_cons, List.contains_nil, String.reduceBEq, Bool.or_true, Bool.true_or, Bool.or_false, Bool.false_or, Bool.and_true, Bool.and_false, Bool.false_and, Bool.true_and, beq_self_eq_true, subN, tyN, Nat.reduceEqDiff, mMet_call, metE_eq, kAppend, lim, H21]; rfl)) ?_
  refine re_step (by (simp only [runD, runF, runR, runRF, startE, rf0, sSeq, sNil, sPass, sEx, sRt, sRtN, sIf, sSet, sSetO, sPar, sAug, sSub, sAsg, sFz, sFor, mOp, evA, evP, fill, evS, mTup, mLst, mV, mK, mT, mNot, mAnd, mOr, mAndV, mOrV, mNotV, mIf, mChain, mCall, mCallL, mCallR, mIsi, mIt, iAny, mSl, evO, mGet, mOwn, PV.val, ownV, setV, free, bindT, bindTs, wipeE, backE, R.bind, R.bs, Rs.bind, Oe.ev, Oe.sl, tYs, isLst, List.map_cons, List.map_nil, List.length_cons, List.length_nil, List.replicate, List.cons_append, List.nil_append, List.append_nil, List.getElem?_cons_zero, List.getElem?_cons_succ, List.getElem?_nil, List.set_cons_zero, List.set_cons_succ, Option.some.injEq, if_true, if_false, Bool.false_eq_true, Nat.sub_self, Nat.reduceSub, Nat.reduceAdd, Nat.reduceLT, reduceCtorEq, ite_true, ite_false, Bool.not_true, Bool.not_false, Option.bind_some, Option.map_some, ne_eq, not_false_eq_true, and_self, and_true, true_and, Nat.succ_ne_self, List.contains_cons, List.contains_nil, String.reduceBEq, Bool.or_true, Bool.true_or, Bool.or_false, Bool.false_or, Bool.and_true, Bool.and_false, Bool.false_and, Bool.true_and, beq_self_eq_true, subN, tyN, Nat.reduceEqDiff, HR x4 h4, HN x4 h4, a4]; rfl)) ?_
  have q := oEq_self (HF x4 h4)
  unfold Re
  simp only [runD, runF, runR, runRF, startE, rf0, sSeq, sNil, sPass, sEx, sRt, sRtN, sIf, sSet, sSetO, sPar, sAug, sSub, sAsg, sFz, sFor, mOp, evA, evP, fill, evS, mTup, mLst, mV, mK, mT, mNot, mAnd, mOr, mAndV, mOrV, mNotV, mIf, mChain, mCall, mCallL, mCallR, mIsi, mIt, iAny, mSl, evO, mGet, mOwn, PV.val, ownV, setV, free, bindT, bindTs, wipeE, backE, R.bind, R.bs, Rs.bind, Oe.ev, Oe.sl, tYs, isLst, List.map_cons, List.map_nil, List.length_cons, List.length_nil, List.replicate, List.cons_append, List.nil_append, List.append_nil, List.getElem?_cons_zero, List.getElem?_cons_succ, List.getElem?_nil, List.set_cons_zero, List.set_cons_succ, Option.some.injEq, if_true, if_false, Bool.false_eq_true, Nat.sub_self, Nat.reduceSub, Nat.reduceAdd, Nat.reduceLT, reduceCtorEq, ite_true, ite_false, Bool.not_true, Bool.not_false, Option.bind_some, Option.map_some, ne_eq, not_false_eq_true, and_self, and_true, true_and, Nat.succ_ne_self, List.contains_cons, List.contains_nil, String.reduceBEq, Bool.or_true, Bool.true_or, Bool.or_false, Bool.false_or, Bool.and_true, Bool.and_false, Bool.false_and, Bool.true_and, beq_self_eq_true, subN, tyN, Nat.reduceEqDiff, mLc, lcL, lim, itD, seqD, Nat.reduceLeDiff, q, hl]
  exact ⟨_, rfl, rfl⟩
end K03

namespace K03
open PySem L2 PV ERB
theorem law_true (ns : List Int) (hn : ns.length ≤ 63) : f_law [.ro (ns.map D.int)] = .ok (.bl true) := by
  have h0 : (startE 6 [.ro (ns.map D.int)])[0]? = some (.fz (.ro (ns.map D.int))) := rfl
  unfold f_law m_law
  obtain ⟨e', h1, x, y, rfl, h⟩ := spots_ok (s := 1) (body := sSeq (sSetO 2 (mCall f__law_dice [mV 0, mV 1])) <| sIf (mOr (mNot (mT (mCallR f__law_right 2 []))) (mNot (mT (mCallR f__law_right 2 [])))) (sRt (mK (.bl false))) (sNil))
    (P := fun e => ∃ x y : Sl, e = [.fz (.ro (ns.map D.int)), x, y, .no, .no, .no] ∧ ((x = .no ∧ y = .no) ∨ ∃ a b, x = .fz a ∧ y = .ow b)) (ns := ns) (e := startE 6 [.ro (ns.map D.int)]) (fun i hi e p => by
      obtain ⟨x, y, rfl, hx⟩ := p
      obtain ⟨d, e1, g⟩ := dice_ok (ns := ns) (spot := i) hi
      obtain ⟨d1, e2, g1⟩ := right_ok g (by decide)
      obtain ⟨d2, e3, g2⟩ := right_ok g1 (by decide)
      rw [← dice_eq] at e1
      refine ⟨[.fz (.ro (ns.map D.int)), .fz (.int i), y, .no, .no, .no], [.fz (.ro (ns.map D.int)), .fz (.int i), .ow d2, .no, .no, .no], ?_, ?_, _, _, rfl, .inr ⟨_, _, rfl, rfl⟩⟩
      · rcases hx with ⟨rfl, rfl⟩ | ⟨a, b, rfl, rfl⟩ <;> rfl
      · rcases hx with ⟨rfl, rfl⟩ | ⟨a, b, rfl, rfl⟩ <;> simp only [runD, runF, runR, runRF, startE, rf0, sSeq, sNil, sPass, sEx, sRt, sRtN, sIf, sSet, sSetO, sPar, sAug, sSub, sAsg, sFz, sFor, mOp, evA, evP, fill, evS, mTup, mLst, mV, mK, mT, mNot, mAnd, mOr, mAndV, mOrV, mNotV, mIf, mChain, mCall, mCallL, mCallR, mIsi, mIt, iAny, mSl, evO, mGet, mOwn, PV.val, ownV, setV, free, bindT, bindTs, wipeE, backE, R.bind, R.bs, Rs.bind, Oe.ev, Oe.sl, tYs, isLst, List.map_cons, List.map_nil, List.length_cons, List.length_nil, List.replicate, List.cons_append, List.nil_append, List.append_nil, List.getElem?_cons_zero, List.getElem?_cons_succ, List.getElem?_nil, List.set_cons_zero, List.set_cons_succ, Option.some.injEq, if_true, if_false, Bool.false_eq_true, Nat.sub_self, Nat.reduceSub, Nat.reduceAdd, Nat.reduceLT, reduceCtorEq, ite_true, ite_false, Bool.not_true, Bool.not_false, Option.bind_some, Option.map_some, ne_eq, not_false_eq_true, and_self, and_true, true_and, Nat.succ_ne_self, List.contains_cons, List.contains_nil, String.reduceBEq, Bool.or_true, Bool.true_or, Bool.or_false, Bool.false_or, Bool.and_true, Bool.and_false, Bool.false_and, Bool.true_and, beq_self_eq_true, subN, tyN, Nat.reduceEqDiff, e1, e2, e3]) h0 ⟨.no, .no, rfl, .inl ⟨rfl, rfl⟩⟩
  refine law_end h1 ?_
  rcases h with ⟨rfl, rfl⟩ | ⟨a, b, rfl, rfl⟩
  · kernel_rfl
  · kernel_rfl
end K03

open PySem PySem.W PyProof.Rows
set_option maxHeartbeats 0 in
theorem PySem.Challenge.cw_ringtables_k03_errors_of_lots_holds : PySem.Challenge.rw_ringtables_k03_errors_of_lots.Holds := by
  w_on; o_law; k_head; (case hw => w_witness2)
  k_fill
  refine PV.walk_ofG (l := PySem.Challenge.rw_ringtables_k03_errors_of_lots) (n := 63) (k := 11) (x := "script") (CX := fun w => L2.CX (PySem.Challenge.rw_ringtables_k03_errors_of_lots).prog w) rfl (by decide) rfl ⟨rfl, by decide, by decide⟩ (fun w h Y => by first | exact PySem.W.km_in_of Y | exact PySem.W.kIn_of Y) ?F (fun _ _ _ _ _ h => PV.cx_no h)
  case F =>
    intro w mg fa h Y KX G hmg TT
    refine' K03.all_mk hmg (K03.md_of KX G ?a0 ?l0 ?c0 ?k0 ?a1 ?l1 ?c1 ?k1 ?a2 ?l2 ?c2 ?k2 ?a3 ?l3 ?c3 ?k3 ?a4 ?l4 ?c4 ?k4 ?a5 ?l5 ?c5 ?k5 ?a6 ?l6 ?c6 ?k6 ?a7 ?l7 ?c7 ?k7 ?a8 ?l8 ?c8 ?k8 ?a9 ?l9 ?c9 ?k9 ?a10 ?l10 ?c10 ?k10 ?a11 ?l11 ?c11 ?k11 ?a12 ?l12 ?c12 ?k12 ?a13 ?l13 ?c13 ?k13 ?a14 ?l14 ?c14 ?k14 ?a15 ?l15 ?c15 ?k15 ?a16 ?l16 ?c16 ?k16 ?a17 ?l17 ?c17 ?k17 ?a18 ?l18 ?c18 ?k18 ?a19 ?l19 ?c19 ?k19 ?a20 ?l20 ?c20 ?k20 ?a21 ?l21 ?c21 ?k21 ?a22 ?l22 ?c22 ?k22 ?a23 ?l23 ?c23 ?k23 ?a24 ?l24 ?c24 ?k24 ?a25 ?l25 ?c25 ?k25 ?a26 ?l26 ?c26 ?k26 ?a27 ?l27 ?c27 ?k27 ?a28 ?l28 ?c28 ?k28 ?a29 ?l29 ?c29 ?k29 ?a30 ?l30 ?c30 ?k30 ?a31 ?l31 ?c31 ?k31 ?a32 ?l32 ?c32 ?k32 ?a33 ?l33 ?c33 ?k33 ?a34 ?l34 ?c34 ?k34 ?a35 ?l35 ?c35 ?k35 ?a36 ?l36 ?c36 ?k36 ?a37 ?l37 ?c37 ?k37 ?a38 ?l38 ?c38 ?k38 ?a39 ?l39 ?c39 ?k39 ?a40 ?l40 ?c40 ?k40 ?a41 ?l41 ?c41 ?k41 ?a42 ?l42 ?c42 ?k42 ?a43 ?l43 ?c43 ?k43 ?a44 ?l44 ?c44 ?k44 ?z0 ?z1 ?z2 ?z3 ?z4 ?z5 ?z6 ?z7 ?z8 ?z9 ?z10 ?z11 ?z12 ?z13 ?z14 ?z15 ?z16 ?v0 ?v1 ?v2 ?v3 ?v4 ?v5 ?v6 ?e0a ?e0k ?e0b ?e0t ?e0i ?e0x ?e1a ?e1k ?e1b ?e1t ?e1i ?e1ok ?e1ov ?e1sa ?e1ga ?e1gg ?e1no ?e1ic ?e1ti ?e1hd ?e1sb ?e1su ?e1op ?e1mr ?e1ns ?e1top ?e1l ?e1cd ?e1ce ?e1co ?e1fi ?e1mf ?e2a ?e2k ?e2b ?e2t ?e2i ?e2x ?se0e0 ?se0e1 ?se0e2 ?se1e0 ?se1e1 ?se1e2 ?se2e0 ?se2e1 ?se2e2 ?hnd) (.cons (PV.tabL_of (x := "_law_right") TT ?rd43 (PV.tabIn_of ?a43 ?l43 rfl ?cr43 ?ci43) ?nl43) (.cons (PV.tabL_of (x := "law") TT ?rd44 (PV.tabIn_of ?a44 ?l44 rfl ?cr44 ?ci44) ?nl44) .nil)) rfl rfl rfl rfl K03.law_true
    (case a0 => k_is); (case l0 => k_is); (case c0 => k_is); (case k0 => k_is); (case a1 => k_is); (case l1 => k_is); (case c1 => k_is); (case k1 => k_is); (case a2 => k_is); (case l2 => k_is); (case c2 => k_is); (case k2 => k_is); (case a3 => k_is); (case l3 => k_is); (case c3 => k_is); (case k3 => k_is); (case a4 => k_is); (case l4 => k_is); (case c4 => k_is); (case k4 => k_is); (case a5 => k_is); (case l5 => k_is); (case c5 => k_is); (case k5 => k_is); (case a6 => k_is); (case l6 => k_is); (case c6 => k_is); (case k6 => k_is); (case a7 => k_is); (case l7 => k_is); (case c7 => k_is); (case k7 => k_is); (case a8 => k_is); (case l8 => k_is); (case c8 => k_is); (case k8 => k_is); (case a9 => k_is); (case l9 => k_is); (case c9 => k_is); (case k9 => k_is); (case a10 => k_is); (case l10 => k_is); (case c10 => k_is); (case k10 => k_is); (case a11 => k_is); (case l11 => k_is); (case c11 => k_is); (case k11 => k_is); (case a12 => k_is); (case l12 => k_is); (case c12 => k_is); (case k12 => k_is); (case a13 => k_is); (case l13 => k_is); (case c13 => k_is); (case k13 => k_is); (case a14 => k_is); (case l14 => k_is); (case c14 => k_is); (case k14 => k_is); (case a15 => k_is); (case l15 => k_is); (case c15 => k_is); (case k15 => k_is); (case a16 => k_is); (case l16 => k_is); (case c16 => k_is); (case k16 => k_is); (case a17 => k_is); (case l17 => k_is); (case c17 => k_is); (case k17 => k_is); (case a18 => k_is); (case l18 => k_is); (case c18 => k_is); (case k18 => k_is); (case a19 => k_is); (case l19 => k_is); (case c19 => k_is); (case k19 => k_is); (case a20 => k_is); (case l20 => k_is); (case c20 => k_is); (case k20 => k_is); (case a21 => k_is); (case l21 => k_is); (case c21 => k_is); (case k21 => k_is); (case a22 => k_is); (case l22 => k_is); (case c22 => k_is); (case k22 => k_is); (case a23 => k_is); (case l23 => k_is); (case c23 => k_is); (case k23 => k_is); (case a24 => k_is); (case l24 => k_is); (case c24 => k_is); (case k24 => k_is); (case a25 => k_is); (case l25 => k_is); (case c25 => k_is); (case k25 => k_is); (case a26 => k_is); (case l26 => k_is); (case c26 => k_is); (case k26 => k_is); (case a27 => k_is); (case l27 => k_is); (case c27 => k_is); (case k27 => k_is); (case a28 => k_is); (case l28 => k_is); (case c28 => k_is); (case k28 => k_is); (case a29 => k_is); (case l29 => k_is); (case c29 => k_is); (case k29 => k_is); (case a30 => k_is); (case l30 => k_is); (case c30 => k_is); (case k30 => k_is); (case a31 => k_is); (case l31 => k_is); (case c31 => k_is); (case k31 => k_is); (case a32 => k_is); (case l32 => k_is); (case c32 => k_is); (case k32 => k_is); (case a33 => k_is); (case l33 => k_is); (case c33 => k_is); (case k33 => k_is); (case a34 => k_is); (case l34 => k_is); (case c34 => k_is); (case k34 => k_is); (case a35 => k_is); (case l35 => k_is); (case c35 => k_is); (case k35 => k_is); (case a36 => k_is); (case l36 => k_is); (case c36 => k_is); (case k36 => k_is); (case a37 => k_is); (case l37 => k_is); (case c37 => k_is); (case k37 => k_is); (case a38 => k_is); (case l38 => k_is); (case c38 => k_is); (case k38 => k_is); (case a39 => k_is); (case l39 => k_is); (case c39 => k_is); (case k39 => k_is); (case a40 => k_is); (case l40 => k_is); (case c40 => k_is); (case k40 => k_is); (case a41 => k_is); (case l41 => k_is); (case c41 => k_is); (case k41 => k_is); (case a42 => k_is); (case l42 => k_is); (case c42 => k_is); (case k42 => k_is); (case a43 => k_is); (case l43 => k_is); (case c43 => k_is); (case k43 => k_is); (case a44 => k_is); (case l44 => k_is); (case c44 => k_is); (case k44 => k_is); (case z0 => k_is); (case z1 => k_is); (case z2 => k_is); (case z3 => k_is); (case z4 => k_is); (case z5 => k_is); (case z6 => k_is); (case z7 => k_is); (case z8 => k_is); (case z9 => k_is); (case z10 => k_is); (case z11 => k_is); (case z12 => k_is); (case z13 => k_is); (case z14 => k_is); (case z15 => k_is); (case z16 => k_is); (case v0 => k_is); (case v1 => k_is); (case v2 => k_is); (case v3 => k_is); (case v4 => k_is); (case v5 => k_is); (case v6 => k_is); (case e0a => k_is); (case e0k => k_is); (case e0b => k_is); (case e0t => k_is); (case e0i => k_is); (case e0x => k_exc); (case e1a => k_is); (case e1k => k_is); (case e1b => k_is); (case e1t => k_is); (case e1i => k_is); (case e1ok => kx_is); (case e1ov => kx_is); (case e1sa => k_is); (case e1ga => k_is); (case e1gg => k_is); (case e1no => k_is); (case e1ic => k_is); (case e1ti => k_is); (case e1hd => k_is); (case e1sb => k_is); (case e1su => ks_is); (case e1op => k_is); (case e1mr => k_is); (case e1ns => k_is); (case e1top => rfl); (case e1l => k_is); (case e1cd => k_is); (case e1ce => k_is); (case e1co => k_is); (case e1fi => rfl); (case e1mf => (first | rfl | kernel_rfl | decide +kernel)); (case e2a => k_is); (case e2k => k_is); (case e2b => k_is); (case e2t => k_is); (case e2i => k_is); (case e2x => k_exc); (case se0e0 => k_is); (case se0e1 => k_is); (case se0e2 => k_is); (case se1e0 => k_is); (case se1e1 => k_is); (case se1e2 => k_is); (case se2e0 => k_is); (case se2e1 => k_is); (case se2e2 => k_is); (case cr43 => k_is); (case ci43 => rfl); (case rd43 => (first | rfl | kernel_rfl)); (case nl43 => (first | k_is | kernel_rfl | decide +kernel)); (case cr44 => k_is); (case ci44 => rfl); (case rd44 => (first | rfl | kernel_rfl)); (case nl44 => (first | k_is | kernel_rfl | decide +kernel)); (case hnd => decide)
