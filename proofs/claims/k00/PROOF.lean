import PyProof.Rows.All
import Wide.All
import OpenK.AllK
import Wide.FinOn
import HandS.ForMost
import HandS.ForExc
import HandS.Lambda
import HandS.TupAny
import HandS.Wide
import HandS.WideBits
import HandS.TupMul
import HandS.SortInts
import HandS.Conv
import HandS.IsInst
import HandS.Zip
import KE.KRevSl
import HandS.Style
import HandS.SetFor
import HandS.Strs
import HandS.SetKeys
import HandS.Iter
import HandS.Ends
import HandS.WideMore
import KE.OsArith
import KE.IntBitsLaws
import HandS.Text
import PySem.Challenge.RW_ringtables_k00_whole_sums_of_lots
import HandS.Set
set_option Elab.async false
set_option linter.all false
set_option maxRecDepth 100000
set_option maxHeartbeats 4000000
namespace PV
open PySem PySem.Spec PyProof.Rows L2
/-! ### data -/
inductive D where
  | non | bl (b : Bool) | int (i : Int) | str (s : Str)
  | tup (xs : List D) | lst (xs : List D)
  | dik (kvs : List (Key × D)) | dit (kvs : List (List Key × D))
  | ins (c : Str) (fs : List (Str × D))
  | fn (x : Str)
  | ro (xs : List D)
/-- an exception: its class by name, its fields -/
structure Xn where
  cls : Str
  fs : Option (List (Str × D))
inductive Sl where
  | no | fz (d : D) | ow (d : D) | rf (d : D)
abbrev En := List Sl
inductive R (α : Type) where
  | ok (a : α) (e : En) | er (x : Xn) (e : En) | no
def R.bind {α β : Type} (r : R α) (f : α → En → R β) : R β := match r with
  | .ok a e => f a e
  | .er x e => .er x e
  | .no => .no
/-! ### what stands for data -/
/-- the fixed things: the written part, the module's names, the tables -/
structure Gc where
  K : PySem.W.Frag
  mg : Str → Option Value
  T : List (Addr × Str)
mutual
inductive Rep (g : Gc) (H : Hp) : D → V → Prop
  | non : Rep g H .non .non
  | bl {b} : Rep g H (.bl b) (.bl b)
  | int {i} : Rep g H (.int i) (.int i)
  | str {s} : Rep g H (.str s) (.str s)
  | tup {a xs vs} : SqT g.K H a vs → Reps g H xs vs → Rep g H (.tup xs) (.ref a)
  | lst {a xs vs} : H a = some (.lst vs) → Reps g H xs vs → Rep g H (.lst xs) (.ref a)
  | ro {a xs vs} : SqL g.K H a vs → Reps g H xs vs → Rep g H (.ro xs) (.ref a)
  | dik {a o xs vs} : H a = some (.frz o (.dK vs)) → RepK g H xs vs → Rep g H (.dik xs) (.ref a)
  | dit {a o xs vs} : H a = some (.frz o (.dT vs)) → RepT g H xs vs → Rep g H (.dit xs) (.ref a)
  | ins {a c C dx xs vs} : g.mg c = some (.ref C) → H a = some (.ins C dx vs) → RepF g H xs vs → Rep g H (.ins c xs) (.ref a)
  | fn {x a} : g.mg x = some (.ref a) → Rep g H (.fn x) (.ref a)
inductive Reps (g : Gc) (H : Hp) : List D → List V → Prop
  | nil : Reps g H [] []
  | cons {x xs v vs} : Rep g H x v → Reps g H xs vs → Reps g H (x :: xs) (v :: vs)
inductive RepK (g : Gc) (H : Hp) : List (Key × D) → List (Key × V) → Prop
  | nil : RepK g H [] []
  | cons {k x xs v vs} : Rep g H x v → RepK g H xs vs → RepK g H ((k, x) :: xs) ((k, v) :: vs)
inductive RepT (g : Gc) (H : Hp) : List (List Key × D) → List (List Key × V) → Prop
  | nil : RepT g H [] []
  | cons {k x xs v vs} : Rep g H x v → RepT g H xs vs → RepT g H ((k, x) :: xs) ((k, v) :: vs)
inductive RepF (g : Gc) (H : Hp) : List (Str × D) → List (Str × V) → Prop
  | nil : RepF g H [] []
  | cons {k x xs v vs} : Rep g H x v → RepF g H xs vs → RepF g H ((k, x) :: xs) ((k, v) :: vs)
end
section
variable {g : Gc} {H H' : Hp}
theorem sqT_mono {K : PySem.W.Frag} {a : Addr} {xs : List V} (e : Same H H') (h : SqT K H a xs) : SqT K H' a xs := by
  rcases h with (h | ⟨o, h⟩) | h
  · exact .inl (.inl (e _ _ h))
  · exact .inl (.inr ⟨o, e _ _ h⟩)
  · exact .inr h
mutual
theorem Rep.mono (e : Same H H') {d : D} {v : V} : Rep g H d v → Rep g H' d v
  | .non => .non
  | .bl => .bl
  | .int => .int
  | .str => .str
  | .tup h r => .tup (sqT_mono e h) (Reps.mono e r)
  | .lst h r => .lst (e _ _ h) (Reps.mono e r)
  | .ro h r => .ro (e.seq h) (Reps.mono e r)
  | .dik h r => .dik (e _ _ h) (RepK.mono e r)
  | .dit h r => .dit (e _ _ h) (RepT.mono e r)
  | .ins m h r => .ins m (e _ _ h) (RepF.mono e r)
  | .fn m => .fn m
theorem Reps.mono (e : Same H H') {ds : List D} {vs : List V} : Reps g H ds vs → Reps g H' ds vs
  | .nil => .nil
  | .cons r t => .cons (Rep.mono e r) (Reps.mono e t)
theorem RepK.mono (e : Same H H') {ds : List (Key × D)} {vs : List (Key × V)} : RepK g H ds vs → RepK g H' ds vs
  | .nil => .nil
  | .cons r t => .cons (Rep.mono e r) (RepK.mono e t)
theorem RepT.mono (e : Same H H') {ds : List (List Key × D)} {vs : List (List Key × V)} : RepT g H ds vs → RepT g H' ds vs
  | .nil => .nil
  | .cons r t => .cons (Rep.mono e r) (RepT.mono e t)
theorem RepF.mono (e : Same H H') {ds : List (Str × D)} {vs : List (Str × V)} : RepF g H ds vs → RepF g H' ds vs
  | .nil => .nil
  | .cons r t => .cons (Rep.mono e r) (RepF.mono e t)
end
theorem Reps.length {ds : List D} {vs : List V} (r : Reps g H ds vs) : ds.length = vs.length := by
  match r with
  | .nil => rfl
  | .cons _ t => simp [Reps.length t]
theorem Reps.get {ds : List D} {vs : List V} (r : Reps g H ds vs) : ∀ {i : Nat} {d : D}, ds[i]? = some d → ∃ v, vs[i]? = some v ∧ Rep g H d v := by
  match r with
  | .nil => intro i d e; simp at e
  | .cons h t =>
    intro i d e
    match i with
    | 0 =>
      have e' := Option.some.inj e
      subst e'
      exact ⟨_, rfl, h⟩
    | i + 1 => exact Reps.get t (i := i) e
theorem Reps.append {ds es : List D} {vs ws : List V} (r : Reps g H ds vs) (q : Reps g H es ws) : Reps g H (ds ++ es) (vs ++ ws) := by
  match r with
  | .nil => exact q
  | .cons h t => exact .cons h (Reps.append t q)
end
/-- what never changes -/
def tupy : HO → Bool
  | .tup _ => true
  | .frz _ _ => true
  | _ => false
/-- what stands at an own container's address -/
inductive RepO (g : Gc) (H : Hp) : D → HO → Prop
  | lst {xs vs} : Reps g H xs vs → RepO g H (.lst xs) (.lst vs)
  | dik {xs vs} : RepK g H xs vs → RepO g H (.dik xs) (.dK vs)
  | dit {xs vs} : RepT g H xs vs → RepO g H (.dit xs) (.dT vs)
  | ins {c C dx xs vs} : g.mg c = some (.ref C) → RepF g H xs vs → RepO g H (.ins c xs) (.ins C dx vs)
section
variable {g : Gc} {H H' : Hp}
theorem RepO.mono (e : Same H H') {d : D} {o : HO} (r : RepO g H d o) : RepO g H' d o := by
  cases r with
  | lst r => exact .lst (r.mono e)
  | dik r => exact .dik (r.mono e)
  | dit r => exact .dit (r.mono e)
  | ins m r => exact .ins m (r.mono e)
theorem RepO.ntbl {d : D} {o : HO} (r : RepO g H d o) : ∀ ps, o ≠ .tbl ps := by
  intro ps z
  subst z
  cases r
theorem RepO.ntup {d : D} {o : HO} (r : RepO g H d o) : tupy o = false := by
  cases r <;> rfl
def lockO : D → Bool
  | .dik _ => true
  | .dit _ => true
  | _ => false
theorem RepO.rep {d : D} {o : HO} {a : Addr} (r : RepO g H d o) (hl : lockO d = false) (h : H a = some o) : Rep g H d (.ref a) := by
  cases r with
  | lst r => exact .lst h r
  | dik r => cases hl
  | dit r => cases hl
  | ins m r => exact .ins m h r
theorem RepO.repL {d : D} {o : HO} {a : Addr} {od : Obj} (r : RepO g H d o) (hl : lockO d = true) (h : H a = some (.frz od o)) : Rep g H d (.ref a) := by
  cases r with
  | lst r => cases hl
  | dik r => exact .dik h r
  | dit r => exact .dit h r
  | ins m r => cases hl
theorem RepO.next {d : D} {o : HO} (r : RepO g H d o) : ∀ φ, o ≠ .ext φ := by
  intro φ z
  subst z
  cases r
theorem RepO.mut {d : D} {o : HO} (r : RepO g H d o) : Mut (some o) := by
  cases r <;> trivial
end
/-! ### heaps -/
/-- the frozen part F of the heap H -/
structure WF (g : Gc) (F H : Hp) : Prop where
  sub : Same F H
  tup : ∀ a o, H a = some o → tupy o = true → F a = some o
  nt : ∀ a ps, F a ≠ some (.tbl ps)
  tab : LamX.Tabs g.T H
/-- from (F, H) to (F', H'): all stays (but at ra), what is new and frozen stands at new places -/
structure Gr (g : Gc) (ra : Option Addr) (F H F' H' : Hp) : Prop where
  wf : WF g F' H'
  f : Same F F'
  h : ∀ b o, H b = some o → (∀ ps, o ≠ .tbl ps) → some b ≠ ra → H' b = some o
  new : ∀ b, H b ≠ none → F' b = F b
section
variable {g : Gc} {ra : Option Addr} {F H F1 H1 F2 H2 : Hp}
theorem Gr.refl (w : WF g F H) : Gr g ra F H F H := ⟨w, Same.refl _, fun _ _ h _ _ => h, fun _ _ => rfl⟩
theorem Tabs_upd {T : List (Addr × Str)} {a : Addr} {o : HO} (t : LamX.Tabs T H) (n : H a = none) : LamX.Tabs T (upd H a o) :=
  t.ext fun b u e => by rw [upd_ne (ne_of_none e n)]; exact e
theorem Same_upd {a : Addr} {o : HO} (n : H a = none) : Same H (upd H a o) := fun b u e => by
  rw [upd_ne (ne_of_none e n)]
  exact e
/-- a new object, frozen -/
theorem WF.frz {a : Addr} {o : HO} (w : WF g F H) (n : H a = none) (nt : ∀ ps, o ≠ .tbl ps) : WF g (upd F a o) (upd H a o) := by
  have nF : F a = none := w.sub.free n
  refine ⟨fun b u e => ?_, fun b u e t => ?_, fun b ps e => ?_, Tabs_upd w.tab n⟩
  · by_cases hb : b = a
    · subst hb
      rw [upd_same] at e ⊢
      exact e
    · rw [upd_ne hb] at e ⊢
      exact w.sub _ _ e
  · by_cases hb : b = a
    · subst hb
      rw [upd_same] at e ⊢
      exact e
    · rw [upd_ne hb] at e ⊢
      exact w.tup _ _ e t
  · by_cases hb : b = a
    · subst hb
      rw [upd_same] at e
      exact nt ps (Option.some.inj e)
    · rw [upd_ne hb] at e
      exact w.nt _ _ e
theorem Gr.frz {a : Addr} {o : HO} (w : WF g F H) (n : H a = none) (nt : ∀ ps, o ≠ .tbl ps) : Gr g ra F H (upd F a o) (upd H a o) := by
  refine ⟨w.frz n nt, Same_upd (w.sub.free n), fun b u e _ _ => Same_upd n b u e, fun b hb => ?_⟩
  have : b ≠ a := fun z => by subst z; exact hb n
  rw [upd_ne this]
/-- a new object, not frozen -/
theorem WF.fresh {a : Addr} {o : HO} (w : WF g F H) (n : H a = none) (nt : tupy o = false) : WF g F (upd H a o) := by
  refine ⟨fun b u e => ?_, fun b u e t => ?_, w.nt, Tabs_upd w.tab n⟩
  · exact Same_upd n b u (w.sub _ _ e)
  · by_cases hb : b = a
    · subst hb
      rw [upd_same] at e
      rw [← Option.some.inj e, nt] at t
      cases t
    · rw [upd_ne hb] at e
      exact w.tup _ _ e t
theorem Gr.fresh {a : Addr} {o : HO} (w : WF g F H) (n : H a = none) (nt : tupy o = false) : Gr g ra F H F (upd H a o) :=
  ⟨w.fresh n nt, Same.refl _, fun b u e _ _ => Same_upd n b u e, fun _ _ => rfl⟩
theorem Gr.trans (x : Gr g ra F H F1 H1) (y : Gr g ra F1 H1 F2 H2) (k : ∀ b, H b ≠ none → H1 b ≠ none) : Gr g ra F H F2 H2 :=
  ⟨y.wf, x.f.trans y.f, fun b o e n r => y.h b o (x.h b o e n r) n r, fun b hb => (y.new b (k b hb)).trans (x.new b hb)⟩
end
/-! ### the state -/
/-- a def's entry -/
structure Cn extends Gc where
  ra : Option Addr
  H0 : Hp
  F0 : Hp
  fr : Bool
/-- slot i holds what is owned, at a -/
def Own (env : En) (σ : L2.St) (i : Nat) (a : Addr) : Prop := σ[i]? = some (some (.ref a)) ∧ ∃ d, env[i]? = some (.ow d) ∨ env[i]? = some (.rf d)
structure SR (c : Cn) (env : En) (σ : L2.St) (H F : Hp) : Prop where
  gr : Gr c.toGc c.ra c.F0 c.H0 F H
  there : ∀ b, c.H0 b ≠ none → H b ≠ none
  rt : ∀ a, c.ra = some a → c.H0 a ≠ none
  len : env.length = σ.length
  fz : ∀ (i : Nat) (d : D), env[i]? = some (.fz d) → ∃ v, σ[i]? = some (some v) ∧ Rep c.toGc F d v
  ow : ∀ (i : Nat) (d : D), env[i]? = some (.ow d) → ∃ a o, σ[i]? = some (some (.ref a)) ∧ H a = some o ∧ F a = none ∧ c.H0 a = none ∧ RepO c.toGc F d o
  rf : ∀ (i : Nat) (d : D), env[i]? = some (.rf d) → ∃ a o, c.ra = some a ∧ σ[i]? = some (some (.ref a)) ∧ H a = some o ∧ F a = none ∧ RepO c.toGc F d o
  apart : ∀ (i j : Nat) (a : Addr), Own env σ i a → Own env σ j a → i = j
section
variable {c : Cn} {env : En} {σ : L2.St} {H F H' F' : Hp}
theorem SR.wf (S : SR c env σ H F) : WF c.toGc F H := S.gr.wf
theorem SR.rtH (S : SR c env σ H F) (a : Addr) (e : c.ra = some a) : H a ≠ none := S.there a (S.rt a e)
/-- all grows -/
theorem SR.grow (S : SR c env σ H F) (x : Gr c.toGc none F H F' H') (t : ∀ b, H b ≠ none → H' b ≠ none) : SR c env σ H' F' where
  gr := ⟨x.wf, S.gr.f.trans x.f, fun b o e n r => x.h b o (S.gr.h b o e n r) n (by simp), fun b hb => (x.new b (S.there b hb)).trans (S.gr.new b hb)⟩
  there := fun b hb => t b (S.there b hb)
  rt := S.rt
  len := S.len
  fz := fun i d e => let ⟨v, h1, h2⟩ := S.fz i d e; ⟨v, h1, h2.mono x.f⟩
  ow := fun i d e => by
    obtain ⟨a, o, h1, h2, h3, h4, h5⟩ := S.ow i d e
    exact ⟨a, o, h1, x.h a o h2 h5.ntbl (by simp), (x.new a (by rw [h2]; simp)).trans h3, h4, h5.mono x.f⟩
  rf := fun i d e => by
    obtain ⟨a, o, h0, h1, h2, h3, h5⟩ := S.rf i d e
    exact ⟨a, o, h0, h1, x.h a o h2 h5.ntbl (by simp), (x.new a (by rw [h2]; simp)).trans h3, h5.mono x.f⟩
  apart := S.apart
end
end PV

namespace PV
open PySem PySem.Spec PyProof.Rows L2
/-! ### readings -/
def RepX (g : Gc) (F : Hp) (x : Xn) (cls : Value) (d : Option Addr) : Prop := ∃ C, g.mg x.cls = some (.ref C) ∧ cls = .ref C ∧ (match x.fs with
  | none => d = none
  | some fs => ∃ dx vs, d = some dx ∧ F dx = some (.xd vs) ∧ RepF g F fs vs)
abbrev Rl (α β : Type) := En → L2.St → Hp → Hp → α → β → Prop
def Okp (c : Cn) (W : WX) (σ : L2.St) (F : Hp) {α β : Type} (rl : Rl α β) (Q : β → Hp → Prop) : R α → Prop
  | .ok a e => ∀ b H' F', SR c e σ H' F' → Same F F' → rl e σ F' H' a b → Q b H'
  | .er x e => ∀ cls dx H' F', SR c e σ H' F' → Same F F' → RepX c.toGc F' x cls dx → W cls dx σ H'
  | .no => False
def tM (c : Cn) (W : WX) {α β : Type} (rl : Rl α β) (m : En → R α) : L2.St → Hp → (β → Hp → Prop) → Prop := fun σ H Q => ∃ env F, SR c env σ H F ∧ Okp c W σ F rl Q (m env)
abbrev rlE (c : Cn) : Rl D V := fun _ _ F _ d v => Rep c.toGc F d v
abbrev rlT : Rl Bool Bool := fun _ _ _ _ a b => a = b
abbrev tE (c : Cn) (W : WX) (m : En → R D) : TE := tM c W (rlE c) m
abbrev tT (c : Cn) (W : WX) (m : En → R Bool) : TT := tM c W rlT m
section
variable {c : Cn} {W : WX} {σ : L2.St} {H F F' : Hp} {env : En}
theorem Okp.mono {α β : Type} {rl : Rl α β} {Q : β → Hp → Prop} {r : R α} (h : Okp c W σ F rl Q r) (s : Same F F') : Okp c W σ F' rl Q r := by
  cases r with
  | ok a e => exact fun b H1 F1 S s1 q => h b H1 F1 S (s.trans s1) q
  | er x e => exact fun a b H1 F1 S s1 q => h a b H1 F1 S (s.trans s1) q
  | no => exact h
theorem Okp.imp {α β : Type} {rl : Rl α β} {Q Q' : β → Hp → Prop} {r : R α} (h : Okp c W σ F rl Q r) (k : ∀ a b, Q a b → Q' a b) : Okp c W σ F rl Q' r := by
  cases r with
  | ok a e => exact fun b H1 F1 S s1 q => k _ _ (h b H1 F1 S s1 q)
  | er x e => exact h
  | no => exact h
/-- one part, then the rest -/
theorem tM_bind {α β γ δ : Type} {rl : Rl α β} {rl' : Rl γ δ} {Q : δ → Hp → Prop} {K : β → Hp → Prop} {m : En → R α} {f : α → En → R γ} (S : SR c env σ H F) (h : Okp c W σ F rl' Q ((m env).bind f))
    (k : ∀ a e b H1 F1, SR c e σ H1 F1 → Same F F1 → rl e σ F1 H1 a b → Okp c W σ F1 rl' Q (f a e) → K b H1) : tM c W rl m σ H K := by
  refine ⟨env, F, S, ?_⟩
  cases e : m env with
  | ok a e1 =>
    rw [e] at h
    exact fun b H1 F1 S1 s1 q => k a e1 b H1 F1 S1 s1 q (Okp.mono h s1)
  | er x e1 =>
    rw [e] at h
    exact h
  | no =>
    rw [e] at h
    exact h
end
theorem _root_.L2.PE.imp {X : Cx} {e : Expr} {t t' : TE} (h : PE X e t) (k : ∀ σ H Q, t' σ H Q → t σ H Q) : PE X e t' := ⟨fun pins s σ H Q I q => h.run pins s σ H Q I (k _ _ _ q)⟩
theorem _root_.L2.PT.imp {X : Cx} {e : Expr} {t t' : TT} (h : PT X e t) (k : ∀ σ H Q, t' σ H Q → t σ H Q) : PT X e t' := ⟨fun pins s σ H Q I q => h.run pins s σ H Q I (k _ _ _ q)⟩
theorem _root_.L2.PW.imp {X : Cx} {e : Expr} {t t' : TT} (h : PW X e t) (k : ∀ σ H Q, t' σ H Q → t σ H Q) : PW X e t' := ⟨fun wh pins s σ H Q I q => h.run wh pins s σ H Q I (k _ _ _ q)⟩
theorem _root_.L2.PS.imp {X : Cx} {e : Stmt} {t t' : TS} (h : PS X e t) (k : ∀ D σ H, t' D σ H → t D σ H) : PS X e t' := ⟨fun pins s σ H D I q => h.run pins s σ H D I (k _ _ _ q)⟩
theorem _root_.L2.PSs.imp {X : Cx} {e : List Stmt} {t t' : TS} (h : PSs X e t) (k : ∀ D σ H, t' D σ H → t D σ H) : PSs X e t' := ⟨fun pins s σ H D I q => h.run pins s σ H D I (k _ _ _ q)⟩
/-! ### operands: computed, or a slot that is read when the operation is done -/
inductive Od where
  | m (f : En → R D) | s (i : Nat)
def val (env : En) (i : Nat) : Option D := match env[i]? with
  | some (.fz d) => some d
  | some (.ow d) => some d
  | some (.rf d) => some d
  | _ => none
abbrev Pd := Sum D Nat
def evP : List Od → En → R (List Pd)
  | [], env => .ok [] env
  | .m f :: r, env => (f env).bind fun d e => (evP r e).bind fun ps e' => .ok (.inl d :: ps) e'
  | .s i :: r, env => match val env i with
    | some _ => (evP r env).bind fun ps e' => .ok (.inr i :: ps) e'
    | none => .no
def fill : List Pd → En → Option (List D)
  | [], _ => some []
  | .inl d :: r, e => (fill r e).map (d :: ·)
  | .inr i :: r, e => (val e i).bind fun d => (fill r e).map (d :: ·)
def evA (os : List Od) (env : En) : R (List D) := (evP os env).bind fun ps e => match fill ps e with
  | some ds => .ok ds e
  | none => .no
def Od.t (c : Cn) (W : WX) : Od → TE
  | .m f => tE c W f
  | .s i => tVar i
def tOds (c : Cn) (W : WX) : List Od → TA
  | [] => tNil
  | o :: r => tCons (o.t c W) (tOds c W r)
/-- read now: stable, or a container as it stands -/
inductive Rep1 (g : Gc) (F H : Hp) (d : D) (v : V) : Prop
  | st : Rep g F d v → Rep1 g F H d v
  | own {a o} : v = .ref a → H a = some o → RepO g F d o → Rep1 g F H d v
inductive Rep1s (g : Gc) (F H : Hp) : List D → List V → Prop
  | nil : Rep1s g F H [] []
  | cons {x xs v vs} : Rep1 g F H x v → Rep1s g F H xs vs → Rep1s g F H (x :: xs) (v :: vs)
def RepP (g : Gc) (F : Hp) (σ : L2.St) : Pd → V → Prop
  | .inl d, v => Rep g F d v
  | .inr i, v => σ[i]? = some (some v)
inductive RepPs (g : Gc) (F : Hp) (σ : L2.St) : List Pd → List V → Prop
  | nil : RepPs g F σ [] []
  | cons {x xs v vs} : RepP g F σ x v → RepPs g F σ xs vs → RepPs g F σ (x :: xs) (v :: vs)
section
variable {c : Cn} {W : WX} {σ : L2.St} {H F F' : Hp} {env : En}
theorem RepP.mono {g : Gc} (s : Same F F') {p : Pd} {v : V} (h : RepP g F σ p v) : RepP g F' σ p v := by
  cases p with
  | inl d => exact Rep.mono s h
  | inr i => exact h
theorem SR.val (S : SR c env σ H F) {i : Nat} {d : D} (e : val env i = some d) : ∃ v, σ[i]? = some (some v) ∧ Rep1 c.toGc F H d v := by
  unfold PV.val at e
  split at e
  · rename_i d' h
    cases e
    obtain ⟨v, h1, h2⟩ := S.fz i d h
    exact ⟨v, h1, .st h2⟩
  · rename_i d' h
    cases e
    obtain ⟨a, o, h1, h2, h3, h4, h5⟩ := S.ow i d h
    exact ⟨_, h1, .own rfl h2 h5⟩
  · rename_i d' h
    cases e
    obtain ⟨a, o, h0, h1, h2, h3, h5⟩ := S.rf i d h
    exact ⟨_, h1, .own rfl h2 h5⟩
  · cases e
theorem fill_ok (S : SR c env σ H F) : ∀ {ps : List Pd} {vs : List V} {ds : List D}, RepPs c.toGc F σ ps vs → fill ps env = some ds → Rep1s c.toGc F H ds vs
  | _, _, _, .nil, e => by
    cases e
    exact .nil
  | .inl d :: r, _, _, .cons h t, e => by
    unfold fill at e
    cases q : fill r env with
    | none =>
      rw [q] at e
      cases e
    | some ds' =>
      rw [q] at e
      cases e
      exact .cons (.st h) (fill_ok S t q)
  | .inr i :: r, _, _, .cons h t, e => by
    unfold fill at e
    cases z : val env i with
    | none =>
      rw [z] at e
      cases e
    | some d =>
      rw [z] at e
      cases q : fill r env with
      | none =>
        rw [q] at e
        cases e
      | some ds' =>
        rw [q] at e
        cases e
        obtain ⟨v, h1, h2⟩ := S.val z
        have h' : σ[i]? = some (some _) := h
        rw [h1] at h'
        cases h'
        exact .cons h2 (fill_ok S t q)
theorem R.bind_assoc {α β γ : Type} (r : R α) (f : α → En → R β) (k : β → En → R γ) : (r.bind f).bind k = r.bind fun a e => (f a e).bind k := by
  cases r <;> rfl
theorem tOdsP {α β : Type} {rl : Rl α β} {Q : β → Hp → Prop} : ∀ (os : List Od) {env : En} {H F : Hp} {f : List Pd → En → R α} {K : List V → Hp → Prop} (S : SR c env σ H F) (h : Okp c W σ F rl Q ((evP os env).bind f))
    (k : ∀ ps e vs H1 F1, SR c e σ H1 F1 → Same F F1 → RepPs c.toGc F1 σ ps vs → Okp c W σ F1 rl Q (f ps e) → K vs H1), tOds c W os σ H K
  | [], env, H, F, f, K, S, h, k => k [] env [] H F S (Same.refl _) .nil h
  | .m g :: r, env, H, F, f, K, S, h, k => by
    have h' : Okp c W σ F rl Q ((g env).bind fun d e => (evP r e).bind fun ps e' => f (.inl d :: ps) e') := by
      have e : (evP (.m g :: r) env).bind f = (g env).bind fun d e => (evP r e).bind fun ps e' => f (.inl d :: ps) e' := by
        show ((g env).bind fun d e => (evP r e).bind fun ps e' => R.ok (.inl d :: ps) e').bind f = _
        rw [R.bind_assoc]
        congr 1
        funext d e
        rw [R.bind_assoc]
        rfl
      rw [← e]
      exact h
    refine tM_bind (rl := rlE c) S h' fun d e v H1 F1 S1 s1 r1 h1 => ?_
    exact tOdsP r S1 h1 fun ps e' vs H2 F2 S2 s2 r2 h2 => k (.inl d :: ps) e' (v :: vs) H2 F2 S2 (s1.trans s2) (.cons (show RepP c.toGc F2 σ (.inl d) v from Rep.mono s2 r1) r2) h2
  | .s i :: r, env, H, F, f, K, S, h, k => by
    cases z : val env i with
    | none =>
      have e : (evP (.s i :: r) env).bind f = .no := by
        show (match val env i with | some _ => _ | none => R.no : R (List Pd)).bind f = .no
        rw [z]
        rfl
      rw [e] at h
      exact h.elim
    | some d =>
      obtain ⟨v, h1, h2⟩ := S.val z
      have e : (evP (.s i :: r) env).bind f = (evP r env).bind fun ps e' => f (.inr i :: ps) e' := by
        show (match val env i with | some _ => (evP r env).bind fun ps e' => R.ok (.inr i :: ps) e' | none => R.no : R (List Pd)).bind f = _
        rw [z]
        show ((evP r env).bind fun ps e' => R.ok (.inr i :: ps) e').bind f = _
        rw [R.bind_assoc]
        rfl
      rw [e] at h
      refine ⟨v, h1, ?_⟩
      exact tOdsP r S h fun ps e' vs H2 F2 S2 s2 r2 h2 => k (.inr i :: ps) e' (v :: vs) H2 F2 S2 s2 (.cons (show RepP c.toGc F2 σ (.inr i) v from h1) r2) h2
/-- THE RULE for operands -/
theorem tOdsA {α β : Type} {rl : Rl α β} {Q : β → Hp → Prop} (os : List Od) {f : List D → En → R α} {K : List V → Hp → Prop} (S : SR c env σ H F) (h : Okp c W σ F rl Q ((evA os env).bind f))
    (k : ∀ ds e vs H1 F1, SR c e σ H1 F1 → Same F F1 → Rep1s c.toGc F1 H1 ds vs → Okp c W σ F1 rl Q (f ds e) → K vs H1) : tOds c W os σ H K := by
  unfold evA at h
  rw [R.bind_assoc] at h
  refine tOdsP os S h fun ps e vs H1 F1 S1 s1 r1 h1 => ?_
  cases q : fill ps e with
  | none =>
    rw [q] at h1
    exact h1.elim
  | some ds =>
    rw [q] at h1
    exact k ds e vs H1 F1 S1 s1 (fill_ok S1 r1 q) h1
end
/-! ### operations by data -/
/-- a place for a result: frozen -/
structure Go (g : Gc) (F H F' H' : Hp) : Prop where
  gr : Gr g none F H F' H'
  th : ∀ b, H b ≠ none → H' b ≠ none
theorem Go.refl {g : Gc} {F H : Hp} (w : WF g F H) : Go g F H F H := ⟨Gr.refl w, fun _ h => h⟩
theorem upd_there {H : Hp} {a : Addr} {o : HO} : ∀ b, H b ≠ none → upd H a o b ≠ none := fun b h => by
  unfold upd
  split
  · simp
  · exact h
theorem Go.frz {g : Gc} {F H : Hp} {a : Addr} {o : HO} (w : WF g F H) (n : H a = none) (nt : ∀ ps, o ≠ .tbl ps) : Go g F H (upd F a o) (upd H a o) := ⟨Gr.frz w n nt, upd_there⟩
theorem Go.trans {g : Gc} {F H F1 H1 F2 H2 : Hp} (x : Go g F H F1 H1) (y : Go g F1 H1 F2 H2) : Go g F H F2 H2 := ⟨x.gr.trans y.gr x.th, fun b h => y.th b (x.th b h)⟩
theorem SR.go {c : Cn} {env : En} {σ : L2.St} {H F H' F' : Hp} (S : SR c env σ H F) (x : Go c.toGc F H F' H') : SR c env σ H' F' := S.grow x.gr x.th
/-- an operation of values does what f does of data -/
def OpA (g : Gc) (r : List V → Hp → VK → Prop) (f : List D → Option D) : Prop := ∀ (ds : List D) (vs : List V) (d : D) (F H : Hp) (Q : VK), WF g F H → Rep1s g F H ds vs → f ds = some d →
  (∀ v H' F', Go g F H F' H' → Rep g F' d v → Q v H') → r vs H Q
def mOp (f : List D → Option D) (os : List Od) : En → R D := fun env => (evA os env).bind fun ds e => match f ds with
  | some d => .ok d e
  | none => .no
section
variable {c : Cn} {W : WX} {X : Cx}
theorem tOp_ok {r : List V → Hp → VK → Prop} {f : List D → Option D} {os : List Od} (ho : OpA c.toGc r f) {σ : L2.St} {H : Hp} {Q : VK} (h : tE c W (mOp f os) σ H Q) : tOds c W os σ H fun vs H1 => r vs H1 Q := by
  obtain ⟨env, F, S, h⟩ := h
  refine tOdsA os S h fun ds e vs H1 F1 S1 s1 r1 h1 => ?_
  cases q : f ds with
  | none =>
    rw [q] at h1
    exact h1.elim
  | some d =>
    rw [q] at h1
    exact ho ds vs d F1 H1 Q S1.wf r1 q fun v H2 F2 g2 rv => h1 v H2 F2 (S1.go g2) g2.gr.f rv
/-! ### names, constants -/
def mV (i : Nat) : En → R D := fun env => match env[i]? with
  | some (.fz d) => .ok d env
  | _ => .no
def mK (d : D) : En → R D := fun env => .ok d env
theorem re_var {i : Nat} {e : Expr} (h : PE X e (tVar i)) : PE X e (tE c W (mV i)) := h.imp fun σ H Q q => by
  obtain ⟨env, F, S, q⟩ := q
  unfold mV at q
  split at q
  · rename_i d z
    obtain ⟨v, h1, h2⟩ := S.fz i d z
    exact ⟨v, h1, q v H F S (Same.refl _) h2⟩
  · exact q.elim
theorem re_c {d : D} {v : V} {e : Expr} (h : PE X e (tC v)) (r : ∀ F, Rep c.toGc F d v) : PE X e (tE c W (mK d)) := h.imp fun σ H Q q => by
  obtain ⟨env, F, S, q⟩ := q
  exact q v H F S (Same.refl _) (r F)
theorem re_int {i j pos} : PE X (.Constant (.int i) j pos) (tE c W (mK (.int i))) := re_c pe_int fun _ => .int
theorem re_bl {b j pos} : PE X (.Constant (.bool b) j pos) (tE c W (mK (.bl b))) := re_c pe_bl fun _ => .bl
theorem re_non {j pos} : PE X (.Constant .none j pos) (tE c W (mK .non)) := re_c pe_non fun _ => .non
theorem re_str {x j pos} : PE X (.Constant (.str x) j pos) (tE c W (mK (.str x))) := re_c pe_str fun _ => .str
theorem re_fn {x : Str} {a : Addr} {pos : Pos} (hg : Gl X x) (hm : X.mg x = some (.ref a)) (hc : c.mg = X.mg) (hd : (x == ("__debug__" : Str)) = false := by decide) : PE X (.Name x pos) (tE c W (mK (.fn x))) :=
  re_c (pe_glob (v := .ref a) hg hm rfl hd) fun _ => .fn (by rw [hc]; exact hm)
/-- a constant of the module -/
theorem re_gint {x : Str} {i : Int} {pos : Pos} (hg : Gl X x) (hm : ∃ t, X.mg x = some (.int i t)) (hd : (x == ("__debug__" : Str)) = false := by decide) : PE X (.Name x pos) (tE c W (mK (.int i))) := by
  obtain ⟨t, hm⟩ := hm
  exact re_c (pe_glob (v := .int i) hg hm ⟨t, rfl⟩ hd) fun _ => .int
theorem re_gstr {x z : Str} {pos : Pos} (hg : Gl X x) (hm : ∃ t, X.mg x = some (.str z t)) (hd : (x == ("__debug__" : Str)) = false := by decide) : PE X (.Name x pos) (tE c W (mK (.str z))) := by
  obtain ⟨t, hm⟩ := hm
  exact re_c (pe_glob (v := .str z) hg hm ⟨t, rfl⟩ hd) fun _ => .str
/-! ### operators -/
variable {a b : Expr} {o1 o2 o3 : Od} {pos : Pos}
def r2 (r : R2) : List V → Hp → VK → Prop := fun vs H Q => match vs with
  | [x, y] => r x y H Q
  | _ => False
def r1 (r : V → Hp → VK → Prop) : List V → Hp → VK → Prop := fun vs H Q => match vs with
  | [x] => r x H Q
  | _ => False
theorem re_op {op : Operator} {r : R2} {f : List D → Option D} (ho : OpR X (binaryOp op) r) (hf : OpA c.toGc (r2 r) f) (ha : PE X a (o1.t c W)) (hb : PE X b (o2.t c W)) : PE X (.BinOp a op b pos) (tE c W (mOp f [o1, o2])) :=
  (pe_op ho ha hb).imp fun _ _ _ q => tOp_ok hf q
theorem re_un {op : UnaryOp} {r : V → Hp → VK → Prop} {f : List D → Option D} (ho : UnR X (unaryOp op) r) (hf : OpA c.toGc (r1 r) f) (ha : PE X a (o1.t c W)) : PE X (.UnaryOp op a pos) (tE c W (mOp f [o1])) :=
  (pe_un ho ha).imp fun _ _ _ q => tOp_ok hf q
theorem re_cmp {op : CmpOp} {r : R2} {f : List D → Option D} (ho : OpR X (compareOp op) r) (hf : OpA c.toGc (r2 r) f) (ha : PE X a (o1.t c W)) (hb : PE X b (o2.t c W)) (hm : behindInMarks op b = false) : PE X (.Compare a [op] [b] pos) (tE c W (mOp f [o1, o2])) :=
  (pe_cmpR ho ha hb hm).imp fun _ _ _ q => tOp_ok hf q
/-! ### tests -/
def mT (m : En → R D) : En → R Bool := fun env => (m env).bind fun d e => match d with
  | .bl b => .ok b e
  | _ => .no
theorem tT_ok {m : En → R D} {σ : L2.St} {H : Hp} {Q : Bool → Hp → Prop} (h : tT c W (mT m) σ H Q) : tE c W m σ H fun x H1 => ∃ k, x = .bl k ∧ Q k H1 := by
  obtain ⟨env, F, S, h⟩ := h
  refine tM_bind S h fun d e v H1 F1 S1 s1 r1 h1 => ?_
  cases r1 with
  | bl => exact ⟨_, rfl, h1 _ H1 F1 S1 (Same.refl _) rfl⟩
  | _ => exact h1.elim
theorem rt_cmp {op : CmpOp} {r : R2} {f : List D → Option D} (ho : OpR X (compareOp op) r) (hf : OpA c.toGc (r2 r) f) (ha : PE X a (o1.t c W)) (hb : PE X b (o2.t c W)) (hm : behindInMarks op b = false) : PT X (.Compare a [op] [b] pos) (tT c W (mT (mOp f [o1, o2]))) :=
  (pt_cmpR ho ha hb hm).imp fun _ _ _ q => tOp_ok hf (tT_ok q)
theorem rt_val {e : Expr} {m : En → R D} (h : PE X e (tE c W m)) (he : ∀ whole, isTrue e X.env whole = (do let v ← whole; standAt e.pos; holding [v] (truthy v)) := by intro _; rfl) : PT X e (tT c W (mT m)) :=
  (pt_val h he).imp fun _ _ _ q => tT_ok q
def mNot (m : En → R Bool) : En → R Bool := fun env => (m env).bind fun b e => .ok (!b) e
def mAnd (m n : En → R Bool) : En → R Bool := fun env => (m env).bind fun b e => if b = true then n e else .ok false e
def mOr (m n : En → R Bool) : En → R Bool := fun env => (m env).bind fun b e => if b = true then .ok true e else n e
variable {m n : En → R Bool} {rest : List Expr}
theorem rt_not (h : PT X a (tT c W m)) : PT X (.UnaryOp .Not a pos) (tT c W (mNot m)) := (pt_not h).imp fun σ H Q q => by
  obtain ⟨env, F, S, q⟩ := q
  exact tM_bind S q fun b e b' H1 F1 S1 s1 r1 h1 => by
    cases r1
    exact h1 _ H1 F1 S1 (Same.refl _) rfl
theorem rw_and1 (h : PT X a (tT c W m)) : PW X (.BoolOp .And [a] pos) (tT c W m) := pw_and1 h
theorem rw_or1 (h : PT X a (tT c W m)) : PW X (.BoolOp .Or [a] pos) (tT c W m) := pw_or1 h
theorem rw_and (ha : PT X a (tT c W m)) (hb : PW X (.BoolOp .And (b :: rest) pos) (tT c W n)) : PW X (.BoolOp .And (a :: b :: rest) pos) (tT c W (mAnd m n)) := (pw_and ha hb).imp fun σ H Q q => by
  obtain ⟨env, F, S, q⟩ := q
  refine tM_bind S q fun b e b' H1 F1 S1 s1 r1 h1 => ?_
  cases r1
  cases b with
  | true => exact iteT ⟨e, F1, S1, h1⟩
  | false => exact iteF (h1 _ H1 F1 S1 (Same.refl _) rfl)
theorem rw_or (ha : PT X a (tT c W m)) (hb : PW X (.BoolOp .Or (b :: rest) pos) (tT c W n)) : PW X (.BoolOp .Or (a :: b :: rest) pos) (tT c W (mOr m n)) := (pw_or ha hb).imp fun σ H Q q => by
  obtain ⟨env, F, S, q⟩ := q
  refine tM_bind S q fun b e b' H1 F1 S1 s1 r1 h1 => ?_
  cases r1
  cases b with
  | true => exact iteT (h1 _ H1 F1 S1 (Same.refl _) rfl)
  | false => exact iteF ⟨e, F1, S1, h1⟩
/-- as values -/
def mB (m : En → R Bool) : En → R D := fun env => (m env).bind fun b e => .ok (.bl b) e
def mAndV (m n : En → R D) : En → R D := fun env => (mT m env).bind fun b e => if b = true then n e else .ok (.bl false) e
def mOrV (m n : En → R D) : En → R D := fun env => (mT m env).bind fun b e => if b = true then .ok (.bl true) e else n e
def mNotV (m : En → R D) : En → R D := fun env => (mT m env).bind fun b e => .ok (.bl (!b)) e
variable {x y : En → R D}
theorem re_one {op} (h : PE X a (tE c W x)) : PE X (.BoolOp op [a] pos) (tE c W x) := pe_one h
theorem tEb {x : En → R D} {α β : Type} {rl : Rl α β} {Q : β → Hp → Prop} {σ : L2.St} {env : En} {H F : Hp} {f : Bool → En → R α} {K : Bool → Hp → Prop} (S : SR c env σ H F) (h : Okp c W σ F rl Q ((mT x env).bind f))
    (k : ∀ b e H1 F1, SR c e σ H1 F1 → Okp c W σ F1 rl Q (f b e) → K b H1) : tE c W x σ H fun v H1 => ∃ b, v = .bl b ∧ K b H1 := by
  unfold mT at h
  rw [R.bind_assoc] at h
  refine tM_bind S h fun d e v H1 F1 S1 s1 r1 h1 => ?_
  cases r1 with
  | bl => exact ⟨_, rfl, k _ e H1 F1 S1 h1⟩
  | _ => exact h1.elim
theorem re_and (ha : PE X a (tE c W x)) (hb : PE X (.BoolOp .And (b :: rest) pos) (tE c W y)) : PE X (.BoolOp .And (a :: b :: rest) pos) (tE c W (mAndV x y)) := (pe_and ha hb).imp fun σ H Q q => by
  obtain ⟨env, F, S, q⟩ := q
  refine tEb S q fun b e H1 F1 S1 h1 => ?_
  cases b with
  | true => exact iteT ⟨e, F1, S1, h1⟩
  | false => exact iteF (h1 _ H1 F1 S1 (Same.refl _) .bl)
theorem re_or (ha : PE X a (tE c W x)) (hb : PE X (.BoolOp .Or (b :: rest) pos) (tE c W y)) : PE X (.BoolOp .Or (a :: b :: rest) pos) (tE c W (mOrV x y)) := (pe_or ha hb).imp fun σ H Q q => by
  obtain ⟨env, F, S, q⟩ := q
  refine tEb S q fun b e H1 F1 S1 h1 => ?_
  cases b with
  | true => exact iteT (h1 _ H1 F1 S1 (Same.refl _) .bl)
  | false => exact iteF ⟨e, F1, S1, h1⟩
theorem re_not (ha : PE X a (tE c W x)) : PE X (.UnaryOp .Not a pos) (tE c W (mNotV x)) := (pe_not ha).imp fun σ H Q q => by
  obtain ⟨env, F, S, q⟩ := q
  exact tEb S q fun b e H1 F1 S1 h1 => h1 _ H1 F1 S1 (Same.refl _) .bl
def mIf (m : En → R Bool) (x y : En → R D) : En → R D := fun env => (m env).bind fun b e => if b = true then x e else y e
theorem re_if {cnd : Expr} (hc : PT X cnd (tT c W m)) (ha : PE X a (tE c W x)) (hb : PE X b (tE c W y)) : PE X (.IfExp cnd a b pos) (tE c W (mIf m x y)) := (pe_ifExp hc ha hb).imp fun σ H Q q => by
  obtain ⟨env, F, S, q⟩ := q
  refine tM_bind S q fun b e b' H1 F1 S1 s1 r1 h1 => ?_
  cases r1
  cases b with
  | true => exact iteT ⟨e, F1, S1, h1⟩
  | false => exact iteF ⟨e, F1, S1, h1⟩
/-- a < b < c -/
def mChain (f f' : List D → Option D) (x y z : En → R D) : En → R D := fun env => (x env).bind fun d1 e1 => (y e1).bind fun d2 e2 => match f [d1, d2] with
  | some (.bl true) => (z e2).bind fun d3 e3 => (match f' [d2, d3] with
    | some d => .ok d e3
    | none => .no)
  | some (.bl false) => .ok (.bl false) e2
  | _ => .no
variable {cc : Expr} {z : En → R D}
theorem chain_ok {r r' : R2} {f f' : List D → Option D} (hf : OpA c.toGc (r2 r) f) (hf' : OpA c.toGc (r2 r') f') {σ : L2.St} {H : Hp} {Q : VK} (q : tE c W (mChain f f' x y z) σ H Q) : tChain r r' (tE c W x) (tE c W y) (tE c W z) σ H Q := by
  obtain ⟨env, F, S, q⟩ := q
  refine tM_bind S q fun d1 e1 v1 H1 F1 S1 s1 r1 h1 => ?_
  refine tM_bind S1 h1 fun d2 e2 v2 H2 F2 S2 s2 r2' h2 => ?_
  have R : Rep1s c.toGc F2 H2 [d1, d2] [v1, v2] := .cons (.st (r1.mono s2)) (.cons (.st r2') .nil)
  split at h2
  · rename_i q
    refine hf [d1, d2] [v1, v2] _ F2 H2 _ S2.wf R q fun v H3 F3 g3 rv => ?_
    cases rv
    refine ⟨true, rfl, iteT ?_⟩
    refine tM_bind (S2.go g3) (Okp.mono h2 g3.gr.f) fun d3 e3 v3 H4 F4 S4 s4 r4 h4 => ?_
    split at h4
    · rename_i d q'
      exact hf' [d2, d3] [v2, v3] d F4 H4 _ S4.wf (.cons (.st ((r2'.mono g3.gr.f).mono s4)) (.cons (.st r4) .nil)) q' fun v H5 F5 g5 rv => h4 v H5 F5 (S4.go g5) g5.gr.f rv
    · exact h4.elim
  · rename_i q
    refine hf [d1, d2] [v1, v2] _ F2 H2 _ S2.wf R q fun v H3 F3 g3 rv => ?_
    cases rv
    refine ⟨false, rfl, iteF ?_⟩
    exact h2 _ H3 F3 (S2.go g3) g3.gr.f .bl
  · exact h2.elim
theorem re_chain {op op' : CmpOp} {r r' : R2} {f f' : List D → Option D} (ho : OpR X (compareOp op) r) (ho' : OpR X (compareOp op') r') (hf : OpA c.toGc (r2 r) f) (hf' : OpA c.toGc (r2 r') f') (ha : PE X a (tE c W x)) (hb : PE X b (tE c W y)) (hc : PE X cc (tE c W z))
    (hm : lastMarks [op, op'] [b, cc] = false := by with_unfolding_all rfl) :
    PE X (.Compare a [op, op'] [b, cc] pos) (tE c W (mChain f f' x y z)) := (pe_chain ho ho' ha hb hc hm).imp fun _ _ _ q => chain_ok hf hf' q
theorem rt_chain {op op' : CmpOp} {r r' : R2} {f f' : List D → Option D} (ho : OpR X (compareOp op) r) (ho' : OpR X (compareOp op') r') (hf : OpA c.toGc (r2 r) f) (hf' : OpA c.toGc (r2 r') f') (ha : PE X a (tE c W x)) (hb : PE X b (tE c W y)) (hc : PE X cc (tE c W z))
    (hm : lastMarks [op, op'] [b, cc] = false := by with_unfolding_all rfl) :
    PT X (.Compare a [op, op'] [b, cc] pos) (tT c W (mT (mChain f f' x y z))) := (pt_chain ho ho' ha hb hc hm).imp fun _ _ _ q => chain_ok hf hf' (tT_ok q)
end
end PV

namespace PV
open PySem PySem.Spec PyProof.Rows L2
/-! ### new containers -/
abbrev rlF (c : Cn) : Rl D V := fun e σ F H d v => ∃ a o, v = .ref a ∧ H a = some o ∧ F a = none ∧ c.H0 a = none ∧ c.ra ≠ some a ∧ (∀ i, ¬ Own e σ i a) ∧ RepO c.toGc F d o
abbrev tF (c : Cn) (W : WX) (m : En → R D) : TE := tM c W (rlF c) m
section
variable {c : Cn} {env : En} {σ : L2.St} {H F : Hp}
theorem SR.own_there (S : SR c env σ H F) {i : Nat} {a : Addr} (h : Own env σ i a) : H a ≠ none ∧ F a = none := by
  obtain ⟨h1, d, h2 | h2⟩ := h
  · obtain ⟨b, o, e1, e2, e3, _⟩ := S.ow i d h2
    rw [h1] at e1
    cases e1
    exact ⟨by rw [e2]; simp, e3⟩
  · obtain ⟨b, o, _, e1, e2, e3, _⟩ := S.rf i d h2
    rw [h1] at e1
    cases e1
    exact ⟨by rw [e2]; simp, e3⟩
theorem SR.fresh (S : SR c env σ H F) {a : Addr} {o : HO} (n : H a = none) (nt : tupy o = false) : SR c env σ (upd H a o) F := S.grow (Gr.fresh S.wf n nt) upd_there
theorem SR.h0 (S : SR c env σ H F) {a : Addr} (n : H a = none) : c.H0 a = none := by
  cases q : c.H0 a with
  | none => rfl
  | some o => exact absurd n (S.there a (by rw [q]; simp))
theorem SR.newF (S : SR c env σ H F) {a : Addr} {o : HO} {d : D} (n : H a = none) (r : RepO c.toGc F d o) : rlF c env σ F (upd H a o) d (.ref a) :=
  ⟨a, o, rfl, upd_same, S.wf.sub.free n, S.h0 n, fun z => S.rtH a z n, fun i h => (S.own_there h).1 n, r⟩
theorem SR.freeze (S : SR c env σ H F) {a : Addr} {o : HO} {d : D} (h : H a = some o) (hF : F a = none) (h0 : c.H0 a = none) (no : ∀ i, ¬ Own env σ i a) (r : RepO c.toGc F d o) : SR c env σ H (upd F a o) ∧ Same F (upd F a o) := by
  have sm : Same F (upd F a o) := Same_upd hF
  refine ⟨⟨⟨⟨fun b u e => ?_, fun b u e t => sm _ _ (S.wf.tup b u e t), fun b ps e => ?_, S.wf.tab⟩, S.gr.f.trans sm, S.gr.h, fun b hb => ?_⟩, S.there, S.rt, S.len, fun i d' e => ?_, fun i d' e => ?_, fun i d' e => ?_, S.apart⟩, sm⟩
  · by_cases hb : b = a
    · subst hb
      rw [upd_same] at e
      rw [h, e]
    · rw [upd_ne hb] at e
      exact S.wf.sub _ _ e
  · by_cases hb : b = a
    · subst hb
      rw [upd_same] at e
      exact r.ntbl ps (Option.some.inj e)
    · rw [upd_ne hb] at e
      exact S.wf.nt _ _ e
  · have : b ≠ a := fun z => by subst z; exact hb h0
    rw [upd_ne this]
    exact S.gr.new b hb
  · obtain ⟨v, h1, h2⟩ := S.fz i d' e
    exact ⟨v, h1, h2.mono sm⟩
  · obtain ⟨b, u, h1, h2, h3, h4, h5⟩ := S.ow i d' e
    have hb : b ≠ a := fun z => by subst z; exact no i ⟨h1, d', .inl e⟩
    exact ⟨b, u, h1, h2, by rw [upd_ne hb]; exact h3, h4, h5.mono sm⟩
  · obtain ⟨b, u, h0', h1, h2, h3, h5⟩ := S.rf i d' e
    have hb : b ≠ a := fun z => by subst z; exact no i ⟨h1, d', .inr e⟩
    exact ⟨b, u, h0', h1, h2, by rw [upd_ne hb]; exact h3, h5.mono sm⟩
end
theorem Tabs_put {T : List (Addr × Str)} {H : Hp} {a : Addr} {u o : HO} (t : LamX.Tabs T H) (h : H a = some u) (n1 : ∀ ps, u ≠ .tbl ps) (n2 : ∀ φ, u ≠ .ext φ) : LamX.Tabs T (upd H a o) := fun p hp => by
  obtain ⟨ps, h1, h2, h3⟩ := t p hp
  have nP : p.1 ≠ a := fun z => by
    rw [z, h] at h1
    exact n1 ps (Option.some.inj h1)
  refine ⟨ps, by rw [upd_ne nP]; exact h1, h2, fun pos cv hc => ?_⟩
  obtain ⟨cc, e1, e2⟩ := h3 pos cv hc
  have nc : cc ≠ a := fun z => by
    rw [z, h] at e2
    exact n2 _ (Option.some.inj e2)
  exact ⟨cc, e1, by rw [upd_ne nc]; exact e2⟩
theorem SR.lock {c : Cn} {env : En} {σ : L2.St} {H F : Hp} (S : SR c env σ H F) {a : Addr} {o : HO} {d : D} {od : Obj} (h : H a = some o) (hF : F a = none) (h0 : c.H0 a = none) (no : ∀ i, ¬ Own env σ i a) (r : RepO c.toGc F d o) : SR c env σ (upd H a (.frz od o)) (upd F a (.frz od o)) ∧ Same F (upd F a (.frz od o)) := by
  have sm : Same F (upd F a (.frz od o)) := Same_upd hF
  refine ⟨⟨⟨⟨fun b u e => ?_, fun b u e t => ?_, fun b ps e => ?_, Tabs_put S.wf.tab h r.ntbl r.next⟩, S.gr.f.trans sm, fun b u e n z => ?_, fun b hb => ?_⟩, fun b hb => upd_there b (S.there b hb), S.rt, S.len, fun i d' e => ?_, fun i d' e => ?_, fun i d' e => ?_, S.apart⟩, sm⟩
  · by_cases hb : b = a
    · subst hb
      rw [upd_same] at e ⊢
      exact e
    · rw [upd_ne hb] at e ⊢
      exact S.wf.sub _ _ e
  · by_cases hb : b = a
    · subst hb
      rw [upd_same] at e ⊢
      exact e
    · rw [upd_ne hb] at e ⊢
      exact S.wf.tup _ _ e t
  · by_cases hb : b = a
    · subst hb
      rw [upd_same] at e
      cases e
    · rw [upd_ne hb] at e
      exact S.wf.nt _ _ e
  · have hb : b ≠ a := fun z => by
      subst z
      rw [h0] at e
      cases e
    rw [upd_ne hb]
    exact S.gr.h b u e n z
  · have : b ≠ a := fun z => by subst z; exact hb h0
    rw [upd_ne this]
    exact S.gr.new b hb
  · obtain ⟨v, h1, h2⟩ := S.fz i d' e
    exact ⟨v, h1, h2.mono sm⟩
  · obtain ⟨b, u, h1, h2, h3, h4, h5⟩ := S.ow i d' e
    have hb : b ≠ a := fun z => by subst z; exact no i ⟨h1, d', .inl e⟩
    exact ⟨b, u, h1, by rw [upd_ne hb]; exact h2, by rw [upd_ne hb]; exact h3, h4, h5.mono sm⟩
  · obtain ⟨b, u, h0', h1, h2, h3, h5⟩ := S.rf i d' e
    have hb : b ≠ a := fun z => by subst z; exact no i ⟨h1, d', .inr e⟩
    exact ⟨b, u, h0', h1, by rw [upd_ne hb]; exact h2, by rw [upd_ne hb]; exact h3, h5.mono sm⟩
section
variable {c : Cn} {W : WX} {X : Cx}
/-- what is new, frozen -/
theorem re_fz {e : Expr} {m : En → R D} (h : PE X e (tF c W m)) : PE X e (tE c W m) := ⟨fun pins s σ H Q I q => by
  obtain ⟨env, F, S, q⟩ := q
  have q' : tF c W m σ H fun v H1 => ∃ a o e1 F1 d, v = .ref a ∧ SR c e1 σ H1 F1 ∧ H1 a = some o ∧ F1 a = none ∧ c.H0 a = none ∧ c.ra ≠ some a ∧ (∀ i, ¬ Own e1 σ i a) ∧ RepO c.toGc F1 d o ∧ (∀ v H' F', SR c e1 σ H' F' → Same F1 F' → Rep c.toGc F' d v → Q v H') := by
    refine ⟨env, F, S, ?_⟩
    cases z : m env with
    | ok d e1 =>
      rw [z] at q
      intro v H1 F1 S1 s1 ⟨a, o, ev, h1, h2, h3, h6, h4, h5⟩
      exact ⟨a, o, e1, F1, d, ev, S1, h1, h2, h3, h6, h4, h5, fun v H' F' S' s' r => q v H' F' S' (s1.trans s') r⟩
    | er x e1 =>
      rw [z] at q
      exact q
    | no =>
      rw [z] at q
      exact q
  refine thn (h.run pins s σ H _ I q') fun v s1 ⟨x, H1, I1, rx, a, o, e1, F1, d, ev, S1, h1, h2, h3, h6, h4, h5, k⟩ => ?_
  subst ev
  cases hl : lockO d with
  | false =>
    obtain ⟨S2, s2⟩ := S1.freeze h1 h2 h3 h4 h5
    exact ⟨_, H1, I1, rx, k _ H1 _ S2 s2 ((h5.mono s2).rep hl upd_same)⟩
  | true =>
    obtain ⟨od, I2⟩ := I1.lock h1 h5.mut
    obtain ⟨S2, s2⟩ := S1.lock (od := od) h1 h2 h3 h4 h5
    exact ⟨_, _, I2, rx, k _ _ _ S2 s2 ((h5.mono s2).repL hl upd_same)⟩⟩
/-- an operation that makes a new container -/
def OpF (g : Gc) (r : List V → Hp → VK → Prop) (f : List D → Option D) : Prop := ∀ (ds : List D) (vs : List V) (d : D) (F H : Hp) (Q : VK), WF g F H → Rep1s g F H ds vs → f ds = some d →
  (∀ a o, H a = none → RepO g F d o → Q (.ref a) (upd H a o)) → r vs H Q
theorem tOpF_ok {r : List V → Hp → VK → Prop} {f : List D → Option D} {os : List Od} (ho : OpF c.toGc r f) {σ : L2.St} {H : Hp} {Q : VK} (h : tF c W (mOp f os) σ H Q) : tOds c W os σ H fun vs H1 => r vs H1 Q := by
  obtain ⟨env, F, S, h⟩ := h
  refine tOdsA os S h fun ds e vs H1 F1 S1 s1 r1 h1 => ?_
  cases q : f ds with
  | none =>
    rw [q] at h1
    exact h1.elim
  | some d =>
    rw [q] at h1
    exact ho ds vs d F1 H1 Q S1.wf r1 q fun a o n ro => h1 (.ref a) _ F1 (S1.fresh n ro.ntup) (Same.refl _) (S1.newF n ro)
theorem OpF.opA {g : Gc} {r : List V → Hp → VK → Prop} {f : List D → Option D} (h : OpF g r f) (hl : ∀ ds d, f ds = some d → lockO d = false) : OpA g r f := fun ds vs d F H Q w R e k =>
  h ds vs d F H Q w R e fun a o n ro => k (.ref a) _ (upd F a o) (Go.frz w n ro.ntbl) ((ro.mono (Same_upd (w.sub.free n))).rep (hl ds d e) upd_same)
/-! ### several in a row, all of them kept -/
def evS : List (En → R D) → En → R (List D)
  | [], env => .ok [] env
  | m :: r, env => (m env).bind fun d e => (evS r e).bind fun ds e' => .ok (d :: ds) e'
def tMs (c : Cn) (W : WX) : List (En → R D) → TA
  | [] => tNil
  | m :: r => tCons (tE c W m) (tMs c W r)
theorem tMsA {α β : Type} {rl : Rl α β} {Q : β → Hp → Prop} {σ : L2.St} : ∀ (ms : List (En → R D)) {env : En} {H F : Hp} {f : List D → En → R α} {K : List V → Hp → Prop} (S : SR c env σ H F) (h : Okp c W σ F rl Q ((evS ms env).bind f))
    (k : ∀ ds e vs H1 F1, SR c e σ H1 F1 → Same F F1 → Reps c.toGc F1 ds vs → ds.length = ms.length → Okp c W σ F1 rl Q (f ds e) → K vs H1), tMs c W ms σ H K
  | [], env, H, F, f, K, S, h, k => k [] env [] H F S (Same.refl _) .nil rfl h
  | m :: r, env, H, F, f, K, S, h, k => by
    have e : (evS (m :: r) env).bind f = (m env).bind fun d e => (evS r e).bind fun ds e' => f (d :: ds) e' := by
      show ((m env).bind fun d e => (evS r e).bind fun ds e' => R.ok (d :: ds) e').bind f = _
      rw [R.bind_assoc]
      congr 1
      funext d e
      rw [R.bind_assoc]
      rfl
    rw [e] at h
    refine tM_bind (rl := rlE c) S h fun d e v H1 F1 S1 s1 r1 h1 => ?_
    exact tMsA r S1 h1 fun ds e' vs H2 F2 S2 s2 r2 hl h2 => k (d :: ds) e' (v :: vs) H2 F2 S2 (s1.trans s2) (.cons (r1.mono s2) r2) (by simp [hl]) h2
theorem ra_nil : PA X [] (tMs c W []) := pa_nil
theorem ra_cons {e : Expr} {es : List Expr} {m : En → R D} {ms : List (En → R D)} (ha : PE X e (tE c W m)) (hr : PA X es (tMs c W ms)) (hs : starEach (e :: es) X.env = (false, eval e X.env) :: starEach es X.env := by rfl) : PA X (e :: es) (tMs c W (m :: ms)) := pa_cons ha hr hs
theorem ro_nil : PA X [] (tOds c W []) := pa_nil
theorem ro_cons {e : Expr} {es : List Expr} {o : Od} {os : List Od} (ha : PE X e (o.t c W)) (hr : PA X es (tOds c W os)) (hs : starEach (e :: es) X.env = (false, eval e X.env) :: starEach es X.env := by rfl) : PA X (e :: es) (tOds c W (o :: os)) := pa_cons ha hr hs
def lim : Nat := 1000000
theorem lim_line {n : Nat} (h : n ≤ lim) : n ≤ sizeLine := Nat.le_trans h (by decide)
theorem lim_lt {n : Nat} (h : n < lim) : n < sizeLine := Nat.lt_of_lt_of_le h (by decide)
def mTup (ms : List (En → R D)) : En → R D := fun env => (evS ms env).bind fun ds e => .ok (.tup ds) e
def mLst (ms : List (En → R D)) : En → R D := fun env => (evS ms env).bind fun ds e => .ok (.lst ds) e
theorem Reps.length_eq {g : Gc} {F : Hp} {ds : List D} {vs : List V} (r : Reps g F ds vs) : vs.length = ds.length := r.length.symm
theorem re_tup {es : List Expr} {k : Nat} {ms : List (En → R D)} {pos : Pos} (h : PA X es (tMs c W ms)) (hl : ms.length ≤ lim := by decide) : PE X (.Tuple es k pos) (tE c W (mTup ms)) := (pe_tup h).imp fun σ H Q q => by
  obtain ⟨env, F, S, q⟩ := q
  refine tMsA ms S q fun ds e vs H1 F1 S1 s1 r1 hn h1 => ?_
  refine ⟨lim_line (by rw [r1.length_eq, hn]; exact hl), fun p n => ?_⟩
  have g2 := Go.frz S1.wf n (o := .tup vs) (fun ps z => by cases z)
  exact h1 _ _ _ (S1.go g2) g2.gr.f (.tup (SqT.of upd_same) (r1.mono g2.gr.f))
theorem re_lst {es : List Expr} {ms : List (En → R D)} {pos : Pos} (h : PA X es (tMs c W ms)) (hl : ms.length ≤ lim := by decide) : PE X (.List es pos) (tF c W (mLst ms)) := (pe_lst h).imp fun σ H Q q => by
  obtain ⟨env, F, S, q⟩ := q
  refine tMsA ms S q fun ds e vs H1 F1 S1 s1 r1 hn h1 => ?_
  refine ⟨lim_line (by rw [r1.length_eq, hn]; exact hl), fun p n => ?_⟩
  exact h1 _ _ F1 (S1.fresh n rfl) (Same.refl _) (S1.newF n (.lst r1))
end
/-! ### statements -/
inductive Rs where
  | nx (e : En) | rt (d : D) (e : En) | bk (e : En) | ct (e : En) | er (x : Xn) (e : En) | no
def R.bs {α : Type} (r : R α) (f : α → En → Rs) : Rs := match r with
  | .ok a e => f a e
  | .er x e => .er x e
  | .no => .no
def Rs.bind (r : Rs) (f : En → Rs) : Rs := match r with
  | .nx e => f e
  | r => r
/-- what is returned: kept, or new (c.fr) -/
def rlR (c : Cn) (e : En) (σ : L2.St) (F H : Hp) (d : D) (v : V) : Prop := if c.fr = true then rlF c e σ F H d v else Rep c.toGc F d v
def OkS (c : Cn) (W : WX) (F : Hp) (D : Ends) : Rs → Prop
  | .nx e => ∀ σ H' F', SR c e σ H' F' → Same F F' → D.nx σ H'
  | .rt d e => ∀ v σ H' F', SR c e σ H' F' → Same F F' → rlR c e σ F' H' d v → D.rt v H'
  | .bk e => ∀ σ H' F', SR c e σ H' F' → Same F F' → D.bk σ H'
  | .ct e => ∀ σ H' F', SR c e σ H' F' → Same F F' → D.ct σ H'
  | .er x e => ∀ cls dx σ H' F', SR c e σ H' F' → Same F F' → RepX c.toGc F' x cls dx → W cls dx σ H'
  | .no => False
def tS (c : Cn) (W : WX) (m : En → Rs) : TS := fun D σ H => ∃ env F, SR c env σ H F ∧ OkS c W F D (m env)
section
variable {c : Cn} {W : WX} {X : Cx} {F F' H : Hp} {Z : Ends} {σ : L2.St} {env : En}
theorem OkS.mono {r : Rs} (h : OkS c W F Z r) (s : Same F F') : OkS c W F' Z r := by
  cases r with
  | nx e => exact fun a b d S s1 => h a b d S (s.trans s1)
  | rt v e => exact fun a b d f S s1 q => h a b d f S (s.trans s1) q
  | bk e => exact fun a b d S s1 => h a b d S (s.trans s1)
  | ct e => exact fun a b d S s1 => h a b d S (s.trans s1)
  | er x e => exact fun a b d f g S s1 q => h a b d f g S (s.trans s1) q
  | no => exact h
/-- an expression, then the rest of the statement -/
theorem tM_bs {α β : Type} {rl : Rl α β} {K : β → Hp → Prop} {m : En → R α} {f : α → En → Rs} (S : SR c env σ H F) (h : OkS c W F Z ((m env).bs f))
    (k : ∀ a e b H1 F1, SR c e σ H1 F1 → Same F F1 → rl e σ F1 H1 a b → OkS c W F1 Z (f a e) → K b H1) : tM c W rl m σ H K := by
  refine ⟨env, F, S, ?_⟩
  cases e : m env with
  | ok a e1 =>
    rw [e] at h
    exact fun b H1 F1 S1 s1 q => k a e1 b H1 F1 S1 s1 q (OkS.mono h s1)
  | er x e1 =>
    rw [e] at h
    exact fun cls dx H1 F1 S1 s1 q => h cls dx σ H1 F1 S1 s1 q
  | no =>
    rw [e] at h
    exact h
def sSeq (m n : En → Rs) : En → Rs := fun env => (m env).bind n
def sNil : En → Rs := .nx
theorem rss_nil : PSs X [] (tS c W sNil) := pss_nil.imp fun D σ H ⟨env, F, S, q⟩ => q σ H F S (Same.refl _)
theorem rss_one {st : Stmt} {m : En → Rs} (h : PS X st (tS c W m)) : PSs X [st] (tS c W m) := pss_one h
theorem rss_cons {st : Stmt} {rest : List Stmt} {m n : En → Rs} (h1 : PS X st (tS c W m)) (h2 : PSs X rest (tS c W n)) : PSs X (st :: rest) (tS c W (sSeq m n)) := (pss_cons h1 h2).imp fun D σ H ⟨env, F, S, q⟩ => by
  refine ⟨env, F, S, ?_⟩
  unfold sSeq at q
  cases z : m env with
  | nx e =>
    rw [z] at q
    exact fun σ' H' F' S' s' => ⟨e, F', S', OkS.mono q s'⟩
  | rt v e =>
    rw [z] at q
    exact q
  | bk e =>
    rw [z] at q
    exact q
  | ct e =>
    rw [z] at q
    exact q
  | er x e =>
    rw [z] at q
    exact q
  | no =>
    rw [z] at q
    exact q
def sPass : En → Rs := .nx
def sBk : En → Rs := .bk
def sCt : En → Rs := .ct
theorem rs_pass {pos : Pos} : PS X (.Pass pos) (tS c W sPass) := ps_pass.imp fun D σ H ⟨env, F, S, q⟩ => q σ H F S (Same.refl _)
theorem rs_bk {pos : Pos} : PS X (.Break pos) (tS c W sBk) := ps_break.imp fun D σ H ⟨env, F, S, q⟩ => q σ H F S (Same.refl _)
theorem rs_ct {pos : Pos} : PS X (.Continue pos) (tS c W sCt) := ps_continue.imp fun D σ H ⟨env, F, S, q⟩ => q σ H F S (Same.refl _)
def sEx (m : En → R D) : En → Rs := fun env => (m env).bs fun _ e => .nx e
theorem rs_ex {e : Expr} {pos : Pos} {m : En → R D} (h : PE X e (tE c W m)) (hs : swapsWith e none pos.line X.env = pure false := by rfl) : PS X (.Expr e pos) (tS c W (sEx m)) := (ps_expr h hs).imp fun D σ H ⟨env, F, S, q⟩ =>
  tM_bs S q fun d e v H1 F1 S1 s1 r1 h1 => h1 σ H1 F1 S1 (Same.refl _)
def sRt (m : En → R D) : En → Rs := fun env => (m env).bs fun d e => .rt d e
theorem rs_rt {e : Expr} {pos : Pos} {m : En → R D} (h : PE X e (tE c W m)) (hf : c.fr = false := by rfl) : PS X (.Return (some e) pos) (tS c W (sRt m)) := (ps_ret h).imp fun D σ H ⟨env, F, S, q⟩ =>
  tM_bs S q fun d e v H1 F1 S1 s1 r1 h1 => h1 v σ H1 F1 S1 (Same.refl _) (by unfold rlR; rw [if_neg (by rw [hf]; exact Bool.false_ne_true)]; exact r1)
theorem rs_rtF {e : Expr} {pos : Pos} {m : En → R D} (h : PE X e (tF c W m)) (hf : c.fr = true := by rfl) : PS X (.Return (some e) pos) (tS c W (sRt m)) := (ps_ret h).imp fun D σ H ⟨env, F, S, q⟩ =>
  tM_bs S q fun d e v H1 F1 S1 s1 r1 h1 => h1 v σ H1 F1 S1 (Same.refl _) (by unfold rlR; rw [if_pos hf]; exact r1)
def sRtN : En → Rs := fun env => .rt .non env
theorem rs_rtN {pos : Pos} (hf : c.fr = false := by rfl) : PS X (.Return none pos) (tS c W sRtN) := ps_retN.imp fun D σ H ⟨env, F, S, q⟩ => q .non σ H F S (Same.refl _) (by unfold rlR; rw [if_neg (by rw [hf]; exact Bool.false_ne_true)]; exact .non)
def sIf (t : En → R Bool) (m n : En → Rs) : En → Rs := fun env => (t env).bs fun b e => if b = true then m e else n e
theorem rs_if {cnd : Expr} {a b : List Stmt} {pos : Pos} {t : En → R Bool} {m n : En → Rs} (hc : PT X cnd (tT c W t)) (ha : PSs X a (tS c W m)) (hb : PSs X b (tS c W n)) : PS X (.If cnd a b pos) (tS c W (sIf t m n)) :=
  (ps_if hc ha hb).imp fun D σ H ⟨env, F, S, q⟩ => by
    refine tM_bs S q fun d e v H1 F1 S1 s1 r1 h1 => ?_
    cases r1
    cases d with
    | true => exact iteT ⟨e, F1, S1, h1⟩
    | false => exact iteF ⟨e, F1, S1, h1⟩
/-! ### slots stored -/
def free (env : En) (i : Nat) : Bool := match env[i]? with
  | some (.rf _) => false
  | some _ => true
  | none => false
theorem SR.set (S : SR c env σ H F) {i : Nat} {d : PV.D} {v : V} (hf : free env i = true) (r : Rep c.toGc F d v) : SR c (env.set i (.fz d)) (σ.set i (some v)) H F := by
  have hi : i < env.length := by
    unfold free at hf
    by_cases h : i < env.length
    · exact h
    · rw [List.getElem?_eq_none (by omega)] at hf
      cases hf
  have hi2 : i < σ.length := S.len ▸ hi
  have own : ∀ j a, Own (env.set i (.fz d)) (σ.set i (some v)) j a → j ≠ i ∧ Own env σ j a := fun j a ⟨h1, d', h2⟩ => by
    have hj : j ≠ i := fun z => by
      subst z
      rw [List.getElem?_set_self hi] at h2
      rcases h2 with h2 | h2 <;> cases h2
    rw [List.getElem?_set_ne (Ne.symm hj)] at h1 h2
    exact ⟨hj, h1, d', h2⟩
  refine ⟨S.gr, S.there, S.rt, by simpa using S.len, fun j d' e => ?_, fun j d' e => ?_, fun j d' e => ?_, fun j k a h1 h2 => S.apart j k a (own j a h1).2 (own k a h2).2⟩
  · by_cases hj : j = i
    · subst hj
      rw [List.getElem?_set_self hi] at e
      cases e
      exact ⟨v, List.getElem?_set_self hi2, r⟩
    · rw [List.getElem?_set_ne (Ne.symm hj)] at e ⊢
      exact S.fz j d' e
  · by_cases hj : j = i
    · subst hj
      rw [List.getElem?_set_self hi] at e
      cases e
    · rw [List.getElem?_set_ne (Ne.symm hj)] at e ⊢
      exact S.ow j d' e
  · by_cases hj : j = i
    · subst hj
      rw [List.getElem?_set_self hi] at e
      cases e
    · rw [List.getElem?_set_ne (Ne.symm hj)] at e ⊢
      exact S.rf j d' e
theorem SR.setO (S : SR c env σ H F) {i : Nat} {d : PV.D} {v : V} (hf : free env i = true) (r : rlF c env σ F H d v) : SR c (env.set i (.ow d)) (σ.set i (some v)) H F := by
  obtain ⟨a, o, ev, h1, h2, h3, _, h4, h5⟩ := r
  subst ev
  have hi : i < env.length := by
    unfold free at hf
    by_cases h : i < env.length
    · exact h
    · rw [List.getElem?_eq_none (by omega)] at hf
      cases hf
  have hi2 : i < σ.length := S.len ▸ hi
  have own : ∀ j b, Own (env.set i (.ow d)) (σ.set i (some (.ref a))) j b → (j = i ∧ b = a) ∨ (j ≠ i ∧ Own env σ j b) := fun j b ⟨g1, d', g2⟩ => by
    by_cases hj : j = i
    · subst hj
      rw [List.getElem?_set_self hi2] at g1
      cases g1
      exact .inl ⟨rfl, rfl⟩
    · rw [List.getElem?_set_ne (Ne.symm hj)] at g1 g2
      exact .inr ⟨hj, g1, d', g2⟩
  refine ⟨S.gr, S.there, S.rt, by simpa using S.len, fun j d' e => ?_, fun j d' e => ?_, fun j d' e => ?_, fun j k b g1 g2 => ?_⟩
  · by_cases hj : j = i
    · subst hj
      rw [List.getElem?_set_self hi] at e
      cases e
    · rw [List.getElem?_set_ne (Ne.symm hj)] at e ⊢
      exact S.fz j d' e
  · by_cases hj : j = i
    · subst hj
      rw [List.getElem?_set_self hi] at e
      cases e
      exact ⟨a, o, List.getElem?_set_self hi2, h1, h2, h3, h5⟩
    · rw [List.getElem?_set_ne (Ne.symm hj)] at e ⊢
      exact S.ow j d' e
  · by_cases hj : j = i
    · subst hj
      rw [List.getElem?_set_self hi] at e
      cases e
    · rw [List.getElem?_set_ne (Ne.symm hj)] at e ⊢
      exact S.rf j d' e
  · rcases own j b g1 with ⟨e1, e2⟩ | ⟨e1, e2⟩ <;> rcases own k b g2 with ⟨e3, e4⟩ | ⟨e3, e4⟩
    · rw [e1, e3]
    · subst e2
      exact absurd e4 (h4 k)
    · subst e4
      exact absurd e2 (h4 j)
    · exact S.apart j k b e2 e4
def sSet (i : Nat) (m : En → R D) : En → Rs := fun env => (m env).bs fun d e => if free e i = true then .nx (e.set i (.fz d)) else .no
def sSetO (i : Nat) (m : En → R D) : En → Rs := fun env => (m env).bs fun d e => if free e i = true then .nx (e.set i (.ow d)) else .no
variable {i : Nat} {x : Str} {e : Expr} {pos pos' : Pos} {m : En → R PV.D}
theorem set_ok {D : Ends} (q : tS c W (sSet i m) D σ H) : tE c W m σ H fun v H1 => gName i v σ H1 D.nx := by
  obtain ⟨env, F, S, q⟩ := q
  refine tM_bs S q fun d e v H1 F1 S1 s1 r1 h1 => ?_
  split at h1
  · rename_i hf
    exact h1 _ H1 F1 (S1.set hf r1) (Same.refl _)
  · exact h1.elim
theorem setO_ok {D : Ends} (q : tS c W (sSetO i m) D σ H) : tF c W m σ H fun v H1 => gName i v σ H1 D.nx := by
  obtain ⟨env, F, S, q⟩ := q
  refine tM_bs S q fun d e v H1 F1 S1 s1 r1 h1 => ?_
  split at h1
  · rename_i hf
    exact h1 _ H1 F1 (S1.setO hf r1) (Same.refl _)
  · exact h1.elim
theorem rs_set (hN : X.N.Nodup) (hi : X.N[i]? = some x) (hx : Loc X.env.scope x) (he : PE X e (tE c W m)) (hs : swapsWith e (some (.Name x pos')) pos.line X.env = pure false := by rfl) (hf : X.fn x = true ∨ X.env.scope.names.lookup x = some .local := by first | exact .inl rfl | exact .inr rfl) :
    PS X (.Assign [.Name x pos'] e pos) (tS c W (sSet i m)) := (ps_set hN hi hx he hs hf).imp fun D σ H q => set_ok q
theorem rs_setO (hN : X.N.Nodup) (hi : X.N[i]? = some x) (hx : Loc X.env.scope x) (he : PE X e (tF c W m)) (hs : swapsWith e (some (.Name x pos')) pos.line X.env = pure false := by rfl) (hf : X.fn x = true ∨ X.env.scope.names.lookup x = some .local := by first | exact .inl rfl | exact .inr rfl) :
    PS X (.Assign [.Name x pos'] e pos) (tS c W (sSetO i m)) := (ps_set hN hi hx he hs hf).imp fun D σ H q => setO_ok q
end
end PV

namespace PV
open PySem PySem.Spec PyProof.Rows L2
section
variable {c : Cn} {W : WX} {X : Cx} {F F' H : Hp} {Z : Ends} {σ : L2.St} {env : En}
/-! ### while -/
def whileN : Nat → (En → R Bool) → (En → Rs) → En → Rs
  | 0, _, _, _ => .no
  | n + 1, t, m, env => (t env).bs fun b e => if b = true then (match m e with
    | .nx e' => whileN n t m e'
    | .ct e' => whileN n t m e'
    | .bk e' => .nx e'
    | r => r) else .nx e
def fuel : Nat := 1000000000
def sWhile (t : En → R Bool) (m : En → Rs) : En → Rs := whileN fuel t m
/-- a loop's turn: what the body is to reach -/
theorem turn_ok {N : L2.St → Hp → Prop} {r : Rs} {k : En → Rs} (h : OkS c W F Z (match r with
    | .nx e' => k e'
    | .ct e' => k e'
    | .bk e' => .nx e'
    | r => r)) (hN : ∀ e σ H' F', SR c e σ H' F' → Same F F' → OkS c W F' Z (k e) → N σ H') : OkS c W F { Z with nx := N, ct := N, bk := Z.nx } r := by
  cases r with
  | nx e => exact fun σ H' F' S s => hN e σ H' F' S s (OkS.mono h s)
  | ct e => exact fun σ H' F' S s => hN e σ H' F' S s (OkS.mono h s)
  | bk e => exact h
  | rt d e => exact h
  | er x e => exact h
  | no => exact h
theorem while_ok {t : En → R Bool} {m : En → Rs} (q : tS c W (sWhile t m) Z σ H) : tWhile (tT c W t) (tS c W m) Z σ H := by
  obtain ⟨env, F, S, q⟩ := q
  refine ⟨fun n σ H => ∃ e F', SR c e σ H F' ∧ OkS c W F' Z (whileN n t m e), ⟨fuel, env, F, S, q⟩, ?_⟩
  rintro n σ H ⟨e, F', S, q⟩
  cases n with
  | zero => exact q.elim
  | succ n =>
    unfold whileN at q
    refine tM_bs S q fun b e1 b' H1 F1 S1 s1 r1 h1 => ?_
    cases r1
    cases b with
    | true =>
      refine iteT ⟨fun σ' H' => ∃ e F', SR c e σ' H' F' ∧ OkS c W F' Z (whileN n t m e), fun σ' H' h => ⟨n, Nat.lt_succ_self n, h⟩, e1, F1, S1, ?_⟩
      exact turn_ok (k := whileN n t m) h1 fun e σ H' F' S s q => ⟨e, F', S, q⟩
    | false => exact iteF (h1 σ H1 F1 S1 (Same.refl _))
theorem rs_while {cnd : Expr} {body : List Stmt} {pos : Pos} {t : En → R Bool} {m : En → Rs} (hp : PassesOwn (model X.prog X.w) X.A X.env X.xe) (hc : PT X cnd (tT c W t)) (hb : PSs X body (tS c W m)) : PS X (.While cnd body [] pos) (tS c W (sWhile t m)) :=
  (ps_while hp hc hb).imp fun Z σ H q => while_ok q
/-! ### targets -/
inductive Tg where
  | n (i : Nat) | t (ts : List Tg)
mutual
def bindT : Tg → D → En → Option En
  | .n i, d, e => if free e i = true then some (e.set i (.fz d)) else none
  | .t ts, d, e => match d with
    | .tup xs => bindTs ts xs e
    | _ => none
def bindTs : List Tg → List D → En → Option En
  | [], [], e => some e
  | t :: ts, d :: ds, e => (bindT t d e).bind fun e1 => bindTs ts ds e1
  | _, _, _ => none
end
mutual
def hasT : Tg → Nat → Bool
  | .n i, j => i == j
  | .t ts, j => hasTs ts j
def hasTs : List Tg → Nat → Bool
  | [], _ => false
  | t :: ts, j => hasT t j || hasTs ts j
end
def Off (T : Nat → Bool) (σ σ' : L2.St) : Prop := σ'.length = σ.length ∧ ∀ j, T j = false → σ'[j]? = σ[j]?
def tG (c : Cn) (T : Tg) : TG := fun v σ H Q => ∃ env F d, SR c env σ H F ∧ Rep c.toGc F d v ∧ (match bindT T d env with
  | some e => ∀ σ' H' F', SR c e σ' H' F' → Same F F' → Off (hasT T) σ σ' → Q σ' H'
  | none => False)
def tGs (c : Cn) (T : List Tg) : TGs := fun vs σ H Q => ∃ env F ds, SR c env σ H F ∧ Reps c.toGc F ds vs ∧ (match bindTs T ds env with
  | some e => ∀ σ' H' F', SR c e σ' H' F' → Same F F' → Off (hasTs T) σ σ' → Q σ' H'
  | none => False)
theorem _root_.L2.PG.imp {X : Cx} {e : Expr} {t t' : TG} (h : PG X e t) (k : ∀ v σ H Q, t' v σ H Q → t v σ H Q) : PG X e t' := ⟨fun pins s σ H v u Q I r q => h.run pins s σ H v u Q I r (k _ _ _ _ q)⟩
theorem _root_.L2.PGs.imp {X : Cx} {e : List Expr} {t t' : TGs} (h : PGs X e t) (k : ∀ v σ H Q, t' v σ H Q → t v σ H Q) : PGs X e t' := ⟨fun pins s σ H v u Q I r q => h.run pins s σ H v u Q I r (k _ _ _ _ q)⟩
theorem _root_.L2.PI.imp {X : Cx} {tg e : Expr} {t t' : TI} (h : PI X tg e t) (k : ∀ σ H Q, t' σ H Q → t σ H Q) : PI X tg e t' := ⟨fun pins s σ H R I q => h.run pins s σ H R I (k _ _ _ q)⟩
theorem rg_name {i : Nat} {x : Str} {pos : Pos} (hN : X.N.Nodup) (hi : X.N[i]? = some x) (hx : Loc X.env.scope x) (hf : X.fn x = true ∨ X.env.scope.names.lookup x = some .local := by first | exact .inl rfl | exact .inr rfl) : PG X (.Name x pos) (tG c (.n i)) :=
  (pg_name hN hi hx hf).imp fun v σ H Q ⟨env, F, d, S, r, h⟩ => by
    unfold bindT at h
    split at h
    · rename_i e z
      split at z
      · rename_i hf
        cases z
        refine h _ H F (S.set hf r) (Same.refl _) ⟨by simp, fun j hj => ?_⟩
        have ne : ¬ i = j := by
          unfold hasT at hj
          simpa using hj
        rw [List.getElem?_set_ne ne]
      · cases z
    · exact h.elim
theorem rgs_nil : PGs X [] (tGs c []) := pgs_nil.imp fun v σ H Q ⟨env, F, ds, S, r, h⟩ => by
  cases r with
  | nil =>
    unfold bindTs at h
    exact ⟨rfl, h σ H F S (Same.refl _) ⟨rfl, fun _ _ => rfl⟩⟩
  | cons a b =>
    unfold bindTs at h
    exact h.elim
theorem rgs_cons {e : Expr} {es : List Expr} {T : Tg} {Ts : List Tg} (h1 : PG X e (tG c T)) (h2 : PGs X es (tGs c Ts))
    (hs : (assignEach (e :: es) X.env).map (·.2) = assign e X.env :: (assignEach es X.env).map (·.2) := by rfl) : PGs X (e :: es) (tGs c (T :: Ts)) := (pgs_cons h1 h2 hs).imp fun v σ H Q ⟨env, F, ds, S, r, h⟩ => by
  match v, ds, r, h with
  | _, _, .nil, h =>
    unfold bindTs at h
    exact h.elim
  | _, _, @Reps.cons _ _ x xs v vs a b, h =>
    unfold bindTs at h
    refine ⟨v, vs, rfl, env, F, x, S, a, ?_⟩
    cases z : bindT T x env with
    | none =>
      rw [z] at h
      exact h.elim
    | some e1 =>
      rw [z] at h
      intro σ1 H1 F1 S1 s1 o1
      refine ⟨e1, F1, xs, S1, Reps.mono s1 b, ?_⟩
      have h' : (match bindTs Ts xs e1 with
        | some e => ∀ σ' H' F', SR c e σ' H' F' → Same F F' → Off (hasTs (T :: Ts)) σ σ' → Q σ' H'
        | none => False) := h
      cases z2 : bindTs Ts xs e1 with
      | none =>
        rw [z2] at h'
        exact h'
      | some e2 =>
        rw [z2] at h'
        refine fun σ2 H2 F2 S2 s2 o2 => h' σ2 H2 F2 S2 (s1.trans s2) ⟨o2.1.trans o1.1, fun j hj => ?_⟩
        unfold hasTs at hj
        rw [Bool.or_eq_false_iff] at hj
        rw [o2.2 j hj.2, o1.2 j hj.1]
theorem rg_tup {es : List Expr} {k : Nat} {Ts : List Tg} {pos : Pos} (hK : c.K = X.K) (hc : X.calm = true) (h : PGs X es (tGs c Ts)) (hst : (assignEach es X.env).findIdx? (·.1) = none := by rfl) (hl : (assignEach es X.env).length = Ts.length := by rfl) : PG X (.Tuple es k pos) (tG c (.t Ts)) :=
  (pg_tup (n := Ts.length) hc h hl hst).imp fun v σ H Q ⟨env, F, d, S, r, h⟩ => by
    match v, d, r, h with
    | _, _, @Rep.tup _ _ a xs vs q1 q2, h =>
      unfold bindT at h
      have hl : vs.length = Ts.length := by
        have h' : (match bindTs Ts xs env with
          | some e => ∀ σ' H' F', SR c e σ' H' F' → Same F F' → Off (hasT (.t Ts)) σ σ' → Q σ' H'
          | none => False) := h
        have len : ∀ (Ts : List Tg) (xs : List PV.D) (env e : En), bindTs Ts xs env = some e → xs.length = Ts.length := by
          intro Ts
          induction Ts with
          | nil =>
            intro xs env e z
            cases xs with
            | nil => rfl
            | cons y ys =>
              unfold bindTs at z
              cases z
          | cons T Ts ih =>
            intro xs env e z
            cases xs with
            | nil =>
              unfold bindTs at z
              cases z
            | cons y ys =>
              unfold bindTs at z
              cases z1 : bindT T y env with
              | none =>
                rw [z1] at z
                cases z
              | some e1 =>
                rw [z1] at z
                simp [ih ys e1 e z]
        cases z2 : bindTs Ts xs env with
        | none =>
          rw [z2] at h'
          exact h'.elim
        | some e2 => rw [← len Ts xs env e2 z2, q2.length]
      rw [← hK]
      refine ⟨a, vs, rfl, sqT_mono S.wf.sub q1, hl, env, F, xs, S, q2, ?_⟩
      have h' : (match bindTs Ts xs env with
        | some e => ∀ σ' H' F', SR c e σ' H' F' → Same F F' → Off (hasT (.t Ts)) σ σ' → Q σ' H'
        | none => False) := h
      cases z2 : bindTs Ts xs env with
      | none =>
        rw [z2] at h'
        exact h'
      | some e2 =>
        rw [z2] at h'
        exact fun σ' H' F' S' s' o' => h' σ' H' F' S' s' ⟨o'.1, fun j hj => o'.2 j (by unfold hasT at hj; exact hj)⟩
    | _, _, .non, h => unfold bindT at h; exact h.elim
    | _, _, .bl, h => unfold bindT at h; exact h.elim
    | _, _, .int, h => unfold bindT at h; exact h.elim
    | _, _, .str, h => unfold bindT at h; exact h.elim
    | _, _, .lst _ _, h => unfold bindT at h; exact h.elim
    | _, _, .dik _ _, h => unfold bindT at h; exact h.elim
    | _, _, .dit _ _, h => unfold bindT at h; exact h.elim
    | _, _, .ins _ _ _, h => unfold bindT at h; exact h.elim
    | _, _, .fn _, h => unfold bindT at h; exact h.elim
    | _, _, .ro _ _, h => unfold bindT at h; exact h.elim
/-! ### what is walked -/
/-- the iterator yields these, as long as the frozen part stays -/
structure ItS (g : Gc) (F : Hp) (J : It) (ds : List PV.D) : Prop where
  go : ∀ i d F' H', ds[i]? = some d → Same F F' → WF g F' H' → J.go i H' ∧ ∀ x H'', J.yld i H' x H'' → ∃ F'', Go g F' H' F'' H'' ∧ Rep g F'' d x
  stop : ∀ F' H', Same F F' → WF g F' H' → J.stop ds.length H'
abbrev rlI (c : Cn) : Rl (List PV.D) It := fun _ _ F _ ds J => ItS c.toGc F J ds
abbrev tI (c : Cn) (W : WX) (m : En → R (List PV.D)) : TI := tM c W (rlI c) m
theorem itS_list {g : Gc} {a : Addr} {vs : List V} {ds : List PV.D} (h : SqL g.K F a vs) (r : Reps g F ds vs) (fn : ∀ F' H', Same F F' → WF g F' H' → ∀ ys, SqL g.K H' a ys → ys = vs) : ItS g F (Itl g.K a) ds := by
  refine ⟨fun i d F' H' e s w => ?_, fun F' H' s w => ⟨vs, w.sub.seq (s.seq h), by rw [r.length]; exact Nat.le_refl _⟩⟩
  obtain ⟨v, hv, rv⟩ := r.get e
  refine ⟨⟨vs, v, w.sub.seq (s.seq h), hv⟩, fun x H'' y => ?_⟩
  obtain ⟨e1, e2⟩ := y
  subst e1
  have := e2 vs (w.sub.seq (s.seq h))
  rw [hv] at this
  cases this
  exact ⟨F', Go.refl w, rv.mono s⟩
/-- for: the turns -/
def forL (T : Tg) (m : En → Rs) : List PV.D → En → Rs
  | [], e => .nx e
  | d :: r, e => match bindT T d e with
    | none => .no
    | some e1 => (match m e1 with
      | .nx e2 => forL T m r e2
      | .ct e2 => forL T m r e2
      | .bk e2 => .nx e2
      | r' => r')
def sFor (mi : En → R (List PV.D)) (T : Tg) (m : En → Rs) : En → Rs := fun env => (mi env).bs fun ds e => forL T m ds e
theorem for_ok {mi : En → R (List PV.D)} {T : Tg} {m : En → Rs} (q : tS c W (sFor mi T m) Z σ H) : tFor (tI c W mi) (tG c T) (tS c W m) Z σ H := by
  obtain ⟨env, F, S, q⟩ := q
  refine tM_bs S q fun ds e J H1 F1 S1 s1 r1 h1 => ?_
  refine ⟨fun i n σ H => n + i = ds.length ∧ ∃ e F', SR c e σ H F' ∧ Same F1 F' ∧ OkS c W F' Z (forL T m (ds.drop i) e), ⟨ds.length, by simp, e, F1, S1, Same.refl _, h1⟩, ?_⟩
  rintro i n σ2 H2 ⟨hn, e2, F2, S2, s2, q2⟩
  by_cases hi : i < ds.length
  · have hd : ds.drop i = ds[i] :: ds.drop (i + 1) := List.drop_eq_getElem_cons hi
    rw [hd] at q2
    unfold forL at q2
    obtain ⟨g1, g2⟩ := r1.go i ds[i] F2 H2 (List.getElem?_eq_getElem hi) s2 S2.wf
    refine .inr ⟨g1, fun σ' H' => ∃ e F', SR c e σ' H' F' ∧ Same F1 F' ∧ OkS c W F' Z (forL T m (ds.drop (i + 1)) e), fun σ' H' h => ⟨n - 1, by omega, by omega, h⟩, fun x H3 y => ?_⟩
    obtain ⟨F3, go3, r3⟩ := g2 x H3 y
    refine ⟨e2, F3, ds[i], S2.go go3, r3, ?_⟩
    cases z : bindT T ds[i] e2 with
    | none =>
      rw [z] at q2
      exact q2.elim
    | some e3 =>
      rw [z] at q2
      intro σ4 H4 F4 S4 s4 _
      refine ⟨e3, F4, S4, ?_⟩
      have s24 : Same F2 F4 := go3.gr.f.trans s4
      exact turn_ok (k := forL T m (ds.drop (i + 1))) (OkS.mono (show OkS c W F2 Z (match m e3 with
        | .nx e2 => forL T m (ds.drop (i + 1)) e2
        | .ct e2 => forL T m (ds.drop (i + 1)) e2
        | .bk e2 => .nx e2
        | r' => r') from q2) s24) fun e σ H' F' S s q => ⟨e, F', S, (s2.trans s24).trans s, q⟩
  · have e : i = ds.length := by omega
    subst e
    rw [List.drop_length] at q2
    unfold forL at q2
    exact .inl ⟨r1.stop F2 H2 s2 S2.wf, q2 σ2 H2 F2 S2 (Same.refl _)⟩
theorem rs_for {tg iter : Expr} {body : List Stmt} {pos : Pos} {mi : En → R (List PV.D)} {T : Tg} {m : En → Rs} (hp : PassesOwn (model X.prog X.w) X.A X.env X.xe) (hc : X.calm = true) (hi : PI X tg iter (tI c W mi)) (hg : PG X tg (tG c T)) (hb : PSs X body (tS c W m))
    (hs : ∀ x, foldedSetIterable iter X.env x = pure x := by intro _; rfl) : PS X (.For tg iter body [] pos) (tS c W (sFor mi T m)) := (ps_for hp hc hi hg hb hs).imp fun Z σ H q => for_ok q
/-! ### comprehensions -/
def wipeE (e : En) : List Nat → En
  | [] => e
  | i :: r => (wipeE e r).set i .no
/-- slots of a block's own names as they were, if frozen -/
def backE (e0 e : En) : List Nat → En
  | [] => e
  | i :: r => (backE e0 e r).set i (match e0[i]? with
    | some (.fz d) => .fz d
    | _ => .no)
theorem wipeE_get {e : En} {i : Nat} {s : Sl} : ∀ {vs : List Nat}, (wipeE e vs)[i]? = some s → s = .no ∨ (e[i]? = some s ∧ i ∉ vs)
  | [], h => .inr ⟨h, by simp⟩
  | v :: vs, h => by
    unfold wipeE at h
    by_cases hi : v = i
    · subst hi
      by_cases hv : v < (wipeE e vs).length
      · rw [List.getElem?_set_self hv] at h
        exact .inl (Option.some.inj h).symm
      · rw [List.getElem?_eq_none (by simpa using hv)] at h
        cases h
    · rw [List.getElem?_set_ne hi] at h
      rcases wipeE_get h with h | ⟨h1, h2⟩
      · exact .inl h
      · exact .inr ⟨h1, by simp only [List.mem_cons, not_or]; exact ⟨fun e => hi e.symm, h2⟩⟩
theorem wipeE_len (e : En) : ∀ vs : List Nat, (wipeE e vs).length = e.length
  | [] => rfl
  | v :: vs => by unfold wipeE; rw [List.length_set, wipeE_len e vs]
theorem wipe_keep {σ : L2.St} {i : Nat} : ∀ {vs : List Nat}, i ∉ vs → (wipe σ vs)[i]? = σ[i]?
  | [], _ => rfl
  | v :: vs, h => by
    simp only [List.mem_cons, not_or] at h
    unfold wipe
    rw [List.getElem?_set_ne (Ne.symm h.1), wipe_keep h.2]
theorem SR.wipe (S : SR c env σ H F) (vs : List Nat) : SR c (wipeE env vs) (L2.wipe σ vs) H F := by
  have own : ∀ j a, Own (wipeE env vs) (L2.wipe σ vs) j a → Own env σ j a := fun j a ⟨h1, d', h2⟩ => by
    have h3 : env[j]? = some (.ow d') ∧ j ∉ vs ∨ env[j]? = some (.rf d') ∧ j ∉ vs := by
      rcases h2 with h2 | h2
      · rcases wipeE_get h2 with z | z
        · cases z
        · exact .inl z
      · rcases wipeE_get h2 with z | z
        · cases z
        · exact .inr z
    rcases h3 with ⟨h3, h4⟩ | ⟨h3, h4⟩
    · rw [wipe_keep h4] at h1
      exact ⟨h1, d', .inl h3⟩
    · rw [wipe_keep h4] at h1
      exact ⟨h1, d', .inr h3⟩
  refine ⟨S.gr, S.there, S.rt, by rw [wipeE_len, wipe_length]; exact S.len, fun i d e => ?_, fun i d e => ?_, fun i d e => ?_, fun i j a h1 h2 => S.apart i j a (own i a h1) (own j a h2)⟩
  · rcases wipeE_get e with z | ⟨z1, z2⟩
    · cases z
    · rw [wipe_keep z2]
      exact S.fz i d z1
  · rcases wipeE_get e with z | ⟨z1, z2⟩
    · cases z
    · rw [wipe_keep z2]
      exact S.ow i d z1
  · rcases wipeE_get e with z | ⟨z1, z2⟩
    · cases z
    · rw [wipe_keep z2]
      exact S.rf i d z1
theorem backE_len (e0 e : En) : ∀ vs : List Nat, (backE e0 e vs).length = e.length
  | [] => rfl
  | v :: vs => by unfold backE; rw [List.length_set, backE_len e0 e vs]
theorem backE_get {e0 e : En} {i : Nat} {s : Sl} : ∀ {vs : List Nat}, (backE e0 e vs)[i]? = some s → (i ∈ vs ∧ (s = .no ∨ ∃ d, s = .fz d ∧ e0[i]? = some (.fz d))) ∨ (e[i]? = some s ∧ i ∉ vs)
  | [], h => .inr ⟨h, by simp⟩
  | v :: vs, h => by
    unfold backE at h
    by_cases hi : v = i
    · subst hi
      by_cases hv : v < (backE e0 e vs).length
      · rw [List.getElem?_set_self hv] at h
        have h' := Option.some.inj h
        refine .inl ⟨by simp, ?_⟩
        split at h'
        · rename_i d z
          exact .inr ⟨d, h'.symm, z⟩
        · exact .inl h'.symm
      · rw [List.getElem?_eq_none (by simpa using hv)] at h
        cases h
    · rw [List.getElem?_set_ne hi] at h
      rcases backE_get h with ⟨h1, h2⟩ | ⟨h1, h2⟩
      · exact .inl ⟨List.mem_cons_of_mem _ h1, h2⟩
      · exact .inr ⟨h1, by simp only [List.mem_cons, not_or]; exact ⟨fun e => hi e.symm, h2⟩⟩
/-- behind a block -/
theorem SR.back {e0 e : En} {F0 H0 : Hp} {vs : List Nat} (S0 : SR c e0 σ H0 F0) (S : SR c e (L2.wipe σ vs) H F) (s : Same F0 F) : SR c (backE e0 e vs) σ H F := by
  have own : ∀ j a, Own (backE e0 e vs) σ j a → Own e (L2.wipe σ vs) j a := fun j a ⟨h1, d', h2⟩ => by
    have h3 : (e[j]? = some (.ow d') ∨ e[j]? = some (.rf d')) ∧ j ∉ vs := by
      rcases h2 with h2 | h2
      · rcases backE_get h2 with ⟨_, z | ⟨d, z, _⟩⟩ | ⟨z1, z2⟩
        · cases z
        · cases z
        · exact ⟨.inl z1, z2⟩
      · rcases backE_get h2 with ⟨_, z | ⟨d, z, _⟩⟩ | ⟨z1, z2⟩
        · cases z
        · cases z
        · exact ⟨.inr z1, z2⟩
    exact ⟨by rw [wipe_keep h3.2]; exact h1, d', h3.1⟩
  refine ⟨S.gr, S.there, S.rt, by rw [backE_len, S.len, wipe_length], fun i d z => ?_, fun i d z => ?_, fun i d z => ?_, fun i j a h1 h2 => S.apart i j a (own i a h1) (own j a h2)⟩
  · rcases backE_get z with ⟨_, z | ⟨d', z, z'⟩⟩ | ⟨z1, z2⟩
    · cases z
    · cases z
      obtain ⟨v, h1, h2⟩ := S0.fz i d z'
      exact ⟨v, h1, h2.mono s⟩
    · have := S.fz i d z1
      rw [wipe_keep z2] at this
      exact this
  · rcases backE_get z with ⟨_, z | ⟨d', z, z'⟩⟩ | ⟨z1, z2⟩
    · cases z
    · cases z
    · have := S.ow i d z1
      rw [wipe_keep z2] at this
      exact this
  · rcases backE_get z with ⟨_, z | ⟨d', z, z'⟩⟩ | ⟨z1, z2⟩
    · cases z
    · cases z
    · have := S.rf i d z1
      rw [wipe_keep z2] at this
      exact this
end
end PV

namespace PV
open PySem PySem.Spec PyProof.Rows L2
/-- nothing is let out -/
abbrev W0 : WX := fun _ _ _ _ => False
/-- one more object is kept -/
abbrev Cn.kp (c : Cn) (H0 : Hp) : Cn := { c with H0 := H0 }
section
variable {c : Cn} {W : WX} {X : Cx} {F F' H : Hp} {Z : Ends} {σ : L2.St} {env : En}
theorem SR.keep (S : SR c env σ H F) {a : Addr} {o : HO} (h : H a = some o) (hF : F a = none) (h0 : c.H0 a = none) (no : ∀ i, ¬ Own env σ i a) : SR (c.kp (upd c.H0 a o)) env σ H F := by
  have f0 : c.F0 a = none := S.gr.f.free hF
  refine ⟨⟨S.wf, S.gr.f, fun b u e n r => ?_, fun b hb => ?_⟩, fun b hb => ?_, fun b e => upd_there b (S.rt b e), S.len, S.fz, fun i d e => ?_, S.rf, S.apart⟩
  · by_cases hb : b = a
    · subst hb
      have e' : upd c.H0 b o b = some u := e
      rw [upd_same] at e'
      rw [h, e']
    · have e' : upd c.H0 a o b = some u := e
      rw [upd_ne hb] at e'
      exact S.gr.h b u e' n r
  · by_cases hz : b = a
    · subst hz
      exact hF.trans f0.symm
    · have hb' : upd c.H0 a o b ≠ none := hb
      rw [upd_ne hz] at hb'
      exact S.gr.new b hb'
  · by_cases hz : b = a
    · subst hz
      rw [h]
      simp
    · have hb' : upd c.H0 a o b ≠ none := hb
      rw [upd_ne hz] at hb'
      exact S.there b hb'
  · obtain ⟨b, u, h1, h2, h3, h4, h5⟩ := S.ow i d e
    have hb : b ≠ a := fun z => by subst z; exact no i ⟨h1, d, .inl e⟩
    refine ⟨b, u, h1, h2, h3, ?_, h5⟩
    show upd c.H0 a o b = none
    rw [upd_ne hb]
    exact h4
theorem SR.unkeep {a : Addr} {o : HO} (S : SR (c.kp (upd c.H0 a o)) env σ H F) (h0 : c.H0 a = none) (hr : c.ra ≠ some a) : SR c env σ H F := by
  have ne : ∀ b, c.H0 b ≠ none → upd c.H0 a o b = c.H0 b := fun b hb => upd_ne fun z => by subst z; exact hb h0
  have nn : ∀ b, upd c.H0 a o b = none → c.H0 b = none := fun b hb => by
    cases q : c.H0 b with
    | none => rfl
    | some u =>
      rw [ne b (by rw [q]; simp), q] at hb
      cases hb
  refine ⟨⟨S.wf, S.gr.f, fun b u e n r => S.gr.h b u ((ne b (by rw [e]; simp)).trans e) n r, fun b hb => S.gr.new b (show upd c.H0 a o b ≠ none by rw [ne b hb]; exact hb)⟩, fun b hb => S.there b (show upd c.H0 a o b ≠ none by rw [ne b hb]; exact hb), fun b e => by
    have h1 : upd c.H0 a o b ≠ none := S.rt b e
    rw [upd_ne fun z => hr (by rw [← z]; exact e)] at h1
    exact h1, S.len, S.fz, fun i d e => ?_, S.rf, S.apart⟩
  obtain ⟨b, u, h1, h2, h3, h4, h5⟩ := S.ow i d e
  exact ⟨b, u, h1, h2, h3, nn b h4, h5⟩
theorem SR.kept {a : Addr} {o : HO} (S : SR (c.kp (upd c.H0 a o)) env σ H F) (nt : ∀ ps, o ≠ .tbl ps) (hr : c.ra ≠ some a) (f0 : c.F0 a = none) : H a = some o ∧ F a = none ∧ ∀ i, ¬ Own env σ i a := by
  have hF : F a = none := (S.gr.new a (by show upd c.H0 a o a ≠ none; rw [upd_same]; simp)).trans f0
  refine ⟨S.gr.h a o upd_same nt (fun z => hr z.symm), hF, fun i ⟨h1, d, h2⟩ => ?_⟩
  rcases h2 with h2 | h2
  · obtain ⟨b, u, e1, e2, e3, e4, _⟩ := S.ow i d h2
    rw [h1] at e1
    cases e1
    have e4' : upd c.H0 a o a = none := e4
    rw [upd_same] at e4'
    cases e4'
  · obtain ⟨b, u, e0, e1, _⟩ := S.rf i d h2
    rw [h1] at e1
    cases e1
    exact hr e0
/-! ### [elt for target in iter if ..] -/
def lcL (T : Tg) (t : En → R Bool) (m : En → R PV.D) (vs : List Nat) : List PV.D → En → R (List PV.D)
  | [], e => .ok [] e
  | d :: r, e => match bindT T d e with
    | none => .no
    | some e1 => (match t e1 with
      | .ok true e2 => (match m e2 with
        | .ok y e3 => (lcL T t m vs r (wipeE e3 vs)).bind fun ys e' => .ok (y :: ys) e'
        | _ => .no)
      | .ok false e2 => lcL T t m vs r (wipeE e2 vs)
      | _ => .no)
def mLc (mi : En → R (List PV.D)) (T : Tg) (t : En → R Bool) (m : En → R PV.D) (vs : List Nat) : En → R PV.D := fun env => (mi env).bind fun ds e => if ds.length ≤ lim then (lcL T t m vs ds (wipeE e vs)).bind fun ys e' => .ok (.lst ys) (backE e e' vs) else .no
theorem wipe_wipe (σ : L2.St) : ∀ vs : List Nat, wipe (wipe σ vs) vs = wipe σ vs := by
  intro vs
  apply List.ext_getElem?
  intro i
  by_cases hi : i ∈ vs
  · have none_of : ∀ (σ : L2.St) (vs : List Nat), i ∈ vs → (wipe σ vs)[i]? = if i < σ.length then some none else none := by
      intro σ vs
      induction vs with
      | nil => intro h; cases h
      | cons w vs ih =>
        intro h
        unfold wipe
        by_cases e : w = i
        · subst e
          by_cases hl : w < σ.length
          · rw [if_pos hl, List.getElem?_set_self (by rw [wipe_length]; exact hl)]
          · rw [if_neg hl]
            exact List.getElem?_eq_none (by rw [List.length_set, wipe_length]; omega)
        · rw [List.getElem?_set_ne e]
          exact ih ((List.mem_cons.mp h).resolve_left fun z => e z.symm)
    rw [none_of _ vs hi, none_of _ vs hi, wipe_length]
  · rw [wipe_keep hi]
mutual
def okT (vs : List Nat) : Tg → Bool
  | .n i => vs.contains i
  | .t ts => okTs vs ts
def okTs (vs : List Nat) : List Tg → Bool
  | [] => true
  | t :: ts => okT vs t && okTs vs ts
end
mutual
theorem okT_has {vs : List Nat} {j : Nat} (hj : j ∉ vs) : ∀ {T : Tg}, okT vs T = true → hasT T j = false
  | .n i, h => by
    unfold okT at h
    unfold hasT
    have : i ∈ vs := by simpa using h
    have ne : i ≠ j := fun z => hj (z ▸ this)
    simpa using ne
  | .t ts, h => by
    unfold okT at h
    unfold hasT
    exact okTs_has hj h
theorem okTs_has {vs : List Nat} {j : Nat} (hj : j ∉ vs) : ∀ {Ts : List Tg}, okTs vs Ts = true → hasTs Ts j = false
  | [], h => by
    unfold hasTs
    rfl
  | t :: ts, h => by
    unfold okTs at h
    unfold hasTs
    rw [Bool.and_eq_true] at h
    rw [okT_has hj h.1, okTs_has hj h.2]
    rfl
end
theorem wipe_at {σ : L2.St} {i : Nat} : ∀ {vs : List Nat}, i ∈ vs → (wipe σ vs)[i]? = if i < σ.length then some none else none
  | w :: vs, h => by
    unfold wipe
    by_cases e : w = i
    · subst e
      by_cases hl : w < σ.length
      · rw [if_pos hl, List.getElem?_set_self (by rw [wipe_length]; exact hl)]
      · rw [if_neg hl]
        exact List.getElem?_eq_none (by rw [List.length_set, wipe_length]; omega)
    · rw [List.getElem?_set_ne e]
      exact wipe_at ((List.mem_cons.mp h).resolve_left fun z => e z.symm)
theorem wipe_off {T : Tg} {vs : List Nat} {σ σ' : L2.St} (h : okT vs T = true) (o : Off (hasT T) σ σ') : wipe σ' vs = wipe σ vs := by
  apply List.ext_getElem?
  intro i
  by_cases hi : i ∈ vs
  · rw [wipe_at hi, wipe_at hi, o.1]
  · rw [wipe_keep hi, wipe_keep hi, o.2 i (okT_has hi h)]
/-! ### a container written -/
/-- an object that no slot owns is written -/
theorem SR.put (S : SR c env σ H F) {a : Addr} {u o : HO} (h : H a = some u) (hF : F a = none) (h0 : c.H0 a = none) (no : ∀ i, ¬ Own env σ i a) (n1 : ∀ ps, u ≠ .tbl ps) (n2 : ∀ φ, u ≠ .ext φ) (n3 : tupy o = false) : SR c env σ (upd H a o) F := by
  have un : ∀ b, b ≠ a → upd H a o b = H b := fun b hb => upd_ne hb
  refine ⟨⟨⟨fun b w e => ?_, fun b w e t => ?_, S.wf.nt, Tabs_put S.wf.tab h n1 n2⟩, S.gr.f, fun b w e n r => ?_, S.gr.new⟩, fun b hb => upd_there b (S.there b hb), S.rt, S.len, S.fz, fun i d e => ?_, fun i d e => ?_, S.apart⟩
  · rw [un b fun z => by rw [z, hF] at e; cases e]
    exact S.wf.sub _ _ e
  · by_cases hb : b = a
    · subst hb
      rw [upd_same] at e
      rw [← Option.some.inj e, n3] at t
      cases t
    · rw [un b hb] at e
      exact S.wf.tup _ _ e t
  · rw [un b fun z => by rw [z, h0] at e; cases e]
    exact S.gr.h b w e n r
  · obtain ⟨b, w, h1, h2, h3⟩ := S.ow i d e
    have hb : b ≠ a := fun z => by subst z; exact no i ⟨h1, d, .inl e⟩
    exact ⟨b, w, h1, by rw [un b hb]; exact h2, h3⟩
  · obtain ⟨b, w, h0', h1, h2, h3⟩ := S.rf i d e
    have hb : b ≠ a := fun z => by subst z; exact no i ⟨h1, d, .inr e⟩
    exact ⟨b, w, h0', h1, by rw [un b hb]; exact h2, h3⟩
theorem own_back {e0 e : En} {vs : List Nat} {j : Nat} {a : Addr} (h : Own (backE e0 e vs) σ j a) : Own e (wipe σ vs) j a := by
  obtain ⟨h1, d', h2⟩ := h
  have h3 : (e[j]? = some (.ow d') ∨ e[j]? = some (.rf d')) ∧ j ∉ vs := by
    rcases h2 with h2 | h2
    · rcases backE_get h2 with ⟨_, z | ⟨d, z, _⟩⟩ | ⟨z1, z2⟩
      · cases z
      · cases z
      · exact ⟨.inl z1, z2⟩
    · rcases backE_get h2 with ⟨_, z | ⟨d, z, _⟩⟩ | ⟨z1, z2⟩
      · cases z
      · cases z
      · exact ⟨.inr z1, z2⟩
  exact ⟨by rw [wipe_keep h3.2]; exact h1, d', h3.1⟩
theorem own_wipe {vs : List Nat} {j : Nat} {a : Addr} (h : Own (wipeE env vs) (wipe σ vs) j a) : Own env σ j a := by
  obtain ⟨h1, d', h2⟩ := h
  have h3 : (env[j]? = some (.ow d') ∨ env[j]? = some (.rf d')) ∧ j ∉ vs := by
    rcases h2 with h2 | h2
    · rcases wipeE_get h2 with z | ⟨z1, z2⟩
      · cases z
      · exact ⟨.inl z1, z2⟩
    · rcases wipeE_get h2 with z | ⟨z1, z2⟩
      · cases z
      · exact ⟨.inr z1, z2⟩
  exact ⟨by rw [← wipe_keep h3.2]; exact h1, d', h3.1⟩
/-! ### the comprehension's reading -/
def tGx (c : Cn) (T : Tg) : TG := fun v σ H Q => ∃ H0, tG (c.kp H0) T v σ H Q
def tTx (c : Cn) (t : En → R Bool) : TT := fun σ H Q => ∃ H0, tT (c.kp H0) W0 t σ H Q
def tEx (c : Cn) (m : En → R PV.D) : TE := fun σ H Q => ∃ H0, tE (c.kp H0) W0 m σ H Q
theorem lc_ok {mi : En → R (List PV.D)} {T : Tg} {t : En → R Bool} {m : En → R PV.D} {vs : List Nat} {Q : VK} (hT : okT vs T = true) (q : tF c W (mLc mi T t m vs) σ H Q) : tLc (tI c W mi) (tGx c T) (tTx c t) (tEx c m) vs σ H Q := by
  obtain ⟨env, F, S, q⟩ := q
  refine tM_bind S q fun ds e0 J H1 F1 S1 s1 r1 h1 => ?_
  split at h1
  · rename_i hlen
    intro Dd nD
    have h0D : c.H0 Dd = none := S1.h0 nD
    have hrD : c.ra ≠ some Dd := fun z => S1.rtH Dd z nD
    have f0D : c.F0 Dd = none := S1.gr.f.free (S1.wf.sub.free nD)
    refine ⟨fun i n H' => n + i = ds.length ∧ ∃ e F' acc vacc, SR c e (wipe σ vs) H' F' ∧ Same F1 F' ∧ H' Dd = some (.lst vacc) ∧ F' Dd = none ∧ (∀ j, ¬ Own e (wipe σ vs) j Dd) ∧ Reps c.toGc F' acc vacc ∧ acc.length ≤ i ∧
      Okp c W σ F' (rlF c) Q ((lcL T t m vs (ds.drop i) e).bind fun ys e' => .ok (.lst (acc ++ ys)) (backE e0 e' vs)), ⟨ds.length, by simp, ?_⟩, ?_⟩
    · have SW := S1.wipe vs
      exact ⟨wipeE e0 vs, F1, [], [], SW.fresh nD rfl, Same.refl _, upd_same, S1.wf.sub.free nD, fun j h => (SW.own_there h).1 nD, .nil, Nat.zero_le _, h1⟩
    · rintro i n H2 ⟨hn, e, F2, acc, vacc, S2, s2, hD, hFD, no, ra, hacc, q2⟩
      by_cases hi : i < ds.length
      · have hd : ds.drop i = ds[i] :: ds.drop (i + 1) := List.drop_eq_getElem_cons hi
        rw [hd] at q2
        unfold lcL at q2
        obtain ⟨g1, g2⟩ := r1.go i ds[i] F2 H2 (List.getElem?_eq_getElem hi) s2 S2.wf
        refine .inr ⟨g1, fun H' => n - 1 + (i + 1) = ds.length ∧ ∃ e F' acc vacc, SR c e (wipe σ vs) H' F' ∧ Same F1 F' ∧ H' Dd = some (.lst vacc) ∧ F' Dd = none ∧ (∀ j, ¬ Own e (wipe σ vs) j Dd) ∧ Reps c.toGc F' acc vacc ∧ acc.length ≤ i + 1 ∧
          Okp c W σ F' (rlF c) Q ((lcL T t m vs (ds.drop (i + 1)) e).bind fun ys e' => .ok (.lst (acc ++ ys)) (backE e0 e' vs)), fun H' h => ⟨n - 1, by omega, h⟩, fun x H3 y => ?_⟩
        obtain ⟨F3, go3, r3⟩ := g2 x H3 y
        have S3 := S2.go go3
        have hD3 : H3 Dd = some (.lst vacc) := go3.gr.h Dd _ hD (fun ps z => by cases z) (by simp)
        have hF3 : F3 Dd = none := (go3.gr.new Dd (by rw [hD]; simp)).trans hFD
        have K3 := S3.keep hD3 hF3 h0D no
        refine ⟨upd c.H0 Dd (.lst vacc), e, F3, ds[i], K3, r3, ?_⟩
        cases z : bindT T ds[i] e with
        | none =>
          rw [z] at q2
          exact q2.elim
        | some e1 =>
          rw [z] at q2
          intro σ4 H4 F4 S4 s4 o4
          have ew : wipe σ4 vs = wipe σ vs := (wipe_off hT o4).trans (wipe_wipe σ vs)
          refine ⟨ew, upd c.H0 Dd (.lst vacc), e1, F4, S4, ?_⟩
          have s24 : Same F2 F4 := go3.gr.f.trans s4
          -- behind a turn
          have fin : ∀ {e5 : En} {H5 F5 : Hp}, SR (c.kp (upd c.H0 Dd (.lst vacc))) e5 σ4 H5 F5 → SR c (wipeE e5 vs) (wipe σ vs) H5 F5 ∧ H5 Dd = some (.lst vacc) ∧ F5 Dd = none ∧ ∀ j, ¬ Own (wipeE e5 vs) (wipe σ vs) j Dd := fun {e5 H5 F5} S5 => by
            obtain ⟨k1, k2, k3⟩ := S5.kept (fun ps z => by cases z) hrD f0D
            have S6 := (S5.unkeep h0D hrD).wipe vs
            rw [ew] at S6
            exact ⟨S6, k1, k2, fun j h => k3 j (own_wipe (by rw [ew]; exact h))⟩
          have q3 : Okp c W σ F2 (rlF c) Q ((match t e1 with
            | .ok true e2 => (match m e2 with
              | .ok y e3 => (lcL T t m vs (ds.drop (i + 1)) (wipeE e3 vs)).bind fun ys e' => R.ok (y :: ys) e'
              | _ => .no)
            | .ok false e2 => lcL T t m vs (ds.drop (i + 1)) (wipeE e2 vs)
            | _ => .no).bind fun ys e' => .ok (.lst (acc ++ ys)) (backE e0 e' vs)) := q2
          cases zt : t e1 with
          | ok b e2 =>
            rw [zt] at q3
            intro b' H5 F5 S5 s5 eb
            have eb' : b = b' := eb
            subst eb'
            have s25 : Same F2 F5 := s24.trans s5
            cases b with
            | true =>
              refine iteT ⟨upd c.H0 Dd (.lst vacc), e2, F5, S5, ?_⟩
              cases zm : m e2 with
              | ok y e3 =>
                simp only [zm] at q3
                rw [R.bind_assoc] at q3
                intro v H6 F6 S6 s6 rv
                obtain ⟨f1, f2, f3, f4⟩ := fin S6
                have s26 : Same F2 F6 := s25.trans s6
                have hl : vacc.length < lim := by rw [← ra.length]; omega
                refine ⟨vacc, f2, lim_lt hl, by omega, wipeE e3 vs, F6, acc ++ [y], vacc ++ [v], f1.put f2 f3 h0D f4 (fun ps z => by cases z) (fun φ z => by cases z) rfl, s2.trans s26, upd_same, f3, f4, (ra.mono s26).append (.cons rv .nil), by simp; omega, ?_⟩
                have q4 := Okp.mono q3 s26
                have ea : (fun (ys : List PV.D) (e' : En) => (R.ok (y :: ys) e' : R (List PV.D)).bind fun ys e' => R.ok (PV.D.lst (acc ++ ys)) (backE e0 e' vs)) = fun ys e' => R.ok (PV.D.lst ((acc ++ [y]) ++ ys)) (backE e0 e' vs) := by
                  funext ys e'
                  show R.ok (PV.D.lst (acc ++ (y :: ys))) _ = _
                  rw [List.append_assoc]
                  rfl
                rw [ea] at q4
                exact q4
              | er x e3 =>
                simp only [zm] at q3
                exact q3.elim
              | no =>
                simp only [zm] at q3
                exact q3.elim
            | false =>
              obtain ⟨f1, f2, f3, f4⟩ := fin S5
              refine iteF ⟨by omega, wipeE e2 vs, F5, acc, vacc, f1, s2.trans s25, f2, f3, f4, ra.mono s25, by omega, Okp.mono q3 s25⟩
          | er x e2 =>
            rw [zt] at q3
            exact q3.elim
          | no =>
            rw [zt] at q3
            exact q3.elim
      · have ei : i = ds.length := by omega
        subst ei
        rw [List.drop_length] at q2
        unfold lcL at q2
        have q2' : Okp c W σ F2 (rlF c) Q (.ok (.lst (acc ++ [])) (backE e0 e vs)) := q2
        rw [List.append_nil] at q2'
        exact .inl ⟨r1.stop F2 H2 s2 S2.wf, q2' (.ref Dd) H2 F2 (S1.back S2 s2) (Same.refl _) ⟨Dd, .lst vacc, rfl, hD, hFD, h0D, hrD, fun j h => no j (own_back h), .lst ra⟩⟩
  · exact h1.elim
theorem PGx {X : Cx} {e : Expr} {T : Tg} (h : ∀ H0, PG X e (tG (c.kp H0) T)) : PG X e (tGx c T) := ⟨fun pins s σ H v u Q I r ⟨H0, q⟩ => (h H0).run pins s σ H v u Q I r q⟩
theorem PEx {X : Cx} {e : Expr} {m : En → R PV.D} (h : ∀ H0, PE X e (tE (c.kp H0) W0 m)) : PE X e (tEx c m) := ⟨fun pins s σ H Q I ⟨H0, q⟩ => (h H0).run pins s σ H Q I q⟩
/-- the tests of a comprehension -/
def tYs : En → R Bool := fun e => .ok true e
theorem PTx0 {X : Cx} : PTs X [] (tTx c tYs) := ⟨fun pins s σ H Q I ⟨H0, env, F, S, q⟩ => pts_nil.run pins s σ H Q I (q true H F S (Same.refl _) rfl)⟩
theorem PTx1 {X : Cx} {e : Expr} {t : En → R Bool} (h : ∀ H0, PT X e (tT (c.kp H0) W0 t)) : PTs X [e] (tTx c t) := ⟨fun pins s σ H Q I ⟨H0, q⟩ => (pts_one (h H0)).run pins s σ H Q I q⟩
abbrev BX (X : Cx) (scope : Scope) : Type := (s : Shared) → (H : Hp) → (C : Addr) → (cl : List (Str × Addr)) → (fp : List Addr) → Cx
theorem re_lc {elt tg iter : Expr} {ifs : List Expr} {scope : Scope} {pos : Pos} {mi : En → R (List PV.D)} {T : Tg} {t : En → R Bool} {m : En → R PV.D} {own : List (Str × Nat)} (hc : X.calm = true) (hN : X.N.Nodup) (ok : BlkOk X.N X.env.scope scope own) (hT : okT (own.map (·.2)) T = true) (hi : PI X tg iter (tI c W mi))
    (hg : ∀ (s : Shared) (H : Hp) (C : Addr) (cl : List (Str × Addr)) (fp : List Addr), PG (X.blk s H scope (compEnvC scope cl C X.env) fp) tg (tGx c T)) (ht : ∀ (s : Shared) (H : Hp) (C : Addr) (cl : List (Str × Addr)) (fp : List Addr), PTs (X.blk s H scope (compEnvC scope cl C X.env) fp) ifs (tTx c t))
    (he : ∀ (s : Shared) (H : Hp) (C : Addr) (cl : List (Str × Addr)) (fp : List Addr), PE (X.blk s H scope (compEnvC scope cl C X.env) fp) elt (tEx c m)) (hs : ∀ x, foldedSetIterable iter X.env x = pure x := by intro _; rfl) :
    PE X (.ListComp elt [⟨tg, iter, ifs, 0⟩] scope pos) (tF c W (mLc mi T t m (own.map (·.2)))) := (pe_lc hc hN hi ok hg ht he hs).imp fun σ H Q q => lc_ok hT q
theorem rs_lc {i : Nat} {y : Str} {py : Pos} {elt tg iter : Expr} {ifs : List Expr} {scope : Scope} {pos spos : Pos} {mi : En → R (List PV.D)} {T : Tg} {t : En → R Bool} {m : En → R PV.D} {own : List (Str × Nat)} (hc : X.calm = true) (hN : X.N.Nodup) (hy : X.N[i]? = some y) (hyl : X.env.scope.names.lookup y = some .local)
    (hsw : swapsWith (.ListComp elt [⟨tg, iter, ifs, 0⟩] scope pos) (some (.Name y py)) spos.line X.env = pure true) (ok : BlkOk X.N X.env.scope scope own) (hT : okT (own.map (·.2)) T = true) (hi : PI X tg iter (tI c W mi))
    (hg : ∀ (s : Shared) (H : Hp) (C : Addr) (cl : List (Str × Addr)) (fp : List Addr), PG (X.blk s H scope (compEnvC scope cl C X.env) fp) tg (tGx c T)) (ht : ∀ (s : Shared) (H : Hp) (C : Addr) (cl : List (Str × Addr)) (fp : List Addr), PTs (X.blk s H scope (compEnvC scope cl C X.env) fp) ifs (tTx c t))
    (he : ∀ (s : Shared) (H : Hp) (C : Addr) (cl : List (Str × Addr)) (fp : List Addr), PE (X.blk s H scope (compEnvC scope cl C X.env) fp) elt (tEx c m)) (hs : ∀ x, foldedSetIterable iter X.env x = pure x := by intro _; rfl) :
    PS X (.Assign [.Name y py] (.ListComp elt [⟨tg, iter, ifs, 0⟩] scope pos) spos) (tS c W (sSetO i (mLc mi T t m (own.map (·.2))))) := (ps_setLc hc hN hy hyl hsw hi ok hg ht he hs).imp fun Z σ H q => by
  obtain ⟨env, F, S, q⟩ := q
  have h := setO_ok ⟨env, F, S, q⟩
  exact lc_ok hT h
end
end PV

namespace PV
open PySem PySem.Spec PyProof.Rows L2
/-! ### reading off -/
section
variable {g : Gc} {F H : Hp} {v : V}
theorem Rep1s.one {d : D} {vs : List V} (h : Rep1s g F H [d] vs) : ∃ x, vs = [x] ∧ Rep1 g F H d x := by
  match h with
  | .cons a .nil => exact ⟨_, rfl, a⟩
theorem Rep1s.two {d e : D} {vs : List V} (h : Rep1s g F H [d, e] vs) : ∃ x y, vs = [x, y] ∧ Rep1 g F H d x ∧ Rep1 g F H e y := by
  match h with
  | .cons a (.cons b .nil) => exact ⟨_, _, rfl, a, b⟩
theorem Rep1s.nil_ {vs : List V} (h : Rep1s g F H [] vs) : vs = [] := by
  cases h
  rfl
theorem Rep1.non_ (h : Rep1 g F H .non v) : v = .non := by
  rcases h with h | ⟨_, _, h⟩
  · cases h; rfl
  · cases h
theorem Rep1.bl_ {b : Bool} (h : Rep1 g F H (.bl b) v) : v = .bl b := by
  rcases h with h | ⟨_, _, h⟩
  · cases h; rfl
  · cases h
theorem Rep1.int_ {i : Int} (h : Rep1 g F H (.int i) v) : v = .int i := by
  rcases h with h | ⟨_, _, h⟩
  · cases h; rfl
  · cases h
theorem Rep1.str_ {z : Str} (h : Rep1 g F H (.str z) v) : v = .str z := by
  rcases h with h | ⟨_, _, h⟩
  · cases h; rfl
  · cases h
theorem Rep1.tup_ {xs : List D} (w : WF g F H) (h : Rep1 g F H (.tup xs) v) : ∃ a vs, v = .ref a ∧ SqT g.K H a vs ∧ SqT g.K F a vs ∧ Reps g F xs vs := by
  rcases h with h | ⟨_, _, h⟩
  · cases h with
    | tup h r => exact ⟨_, _, rfl, sqT_mono w.sub h, h, r⟩
  · cases h
theorem Rep1.lst_ {xs : List D} (w : WF g F H) (h : Rep1 g F H (.lst xs) v) : ∃ a vs, v = .ref a ∧ H a = some (.lst vs) ∧ Reps g F xs vs := by
  rcases h with h | ⟨e, h1, h⟩
  · cases h with
    | lst h r => exact ⟨_, _, rfl, w.sub _ _ h, r⟩
  · cases h with
    | lst r => exact ⟨_, _, e, h1, r⟩
theorem Rep1.ro_ {xs : List D} (w : WF g F H) (h : Rep1 g F H (.ro xs) v) : ∃ a vs, v = .ref a ∧ SqL g.K H a vs ∧ Reps g F xs vs := by
  rcases h with h | ⟨e, h1, h⟩
  · cases h with
    | ro h r => exact ⟨_, _, rfl, w.sub.seq h, r⟩
  · cases h
/-- the items of a list or tuple -/
def seqD : D → Option (List D)
  | .tup xs => some xs
  | .lst xs => some xs
  | .ro xs => some xs
  | _ => none
theorem Rep1.seq_ {d : D} {xs : List D} (w : WF g F H) (h : Rep1 g F H d v) (e : seqD d = some xs) : ∃ a vs, v = .ref a ∧ (SqL g.K H a vs ∨ SqT g.K H a vs) ∧ Reps g F xs vs := by
  cases d with
  | tup ys =>
    cases e
    obtain ⟨a, vs, h1, h2, _, h3⟩ := h.tup_ w
    exact ⟨a, vs, h1, .inr h2, h3⟩
  | lst ys =>
    cases e
    obtain ⟨a, vs, h1, h2, h3⟩ := h.lst_ w
    exact ⟨a, vs, h1, .inl (SqL.of h2), h3⟩
  | ro ys =>
    cases e
    obtain ⟨a, vs, h1, h2, h3⟩ := h.ro_ w
    exact ⟨a, vs, h1, .inl h2, h3⟩
  | _ => cases e
/-- .. of a list -/
def lstD : D → Option (List D)
  | .lst xs => some xs
  | .ro xs => some xs
  | _ => none
theorem Rep1.list_ {d : D} {xs : List D} (w : WF g F H) (h : Rep1 g F H d v) (e : lstD d = some xs) : ∃ a vs, v = .ref a ∧ SqL g.K H a vs ∧ Reps g F xs vs := by
  cases d with
  | lst ys =>
    cases e
    obtain ⟨a, vs, h1, h2, h3⟩ := h.lst_ w
    exact ⟨a, vs, h1, SqL.of h2, h3⟩
  | ro ys =>
    cases e
    obtain ⟨a, vs, h1, h2, h3⟩ := h.ro_ w
    exact ⟨a, vs, h1, h2, h3⟩
  | _ => cases e
/-- ints -/
def intsD : List D → Option (List Int)
  | [] => some []
  | .int i :: r => (intsD r).map (i :: ·)
  | _ :: _ => none
theorem Reps.ints : ∀ {ds : List D} {vs : List V} {ns : List Int}, Reps g F ds vs → intsD ds = some ns → vs = ns.map V.int
  | [], _, _, .nil, e => by
    cases e
    rfl
  | d :: ds, _, ns, .cons h t, e => by
    cases h with
    | int =>
      unfold intsD at e
      cases q : intsD ds with
      | none =>
        rw [q] at e
        cases e
      | some ms =>
        rw [q] at e
        cases e
        rw [Reps.ints t q]
        rfl
    | _ => cases e
theorem Reps.ofInts (ns : List Int) : Reps g F (ns.map D.int) (ns.map V.int) := by
  induction ns with
  | nil => exact .nil
  | cons n r ih => exact .cons .int ih
/-- bools -/
def blsD : List D → Option (List Bool)
  | [] => some []
  | .bl b :: r => (blsD r).map (b :: ·)
  | _ :: _ => none
theorem Reps.bls : ∀ {ds : List D} {vs : List V} {ns : List Bool}, Reps g F ds vs → blsD ds = some ns → vs = ns.map V.bl
  | [], _, _, .nil, e => by
    cases e
    rfl
  | d :: ds, _, ns, .cons h t, e => by
    cases h with
    | bl =>
      unfold blsD at e
      cases q : blsD ds with
      | none =>
        rw [q] at e
        cases e
      | some ms =>
        rw [q] at e
        cases e
        rw [Reps.bls t q]
        rfl
    | _ => cases e
theorem Reps.slice : ∀ {ds : List D} {vs : List V} (n m : Nat), Reps g F ds vs → Reps g F ((ds.drop n).take m) ((vs.drop n).take m) := by
  have tk : ∀ {ds : List D} {vs : List V} (m : Nat), Reps g F ds vs → Reps g F (ds.take m) (vs.take m) := by
    intro ds
    induction ds with
    | nil =>
      intro vs m h
      cases h
      simp
      exact .nil
    | cons d ds ih =>
      intro vs m h
      cases h with
      | cons a b =>
        cases m with
        | zero => exact .nil
        | succ m => exact .cons a (ih m b)
  have dp : ∀ {ds : List D} {vs : List V} (m : Nat), Reps g F ds vs → Reps g F (ds.drop m) (vs.drop m) := by
    intro ds
    induction ds with
    | nil =>
      intro vs m h
      cases h
      simp
      exact .nil
    | cons d ds ih =>
      intro vs m h
      cases h with
      | cons a b =>
        cases m with
        | zero => exact .cons a b
        | succ m => exact ih m b
  intro ds vs n m h
  exact tk m (dp n h)
end
/-! ### arithmetic -/
section
variable {g : Gc} {X : Cx}
def o2I (C : Int → Int → Bool) (k : Int → Int → D) : List D → Option D
  | [.int i, .int j] => if C i j = true then some (k i j) else none
  | _ => none
theorem oa_rI {C : Int → Int → Prop} {kv : Int → Int → V} {C' : Int → Int → Bool} {kd : Int → Int → D} (hC : ∀ i j, C' i j = true → C i j) (hk : ∀ i j F, Rep g F (kd i j) (kv i j)) : OpA g (r2 (rI C kv)) (o2I C' kd) := fun ds vs d F H Q w R e k => by
  unfold o2I at e
  split at e
  · rename_i i j
    split at e
    · rename_i hc
      cases e
      obtain ⟨x, y, rfl, h1, h2⟩ := R.two
      exact ⟨i, j, h1.int_, h2.int_, hC i j hc, k _ H F (Go.refl w) (hk i j F)⟩
    · cases e
  · cases e
theorem oa_rI0 {kv : Int → Int → V} {kd : Int → Int → D} (hk : ∀ i j F, Rep g F (kd i j) (kv i j)) : OpA g (r2 (rI0 kv)) (o2I (fun _ _ => true) kd) := fun ds vs d F H Q w R e k => by
  unfold o2I at e
  split at e
  · rename_i i j
    rw [if_pos rfl] at e
    cases e
    obtain ⟨x, y, rfl, h1, h2⟩ := R.two
    exact ⟨i, j, h1.int_, h2.int_, k _ H F (Go.refl w) (hk i j F)⟩
  · cases e
abbrev oSub : List D → Option D := o2I (fun _ _ => true) fun i j => .int (i - j)
theorem oa_sub : OpA g (r2 (rI0 fun i j => .int (i - j))) oSub := oa_rI0 fun _ _ _ => .int
abbrev oAnd : List D → Option D := o2I (fun _ _ => true) fun i j => .int (Builtin.bitAnd i j)
theorem oa_and : OpA g (r2 (rI0 fun i j => .int (Builtin.bitAnd i j))) oAnd := oa_rI0 fun _ _ _ => .int
abbrev oOr : List D → Option D := o2I (fun _ _ => true) fun i j => .int (Builtin.bitOr i j)
theorem oa_or : OpA g (r2 (rI0 fun i j => .int (Builtin.bitOr i j))) oOr := oa_rI0 fun _ _ _ => .int
abbrev oXor : List D → Option D := o2I (fun _ _ => true) fun i j => .int (Builtin.bitXor i j)
theorem oa_xor : OpA g (r2 (rI0 fun i j => .int (Builtin.bitXor i j))) oXor := oa_rI0 fun _ _ _ => .int
abbrev oLt : List D → Option D := o2I (fun _ _ => true) fun i j => .bl (decide (i < j))
theorem oa_lt : OpA g (r2 (rI0 fun i j => .bl (decide (i < j)))) oLt := oa_rI0 fun _ _ _ => .bl
abbrev oLe : List D → Option D := o2I (fun _ _ => true) fun i j => .bl (decide (i ≤ j))
theorem oa_le : OpA g (r2 (rI0 fun i j => .bl (decide (i ≤ j)))) oLe := oa_rI0 fun _ _ _ => .bl
abbrev oGt : List D → Option D := o2I (fun _ _ => true) fun i j => .bl (decide (j < i))
theorem oa_gt : OpA g (r2 (rI0 fun i j => .bl (decide (j < i)))) oGt := oa_rI0 fun _ _ _ => .bl
abbrev oGe : List D → Option D := o2I (fun _ _ => true) fun i j => .bl (decide (j ≤ i))
theorem oa_ge : OpA g (r2 (rI0 fun i j => .bl (decide (j ≤ i)))) oGe := oa_rI0 fun _ _ _ => .bl
def cMod (_ j : Int) : Bool := decide (j ≠ 0)
abbrev oMod : List D → Option D := o2I cMod fun i j => .int (i.fmod j)
theorem oa_mod : OpA g (r2 (rI (fun _ j => j ≠ 0) fun i j => .int (i.fmod j))) oMod := oa_rI (fun _ _ h => of_decide_eq_true h) fun _ _ _ => .int
def cFdiv (_ j : Int) : Bool := decide (0 < j) && decide (j.natAbs.log2 < 9000)
abbrev oFdiv : List D → Option D := o2I cFdiv fun i j => .int (i / j)
theorem oa_fdiv : OpA g (r2 (rI CDivW fun i j => .int (i / j))) oFdiv := oa_rI (fun i j h => by
  unfold cFdiv at h
  rw [Bool.and_eq_true] at h
  exact ⟨of_decide_eq_true h.1, of_decide_eq_true h.2⟩) fun _ _ _ => .int
def cPow (i j : Int) : Bool := decide (0 ≤ j) && (decide (j ≤ 1000000) && decide (i.natAbs < 2 ^ 64))
theorem cPow_ok {i j : Int} (h : cPow i j = true) : CPow i j := by
  unfold cPow at h
  rw [Bool.and_eq_true, Bool.and_eq_true] at h
  exact ⟨of_decide_eq_true h.1, of_decide_eq_true h.2.1, of_decide_eq_true h.2.2⟩
abbrev oPow : List D → Option D := o2I cPow fun i j => .int (i ^ j.toNat)
theorem oa_pow : OpA g (r2 (rI CPow fun i j => .int (i ^ j.toNat))) oPow := oa_rI (fun _ _ h => cPow_ok h) fun _ _ _ => .int
abbrev oShl : List D → Option D := o2I cPow fun i j => .int (i * 2 ^ j.toNat)
theorem oa_shl : OpA g (r2 (rI CPow fun i j => .int (i * 2 ^ j.toNat))) oShl := oa_rI (fun _ _ h => cPow_ok h) fun _ _ _ => .int
def cShr (_ j : Int) : Bool := decide (0 ≤ j)
abbrev oShr : List D → Option D := o2I cShr fun i j => .int (i / 2 ^ j.toNat)
theorem oa_shr : OpA g (r2 (rI (fun _ j => 0 ≤ j) fun i j => .int (i / 2 ^ j.toNat))) oShr := oa_rI (fun _ _ h => of_decide_eq_true h) fun _ _ _ => .int
def o1I (k : Int → D) : List D → Option D
  | [.int i] => some (k i)
  | _ => none
theorem oa_rU {kv : Int → V} {kd : Int → D} (hk : ∀ i F, Rep g F (kd i) (kv i)) : OpA g (r1 (rU kv)) (o1I kd) := fun ds vs d F H Q w R e k => by
  unfold o1I at e
  split at e
  · rename_i i
    cases e
    obtain ⟨x, rfl, h1⟩ := R.one
    exact ⟨i, h1.int_, k _ H F (Go.refl w) (hk i F)⟩
  · cases e
abbrev oNeg : List D → Option D := o1I fun i => .int (-i)
theorem oa_neg : OpA g (r1 (rU fun i => .int (-i))) oNeg := oa_rU fun _ _ => .int
abbrev oInv : List D → Option D := o1I fun i => .int (Builtin.bitNot i)
theorem oa_inv : OpA g (r1 (rU fun i => .int (Builtin.bitNot i))) oInv := oa_rU fun _ _ => .int
/-! ### + and * of all kinds -/
def rAddX (K : PySem.W.Frag) : R2 := fun x y H Q => rI0 (fun i j => .int (i + j)) x y H Q ∨ (∃ i j, x = .str i ∧ y = .str j ∧ i.length + j.length ≤ sizeLine ∧ Q (.str (i ++ j)) H) ∨ rCatA K x y H Q ∨ rCat x y H Q
theorem op_addX : OpR X (binaryOp .Add) (rAddX X.K) := op_add.or (op_add_str.or (op_catA.or op_cat))
def oAdd : List D → Option D
  | [.int i, .int j] => some (.int (i + j))
  | [.str x, .str y] => if x.length + y.length ≤ lim then some (.str (x ++ y)) else none
  | [.tup xs, .tup ys] => if xs.length + ys.length ≤ lim then some (.tup (xs ++ ys)) else none
  | [.lst xs, .lst ys] => if xs.length + ys.length ≤ lim then some (.lst (xs ++ ys)) else none
  | _ => none
def oCat : List D → Option D
  | [.lst xs, .lst ys] => if xs.length + ys.length ≤ lim then some (.lst (xs ++ ys)) else none
  | _ => none
theorem of_cat : OpF g (r2 rCat) oCat := fun ds vs d F H Q w R e k => by
  unfold oCat at e
  split at e
  · rename_i xs ys
    split at e
    · rename_i hz
      cases e
      obtain ⟨x, y, rfl, h1, h2⟩ := R.two
      obtain ⟨a, vs, rfl, ha, ra⟩ := h1.lst_ w
      obtain ⟨b, ws, rfl, hb, rb⟩ := h2.lst_ w
      exact ⟨a, b, vs, ws, rfl, rfl, ha, hb, lim_line (by rw [← ra.length, ← rb.length]; exact hz), fun p n => k p _ n (.lst (ra.append rb))⟩
    · cases e
  · cases e
theorem of_catX {K : PySem.W.Frag} : OpF g (r2 (rAddX K)) oCat := fun ds vs d F H Q w R e k => by
  have h := of_cat ds vs d F H Q w R e k
  match vs, h with
  | [x, y], h => exact .inr (.inr (.inr h))
theorem Reps.nil_iff {F : Hp} {xs : List D} {vs : List V} (r : Reps g F xs vs) : vs = [] ↔ xs = [] := by
  cases r <;> simp
theorem oa_add : OpA g (r2 (rAddX g.K)) oAdd := fun ds vs d F H Q w R e k => by
  unfold oAdd at e
  split at e
  · rename_i i j
    cases e
    obtain ⟨x, y, rfl, h1, h2⟩ := R.two
    exact .inl ⟨i, j, h1.int_, h2.int_, k _ H F (Go.refl w) .int⟩
  · rename_i x y
    split at e
    · rename_i hz
      cases e
      obtain ⟨_, _, rfl, h1, h2⟩ := R.two
      exact .inr (.inl ⟨x, y, h1.str_, h2.str_, lim_line hz, k _ H F (Go.refl w) .str⟩)
    · cases e
  · rename_i xs ys
    split at e
    · rename_i hz
      cases e
      obtain ⟨x, y, rfl, h1, h2⟩ := R.two
      obtain ⟨a, vs, rfl, ha, fa, ra⟩ := h1.tup_ w
      obtain ⟨b, ws, rfl, hb, fb, rb⟩ := h2.tup_ w
      refine .inr (.inr (.inl ⟨a, b, vs, ws, rfl, rfl, ha, hb, lim_line (by rw [← ra.length, ← rb.length]; exact hz), fun z => ?_, fun z1 z2 => ?_, fun z1 z2 p n => ?_⟩))
      · have : xs = [] := ra.nil_iff.mp z
        subst this
        exact k _ H F (Go.refl w) (.tup fb rb)
      · have : ys = [] := rb.nil_iff.mp z2
        subst this
        rw [List.append_nil] at k
        exact k _ H F (Go.refl w) (.tup fa ra)
      · have g2 := Go.frz w n (o := .tup (vs ++ ws)) (fun ps z => by cases z)
        exact k _ _ _ g2 (.tup (SqT.of upd_same) ((ra.append rb).mono g2.gr.f))
    · cases e
  · rename_i xs ys
    split at e
    · rename_i hz
      cases e
      have h := of_catX (K := g.K) [.lst xs, .lst ys] vs _ F H Q w R (if_pos hz) fun a o n ro => k _ _ _ (Go.frz w n ro.ntbl) ((ro.mono (Same_upd (w.sub.free n))).rep rfl upd_same)
      exact h
    · cases e
  · cases e
/-- * -/
def cMul (i j : Int) : Bool := decide (i.natAbs.log2 + j.natAbs.log2 < 1000000)
def rMulX (K : PySem.W.Frag) : R2 := fun x y H Q => rI CMulW (fun i j => .int (i * j)) x y H Q ∨ rRep x y H Q ∨ rRepT K x y H Q
theorem op_mulXX : OpR X (binaryOp .Mult) (rMulX X.K) := op_mulW.or (op_rep.or op_repT)
def oRep : List D → Option D
  | [.lst xs, .int k] => if xs.length * k.toNat ≤ lim ∧ -(2 ^ 63) ≤ k ∧ k < 2 ^ 63 then some (.lst (List.replicate k.toNat xs).flatten) else none
  | _ => none
theorem Reps.rep {F : Hp} {xs : List D} {vs : List V} (r : Reps g F xs vs) : ∀ n : Nat, Reps g F (List.replicate n xs).flatten (List.replicate n vs).flatten
  | 0 => .nil
  | n + 1 => by
    rw [List.replicate_succ, List.replicate_succ, List.flatten_cons, List.flatten_cons]
    exact r.append (Reps.rep r n)
theorem of_rep {K : PySem.W.Frag} : OpF g (r2 (rMulX K)) oRep := fun ds vs d F H Q w R e k => by
  unfold oRep at e
  split at e
  · rename_i xs n
    split at e
    · rename_i hz
      cases e
      obtain ⟨x, y, rfl, h1, h2⟩ := R.two
      obtain ⟨a, vs, rfl, ha, ra⟩ := h1.lst_ w
      exact .inr (.inl ⟨a, n, vs, rfl, h2.int_, ha, hz.2.1, hz.2.2, lim_line (by rw [← ra.length]; exact hz.1), fun p np => k p _ np (.lst (ra.rep _))⟩)
    · cases e
  · cases e
def oMul : List D → Option D
  | [.int i, .int j] => if cMul i j = true then some (.int (i * j)) else none
  | [.tup xs, .int k] => if xs.isEmpty = false ∧ 2 ≤ k ∧ k ≤ 1000 ∧ xs.length ≤ 1000 then some (.tup (List.replicate k.toNat xs).flatten) else none
  | ds => oRep ds
theorem oa_mul : OpA g (r2 (rMulX g.K)) oMul := fun ds vs d F H Q w R e k => by
  unfold oMul at e
  split at e
  · rename_i i j
    split at e
    · rename_i hz
      cases e
      obtain ⟨x, y, rfl, h1, h2⟩ := R.two
      exact .inl ⟨i, j, h1.int_, h2.int_, (show i.natAbs.log2 + j.natAbs.log2 < 1000000 from of_decide_eq_true (by unfold cMul at hz; exact hz)), k _ H F (Go.refl w) .int⟩
    · cases e
  · rename_i xs n
    split at e
    · rename_i hz
      cases e
      obtain ⟨x, y, rfl, h1, h2⟩ := R.two
      obtain ⟨a, vs, rfl, ha, fa, ra⟩ := h1.tup_ w
      refine .inr (.inr ⟨a, n, vs, rfl, h2.int_, ha, fun z => ?_, hz.2.1, hz.2.2.1, by rw [← ra.length]; exact hz.2.2.2, fun p np => ?_⟩)
      · rw [ra.nil_iff.mp z] at hz
        cases hz.1
      · have g2 := Go.frz w np (o := .tup (List.replicate n.toNat vs).flatten) (fun ps z => by cases z)
        exact k _ _ _ g2 (.tup (SqT.of upd_same) ((ra.rep _).mono g2.gr.f))
    · cases e
  · exact of_rep.opA (fun ds d e => by
      unfold oRep at e
      split at e
      · split at e
        · cases e; rfl
        · cases e
      · cases e) ds vs d F H Q w R e k
/-! ### == -/
mutual
def toP : D → Option PyData
  | .non => some .none
  | .bl b => some (.bool b)
  | .int i => some (.int i)
  | .str z => some (.str z)
  | .tup xs => (toPs xs).map .tuple
  | .lst xs => (toPs xs).map .list
  | _ => none
def toPs : List D → Option (List PyData)
  | [] => some []
  | d :: ds => match toP d, toPs ds with
    | some p, some ps => some (p :: ps)
    | _, _ => none
end
mutual
theorem dp_of {F H : Hp} (s : Same F H) : ∀ {d : D} {v : V} {p : PyData}, Rep g F d v → toP d = some p → Dp g.K H v p
  | _, _, _, .non, e => by unfold toP at e; cases e; exact .non
  | _, _, _, .bl, e => by unfold toP at e; cases e; exact .bl _
  | _, _, _, .int, e => by unfold toP at e; cases e; exact .int _
  | _, _, _, .str, e => by unfold toP at e; cases e; exact .str _
  | _, _, _, @Rep.tup _ _ a xs vs h r, e => by
    unfold toP at e
    cases q : toPs xs with
    | none =>
      rw [q] at e
      cases e
    | some ps =>
      rw [q] at e
      cases e
      exact .tup (sqT_mono s h) (dps_of s r q)
  | _, _, _, @Rep.lst _ _ a xs vs h r, e => by
    unfold toP at e
    cases q : toPs xs with
    | none =>
      rw [q] at e
      cases e
    | some ps =>
      rw [q] at e
      cases e
      exact .lst (SqL.of (s _ _ h)) (dps_of s r q)
  | _, _, _, .ro _ _, e => by unfold toP at e; cases e
  | _, _, _, .dik _ _, e => by unfold toP at e; cases e
  | _, _, _, .dit _ _, e => by unfold toP at e; cases e
  | _, _, _, .ins _ _ _, e => by unfold toP at e; cases e
  | _, _, _, .fn _, e => by unfold toP at e; cases e
theorem dps_of {F H : Hp} (s : Same F H) : ∀ {ds : List D} {vs : List V} {ps : List PyData}, Reps g F ds vs → toPs ds = some ps → DpAll g.K H vs ps
  | _, _, _, .nil, e => by unfold toPs at e; cases e; exact .nil
  | _, _, _, @Reps.cons _ _ x xs v vs h t, e => by
    unfold toPs at e
    cases q1 : toP x with
    | none =>
      rw [q1] at e
      cases e
    | some p =>
      cases q2 : toPs xs with
      | none =>
        rw [q1, q2] at e
        cases e
      | some ps =>
        rw [q1, q2] at e
        cases e
        exact .cons (dp_of s h q1) (dps_of s t q2)
end
theorem Rep1.dp {F H : Hp} {d : D} {v : V} {p : PyData} (w : WF g F H) (h : Rep1 g F H d v) (e : toP d = some p) : Dp g.K H v p := by
  rcases h with h | ⟨e1, h1, h⟩
  · exact dp_of w.sub h e
  · cases h with
    | lst r =>
      subst e1
      unfold toP at e
      rename_i xs vs
      cases q : toPs xs with
      | none =>
        rw [q] at e
        cases e
      | some ps =>
        rw [q] at e
        cases e
        exact .lst (SqL.of h1) (dps_of w.sub r q)
    | _ => unfold toP at e; cases e
def eqD (d e : D) : Option Bool := match toP d, toP e with
  | some p, some q => if SeqAt.shaped p = true ∧ SeqAt.shaped q = true then some (PyData.eqv p q) else none
  | _, _ => none
def oEq : List D → Option D
  | [d, e] => (eqD d e).map .bl
  | _ => none
def oNe : List D → Option D
  | [d, e] => (eqD d e).map fun b => .bl !b
  | _ => none
theorem eqD_ok {F H : Hp} {d e : D} {x y : V} {b : Bool} (w : WF g F H) (h1 : Rep1 g F H d x) (h2 : Rep1 g F H e y) (h : eqD d e = some b) : ∃ p q, Dp g.K H x p ∧ Dp g.K H y q ∧ SeqAt.shaped p = true ∧ SeqAt.shaped q = true ∧ PyData.eqv p q = b := by
  unfold eqD at h
  cases q1 : toP d with
  | none =>
    rw [q1] at h
    cases h
  | some p =>
    cases q2 : toP e with
    | none =>
      rw [q1, q2] at h
      cases h
    | some q =>
      rw [q1, q2] at h
      have h' : (if SeqAt.shaped p = true ∧ SeqAt.shaped q = true then some (PyData.eqv p q) else none) = some b := h
      split at h'
      · rename_i hs
        exact ⟨p, q, h1.dp w q1, h2.dp w q2, hs.1, hs.2, Option.some.inj h'⟩
      · cases h'
theorem oa_eq : OpA g (r2 (rEqD g.K)) oEq := fun ds vs d F H Q w R e k => by
  unfold oEq at e
  split at e
  · rename_i d1 d2
    obtain ⟨x, y, rfl, h1, h2⟩ := R.two
    cases q : eqD d1 d2 with
    | none =>
      rw [q] at e
      cases e
    | some b =>
      rw [q] at e
      cases e
      obtain ⟨p, q', a1, a2, a3, a4, a5⟩ := eqD_ok w h1 h2 q
      exact ⟨p, q', a1, a2, a3, a4, by rw [a5]; exact k _ H F (Go.refl w) .bl⟩
  · cases e
theorem oa_ne : OpA g (r2 (rNeD g.K)) oNe := fun ds vs d F H Q w R e k => by
  unfold oNe at e
  split at e
  · rename_i d1 d2
    obtain ⟨x, y, rfl, h1, h2⟩ := R.two
    cases q : eqD d1 d2 with
    | none =>
      rw [q] at e
      cases e
    | some b =>
      rw [q] at e
      cases e
      obtain ⟨p, q', a1, a2, a3, a4, a5⟩ := eqD_ok w h1 h2 q
      exact ⟨p, q', a1, a2, a3, a4, by rw [a5]; exact k _ H F (Go.refl w) .bl⟩
  · cases e
/-! ### in -/
def flatD : D → Option V
  | .non => some .non
  | .bl b => some (.bl b)
  | .int i => some (.int i)
  | .str z => some (.str z)
  | _ => none
def flatDs : List D → Option (List V)
  | [] => some []
  | d :: ds => match flatD d, flatDs ds with
    | some v, some vs => some (v :: vs)
    | _, _ => none
theorem flatD_ok {F : Hp} {d : D} {v u : V} (h : Rep g F d v) (e : flatD d = some u) : v = u ∧ flatV v = true := by
  cases h <;> first | (cases e; exact ⟨rfl, rfl⟩) | cases e
theorem flatDs_ok {F : Hp} : ∀ {ds : List D} {vs us : List V}, Reps g F ds vs → flatDs ds = some us → vs = us ∧ vs.all flatV = true
  | _, _, _, .nil, e => by unfold flatDs at e; cases e; exact ⟨rfl, rfl⟩
  | _, _, _, @Reps.cons _ _ x xs v vs h t, e => by
    unfold flatDs at e
    cases q1 : flatD x with
    | none =>
      rw [q1] at e
      cases e
    | some p =>
      cases q2 : flatDs xs with
      | none =>
        rw [q1, q2] at e
        cases e
      | some ps =>
        rw [q1, q2] at e
        cases e
        obtain ⟨a1, a2⟩ := flatD_ok h q1
        obtain ⟨b1, b2⟩ := flatDs_ok t q2
        subst a1 b1
        exact ⟨rfl, by rw [List.all_cons, a2, b2]; rfl⟩
def inD (neg : Bool) : List D → Option D
  | [d, e] => match flatD d, (seqD e).bind flatDs with
    | some v, some vs => some (.bl (if neg then !inV v vs else inV v vs))
    | _, _ => none
  | _ => none
theorem oa_in (neg : Bool) : OpA g (r2 (rIn g.K neg)) (inD neg) := fun ds vs d F H Q w R e k => by
  unfold inD at e
  split at e
  · rename_i d1 d2
    obtain ⟨x, y, rfl, h1, h2⟩ := R.two
    cases q1 : flatD d1 with
    | none =>
      rw [q1] at e
      cases e
    | some v =>
      cases q2 : seqD d2 with
      | none =>
        rw [q1, q2] at e
        cases e
      | some xs =>
        rw [q1, q2] at e
        cases q3 : flatDs xs with
        | none =>
          have e' : (match (some v : Option V), (flatDs xs) with | some v, some vs => some (D.bl (if neg = true then !inV v vs else inV v vs)) | _, _ => none) = some d := e
          rw [q3] at e'
          cases e'
        | some us =>
          have e' : (match (some v : Option V), (flatDs xs) with | some v, some vs => some (D.bl (if neg = true then !inV v vs else inV v vs)) | _, _ => none) = some d := e
          rw [q3] at e'
          cases e'
          obtain ⟨a, ws, ey, hs, r⟩ := h2.seq_ w q2
          obtain ⟨b1, b2⟩ := flatDs_ok r q3
          subst b1
          have hx : x = v ∧ flatV x = true := by
            rcases h1 with h1 | ⟨_, _, h1⟩
            · exact flatD_ok h1 q1
            · cases h1 <;> cases q1
          obtain ⟨c1, c2⟩ := hx
          subst c1
          exact ⟨a, ws, ey, hs, c2, b2, k _ H F (Go.refl w) .bl⟩
  · cases e
/-! ### None -/
def isNonD : D → Bool
  | .non => true
  | _ => false
def oIsN : List D → Option D
  | [d, .non] => some (.bl (isNonD d))
  | _ => none
def oNotN : List D → Option D
  | [d, .non] => some (.bl (!isNonD d))
  | _ => none
theorem isNon_ok {F H : Hp} {d : D} {x : V} (h : Rep1 g F H d x) : decide (x = .non) = isNonD d := by
  rcases h with h | ⟨e, _, h⟩
  · cases h <;> first | rfl | exact decide_eq_false (fun z => by cases z)
  · subst e
    cases h <;> exact decide_eq_false (fun z => by cases z)
theorem oa_isN : OpA g (r2 (fun x y H Q => y = .non ∧ Q (.bl (decide (x = .non))) H)) oIsN := fun ds vs d F H Q w R e k => by
  unfold oIsN at e
  split at e
  · rename_i d1
    cases e
    obtain ⟨x, y, rfl, h1, h2⟩ := R.two
    exact ⟨h2.non_, by rw [isNon_ok h1]; exact k _ H F (Go.refl w) .bl⟩
  · cases e
theorem oa_notN : OpA g (r2 (fun x y H Q => y = .non ∧ Q (.bl (!decide (x = .non))) H)) oNotN := fun ds vs d F H Q w R e k => by
  unfold oNotN at e
  split at e
  · rename_i d1
    cases e
    obtain ⟨x, y, rfl, h1, h2⟩ := R.two
    exact ⟨h2.non_, by rw [isNon_ok h1]; exact k _ H F (Go.refl w) .bl⟩
  · cases e
end
end PV

namespace PV
open PySem PySem.Spec PyProof.Rows L2
/-! ### what no container is in -/
mutual
def imm : D → Bool
  | .non => true
  | .bl _ => true
  | .int _ => true
  | .str _ => true
  | .tup xs => imms xs
  | .fn _ => true
  | _ => false
def imms : List D → Bool
  | [] => true
  | d :: ds => imm d && imms ds
end
theorem sqT_tup {K : PySem.W.Frag} {F F' : Hp} {a : Addr} {vs : List V} (h : SqT K F a vs) (k : ∀ u, F a = some u → tupy u = true → F' a = some u) : SqT K F' a vs := by
  rcases h with (h | ⟨o, h⟩) | h
  · exact .inl (.inl (k _ h rfl))
  · exact .inl (.inr ⟨o, k _ h rfl⟩)
  · exact .inr h
mutual
theorem Rep.imm {g : Gc} {F F' : Hp} (k : ∀ a u, F a = some u → tupy u = true → F' a = some u) : ∀ {d : D} {v : V}, Rep g F d v → PV.imm d = true → Rep g F' d v
  | _, _, .non, _ => .non
  | _, _, .bl, _ => .bl
  | _, _, .int, _ => .int
  | _, _, .str, _ => .str
  | _, _, .fn m, _ => .fn m
  | _, _, .tup h r, e => by
    unfold PV.imm at e
    exact .tup (sqT_tup h (k _)) (Reps.imm k r e)
  | _, _, .lst _ _, e => by unfold PV.imm at e; cases e
  | _, _, .ro _ _, e => by unfold PV.imm at e; cases e
  | _, _, .dik _ _, e => by unfold PV.imm at e; cases e
  | _, _, .dit _ _, e => by unfold PV.imm at e; cases e
  | _, _, .ins _ _ _, e => by unfold PV.imm at e; cases e
theorem Reps.imm {g : Gc} {F F' : Hp} (k : ∀ a u, F a = some u → tupy u = true → F' a = some u) : ∀ {ds : List D} {vs : List V}, Reps g F ds vs → imms ds = true → Reps g F' ds vs
  | _, _, .nil, _ => .nil
  | _, _, .cons h t, e => by
    unfold imms at e
    rw [Bool.and_eq_true] at e
    exact .cons (Rep.imm k h e.1) (Reps.imm k t e.2)
end
/-! ### built-ins -/
section
variable {c : Cn} {W : WX} {X : Cx} {x : Str} {p pos : Pos} {e : Expr} {es : List Expr} {id T : String} {r : List V → Hp → VK → Prop} {f : List D → Option D} {os : List Od}
theorem re_cb (hc : CallR X (.builtin id) r) (hf : OpA c.toGc r f) (hg : Gl X x) (hm : X.mg x = none) (hv : bootBuiltins x = some (.builtin id)) (ha : PA X (e :: es) (tOds c W os)) (hn : x ≠ "__name__" := by decide) (hdb : (x == ("__debug__" : Str)) = false := by decide)
    (he : starEach (e :: es) X.env = (false, eval e X.env) :: starEach es X.env := by rfl) (hpl : (backTo pos (starEach es X.env)).any (·.1) = false := by rfl) : PE X (.Call (.Name x p) (e :: es) [] pos) (tE c W (mOp f os)) :=
  (pe_callB hc hg hm hv ha hn hdb he hpl).imp fun _ _ _ q => tOp_ok hf q
theorem re_cbF (hc : CallR X (.builtin id) r) (hf : OpF c.toGc r f) (hg : Gl X x) (hm : X.mg x = none) (hv : bootBuiltins x = some (.builtin id)) (ha : PA X (e :: es) (tOds c W os)) (hn : x ≠ "__name__" := by decide) (hdb : (x == ("__debug__" : Str)) = false := by decide)
    (he : starEach (e :: es) X.env = (false, eval e X.env) :: starEach es X.env := by rfl) (hpl : (backTo pos (starEach es X.env)).any (·.1) = false := by rfl) : PE X (.Call (.Name x p) (e :: es) [] pos) (tF c W (mOp f os)) :=
  (pe_callB hc hg hm hv ha hn hdb he hpl).imp fun _ _ _ q => tOpF_ok hf q
theorem re_ct (hc : CallR X (.type T) r) (hf : OpA c.toGc r f) (hg : Gl X x) (hm : X.mg x = none) (hv : bootBuiltins x = some (.type T)) (ha : PA X (e :: es) (tOds c W os)) (hn : x ≠ "__name__" := by decide) (hdb : (x == ("__debug__" : Str)) = false := by decide)
    (he : starEach (e :: es) X.env = (false, eval e X.env) :: starEach es X.env := by rfl) (hpl : (backTo pos (starEach es X.env)).any (·.1) = false := by rfl) : PE X (.Call (.Name x p) (e :: es) [] pos) (tE c W (mOp f os)) :=
  (pe_callTy hc hg hm hv ha hn hdb he hpl).imp fun _ _ _ q => tOp_ok hf q
theorem re_ctF (hc : CallR X (.type T) r) (hf : OpF c.toGc r f) (hg : Gl X x) (hm : X.mg x = none) (hv : bootBuiltins x = some (.type T)) (ha : PA X (e :: es) (tOds c W os)) (hn : x ≠ "__name__" := by decide) (hdb : (x == ("__debug__" : Str)) = false := by decide)
    (he : starEach (e :: es) X.env = (false, eval e X.env) :: starEach es X.env := by rfl) (hpl : (backTo pos (starEach es X.env)).any (·.1) = false := by rfl) : PE X (.Call (.Name x p) (e :: es) [] pos) (tF c W (mOp f os)) :=
  (pe_callTy hc hg hm hv ha hn hdb he hpl).imp fun _ _ _ q => tOpF_ok hf q
end
section
variable {g : Gc} {X : Cx}
/-- len -/
def oLen : List D → Option D
  | [.str z] => if z.length ≤ lim then some (.int z.length) else none
  | [.dik kvs] => some (.int kvs.length)
  | [d] => (seqD d).map fun xs => .int xs.length
  | _ => none
def rLenX (K : PySem.W.Frag) : List V → Hp → VK → Prop := fun xs H Q => (∃ p ys, xs = [.ref p] ∧ (SqL K H p ys ∨ SqT K H p ys) ∧ Q (.int ys.length) H) ∨ (∃ z, xs = [.str z] ∧ z.length ≤ sizeLine ∧ Q (.int z.length) H) ∨ (∃ a kvs, xs = [V.ref a] ∧ Rd H a (.dK kvs) ∧ Q (.int kvs.length) H)
theorem call_lenDR : CallR X (.builtin "len") (fun xs H Q => ∃ a kvs, xs = [V.ref a] ∧ Rd H a (.dK kvs) ∧ Q (.int kvs.length) H) := by
  intro pins s σ H xs us Q I r h
  obtain ⟨a, kvs, rfl, ha, q⟩ := h
  obtain ⟨u, rfl, ru⟩ := vals1 r
  cases ru
  exact d_len I ha fun t s' I' => ⟨.int kvs.length, H, I', ⟨t, rfl⟩, q⟩
theorem call_lenX : CallR X (.builtin "len") (rLenX X.K) := call_len_seq.or (call_len_str.or call_lenDR)
theorem RepK.length {F : Hp} {xs : List (Key × D)} {vs : List (Key × V)} (r : RepK g F xs vs) : xs.length = vs.length := by
  match r with
  | .nil => rfl
  | .cons _ t => simp [RepK.length t]
theorem Rep1.dik_ {F H : Hp} {v : V} {xs : List (Key × D)} (w : WF g F H) (h : Rep1 g F H (.dik xs) v) : ∃ a vs, v = .ref a ∧ Rd H a (.dK vs) ∧ RepK g F xs vs := by
  rcases h with h | ⟨e, h1, h⟩
  · cases h with
    | dik h r => exact ⟨_, _, rfl, .inr ⟨_, w.sub _ _ h⟩, r⟩
  · cases h with
    | dik r => exact ⟨_, _, e, .inl h1, r⟩
theorem oa_len : OpA g (rLenX g.K) oLen := fun ds vs d F H Q w R e k => by
  unfold oLen at e
  split at e
  · rename_i z
    split at e
    · rename_i hz
      cases e
      obtain ⟨x, rfl, h1⟩ := R.one
      exact .inr (.inl ⟨z, by rw [h1.str_], lim_line hz, k _ H F (Go.refl w) .int⟩)
    · cases e
  · rename_i kvs
    cases e
    obtain ⟨x, rfl, h1⟩ := R.one
    obtain ⟨a, ws, rfl, h2, h3⟩ := h1.dik_ w
    exact .inr (.inr ⟨a, ws, rfl, h2, by rw [← h3.length]; exact k _ H F (Go.refl w) .int⟩)
  · rename_i d1 _ _
    cases q : seqD d1 with
    | none =>
      rw [q] at e
      cases e
    | some xs =>
      rw [q] at e
      cases e
      obtain ⟨x, rfl, h1⟩ := R.one
      obtain ⟨a, ws, rfl, h2, h3⟩ := h1.seq_ w q
      exact .inl ⟨a, ws, rfl, h2, by rw [← h3.length]; exact k _ H F (Go.refl w) .int⟩
  · cases e
/-- sum, all, any, of lists -/
def oSum : List D → Option D
  | [d] => ((lstD d).bind intsD).map fun ns => .int ns.sum
  | _ => none
theorem lst_ints {F H : Hp} {v : V} {d : D} {ns : List Int} (w : WF g F H) (h : Rep1 g F H d v) (e : (lstD d).bind intsD = some ns) : ∃ a, v = .ref a ∧ SqL g.K H a (ns.map V.int) := by
  cases q : lstD d with
  | none =>
    rw [q] at e
    cases e
  | some xs =>
    rw [q] at e
    obtain ⟨a, ws, rfl, h2, h3⟩ := h.list_ w q
    rw [h3.ints e] at h2
    exact ⟨a, rfl, h2⟩
theorem lst_bls {F H : Hp} {v : V} {d : D} {ns : List Bool} (w : WF g F H) (h : Rep1 g F H d v) (e : (lstD d).bind blsD = some ns) : ∃ a, v = .ref a ∧ SqL g.K H a (ns.map V.bl) := by
  cases q : lstD d with
  | none =>
    rw [q] at e
    cases e
  | some xs =>
    rw [q] at e
    obtain ⟨a, ws, rfl, h2, h3⟩ := h.list_ w q
    rw [h3.bls e] at h2
    exact ⟨a, rfl, h2⟩
theorem oa_sum : OpA g (rSum g.K) oSum := fun ds vs d F H Q w R e k => by
  unfold oSum at e
  split at e
  · rename_i d1
    cases q : (lstD d1).bind intsD with
    | none =>
      rw [q] at e
      cases e
    | some ns =>
      rw [q] at e
      cases e
      obtain ⟨x, rfl, h1⟩ := R.one
      obtain ⟨a, rfl, h2⟩ := lst_ints w h1 q
      exact ⟨a, ns, rfl, h2, k _ H F (Go.refl w) .int⟩
  · cases e
def oAll : List D → Option D
  | [d] => ((lstD d).bind blsD).map fun bs => .bl (bs.all id)
  | _ => none
theorem oa_all : OpA g (rAll g.K) oAll := fun ds vs d F H Q w R e k => by
  unfold oAll at e
  split at e
  · rename_i d1
    cases q : (lstD d1).bind blsD with
    | none =>
      rw [q] at e
      cases e
    | some ns =>
      rw [q] at e
      cases e
      obtain ⟨x, rfl, h1⟩ := R.one
      obtain ⟨a, rfl, h2⟩ := lst_bls w h1 q
      exact ⟨a, ns, rfl, h2, k _ H F (Go.refl w) .bl⟩
  · cases e
def oAny : List D → Option D
  | [d] => ((lstD d).bind blsD).map fun bs => .bl (bs.any id)
  | _ => none
theorem oa_any : OpA g (rAny g.K) oAny := fun ds vs d F H Q w R e k => by
  unfold oAny at e
  split at e
  · rename_i d1
    cases q : (lstD d1).bind blsD with
    | none =>
      rw [q] at e
      cases e
    | some ns =>
      rw [q] at e
      cases e
      obtain ⟨x, rfl, h1⟩ := R.one
      obtain ⟨a, rfl, h2⟩ := lst_bls w h1 q
      exact ⟨a, ns, rfl, h2, k _ H F (Go.refl w) .bl⟩
  · cases e
/-- sorted, of ints -/
def insI (x : Int) : List Int → List Int
  | [] => [x]
  | y :: r => if x ≤ y then x :: y :: r else y :: insI x r
def srtI : List Int → List Int
  | [] => []
  | x :: r => insI x (srtI r)
theorem insI_perm (x : Int) : ∀ l : List Int, (insI x l).Perm (x :: l)
  | [] => .refl _
  | y :: r => by
    unfold insI
    split
    · exact .refl _
    · exact ((insI_perm x r).cons y).trans (.swap x y r)
theorem insI_srt (x : Int) : ∀ {l : List Int}, l.Pairwise (· ≤ ·) → (insI x l).Pairwise (· ≤ ·)
  | [], _ => by
    unfold insI
    simp
  | y :: r, h => by
    unfold insI
    rw [List.pairwise_cons] at h
    split
    · rename_i hx
      refine List.pairwise_cons.mpr ⟨fun z hz => ?_, List.pairwise_cons.mpr h⟩
      rcases List.mem_cons.mp hz with e | hz
      · rw [e]; exact hx
      · exact Int.le_trans hx (h.1 z hz)
    · rename_i hx
      refine List.pairwise_cons.mpr ⟨fun z hz => ?_, insI_srt x h.2⟩
      rcases List.mem_cons.mp ((insI_perm x r).mem_iff.mp hz) with e | hz
      · rw [e]; omega
      · exact h.1 z hz
theorem srtI_perm : ∀ l : List Int, (srtI l).Perm l
  | [] => .refl _
  | x :: r => by
    unfold srtI
    exact (insI_perm x _).trans ((srtI_perm r).cons x)
theorem srtI_srt : ∀ l : List Int, (srtI l).Pairwise (· ≤ ·)
  | [] => by
    unfold srtI
    exact .nil
  | x :: r => by
    unfold srtI
    exact insI_srt x (srtI_srt r)
theorem srtI_one {a b : List Int} (h : a.Perm b) (sa : a.Pairwise (· ≤ ·)) (sb : b.Pairwise (· ≤ ·)) : a = b := by
  exact h.eq_of_pairwise (fun x y _ _ h1 h2 => Int.le_antisymm h1 h2) sa sb
def oSorted : List D → Option D
  | [d] => ((lstD d).bind intsD).map fun ns => .lst ((srtI ns).map D.int)
  | _ => none
theorem of_sorted : OpF g (rSortedI g.K) oSorted := fun ds vs d F H Q w R e k => by
  unfold oSorted at e
  split at e
  · rename_i d1
    cases q : (lstD d1).bind intsD with
    | none =>
      rw [q] at e
      cases e
    | some ns =>
      rw [q] at e
      cases e
      obtain ⟨x, rfl, h1⟩ := R.one
      obtain ⟨a, rfl, h2⟩ := lst_ints w h1 q
      refine ⟨a, ns, rfl, h2, fun ns' p hp hs n => ?_⟩
      have e : ns' = srtI ns := srtI_one (hp.trans (srtI_perm ns).symm) hs (srtI_srt ns)
      subst e
      exact k p _ n (.lst (Reps.ofInts _))
  · cases e
/-- list(x), tuple(x) -/
def oList : List D → Option D
  | [d] => (seqD d).map .lst
  | _ => none
theorem of_list : OpF g (fun xs H Q => ∃ p ys, xs = [.ref p] ∧ (SqL g.K H p ys ∨ SqT g.K H p ys) ∧ ∀ l, H l = none → Q (.ref l) (upd H l (.lst ys))) oList := fun ds vs d F H Q w R e k => by
  unfold oList at e
  split at e
  · rename_i d1
    cases q : seqD d1 with
    | none =>
      rw [q] at e
      cases e
    | some xs =>
      rw [q] at e
      cases e
      obtain ⟨x, rfl, h1⟩ := R.one
      obtain ⟨a, ws, rfl, h2, h3⟩ := h1.seq_ w q
      exact ⟨a, ws, rfl, h2, fun l n => k l _ n (.lst h3)⟩
  · cases e
def oTuple : List D → Option D
  | [d] => (seqD d).map .tup
  | _ => none
theorem oa_tuple : OpA g (fun xs H Q => ∃ p ys, xs = [.ref p] ∧ ((SqL g.K H p ys ∧ ∀ l, H l = none → Q (.ref l) (upd H l (.tup ys))) ∨ (SqT g.K H p ys ∧ Q (.ref p) H))) oTuple := fun ds vs d F H Q w R e k => by
  unfold oTuple at e
  split at e
  · rename_i d1
    obtain ⟨x, rfl, h1⟩ := R.one
    have new : ∀ {xs : List D} {ws : List V}, Reps g F xs ws → d = .tup xs → ∀ l, H l = none → Q (.ref l) (upd H l (.tup ws)) := fun {xs ws} r ed l n => by
      subst ed
      have g2 := Go.frz w n (o := .tup ws) (fun ps z => by cases z)
      exact k _ _ _ g2 (.tup (SqT.of upd_same) (r.mono g2.gr.f))
    cases d1 with
    | tup xs =>
      cases e
      obtain ⟨a, ws, rfl, h2, h3, h4⟩ := h1.tup_ w
      exact ⟨a, ws, rfl, .inr ⟨h2, k _ H F (Go.refl w) (.tup h3 h4)⟩⟩
    | lst xs =>
      cases e
      obtain ⟨a, ws, rfl, h2, h3⟩ := h1.lst_ w
      exact ⟨a, ws, rfl, .inl ⟨SqL.of h2, new h3 rfl⟩⟩
    | ro xs =>
      cases e
      obtain ⟨a, ws, rfl, h2, h3⟩ := h1.ro_ w
      exact ⟨a, ws, rfl, .inl ⟨h2, new h3 rfl⟩⟩
    | _ => cases e
  · cases e
/-- abs, max, min of two, int -/
abbrev oAbs : List D → Option D := o1I fun i => .int (if i < 0 then -i else i)
theorem oa_abs : OpA g (fun xs H Q => ∃ i, xs = [.int i] ∧ Q (.int (if i < 0 then -i else i)) H) oAbs := fun ds vs d F H Q w R e k => by
  unfold oAbs o1I at e
  split at e
  · rename_i i
    cases e
    obtain ⟨x, rfl, h1⟩ := R.one
    exact ⟨i, by rw [h1.int_], k _ H F (Go.refl w) .int⟩
  · cases e
abbrev oMax2 : List D → Option D := o2I (fun _ _ => true) fun i j => .int (if j > i then j else i)
theorem oa_max2 : OpA g (fun xs H Q => ∃ i j, xs = [.int i, .int j] ∧ Q (.int (if j > i then j else i)) H) oMax2 := fun ds vs d F H Q w R e k => by
  unfold oMax2 o2I at e
  split at e
  · rename_i i j
    rw [if_pos rfl] at e
    cases e
    obtain ⟨x, y, rfl, h1, h2⟩ := R.two
    exact ⟨i, j, by rw [h1.int_, h2.int_], k _ H F (Go.refl w) .int⟩
  · cases e
abbrev oMin2 : List D → Option D := o2I (fun _ _ => true) fun i j => .int (if j < i then j else i)
theorem oa_min2 : OpA g (fun xs H Q => ∃ i j, xs = [.int i, .int j] ∧ Q (.int (if j < i then j else i)) H) oMin2 := fun ds vs d F H Q w R e k => by
  unfold oMin2 o2I at e
  split at e
  · rename_i i j
    rw [if_pos rfl] at e
    cases e
    obtain ⟨x, y, rfl, h1, h2⟩ := R.two
    exact ⟨i, j, by rw [h1.int_, h2.int_], k _ H F (Go.refl w) .int⟩
  · cases e
def oInt : List D → Option D
  | [.int i] => some (.int i)
  | [.bl k] => some (.int (if k then 1 else 0))
  | _ => none
theorem oa_int : OpA g (fun xs H Q => (∃ i, xs = [.int i] ∧ Q (.int i) H) ∨ ∃ k, xs = [.bl k] ∧ Q (.int (if k then 1 else 0)) H) oInt := fun ds vs d F H Q w R e k => by
  unfold oInt at e
  split at e
  · rename_i i
    cases e
    obtain ⟨x, rfl, h1⟩ := R.one
    exact .inl ⟨i, by rw [h1.int_], k _ H F (Go.refl w) .int⟩
  · rename_i b
    cases e
    obtain ⟨x, rfl, h1⟩ := R.one
    exact .inr ⟨b, by rw [h1.bl_], k _ H F (Go.refl w) .int⟩
  · cases e
/-- n.bit_length() -/
def oBits : List D → Option D := o1I fun i => .int (Builtin.Int.intBits i : Nat)
end
/-! ### subscripts -/
section
variable {g : Gc} {X : Cx} {c : Cn} {W : WX}
def atD (d : D) (i : Int) : Option D := match seqD d with
  | some xs => atI xs i
  | none => none
def oIx : List D → Option D
  | [.str z, .int i] => if z.length ≤ lim then (atI z.cps.toList i).map fun ch => .str ⟨#[ch]⟩ else none
  | [d, .int i] => atD d i
  | _ => none
theorem Reps.atI {F : Hp} {ds : List D} {vs : List V} {i : Int} {d : D} (r : Reps g F ds vs) (h : L2.atI ds i = some d) : ∃ v, L2.atI vs i = some v ∧ Rep g F d v := by
  unfold L2.atI at h ⊢
  rw [← r.length]
  cases q : ixN ds.length i with
  | none =>
    rw [q] at h
    cases h
  | some j =>
    rw [q] at h
    exact r.get h
theorem oa_ix : OpA g (r2 (rIx g.K)) oIx := fun ds vs d F H Q w R e k => by
  unfold oIx at e
  split at e
  · rename_i z i
    split at e
    · rename_i hz
      cases q : L2.atI z.cps.toList i with
      | none =>
        rw [q] at e
        cases e
      | some ch =>
        rw [q] at e
        cases e
        obtain ⟨x, y, rfl, h1, h2⟩ := R.two
        exact .inr (.inr ⟨z, i, ch, h1.str_, h2.int_, lim_line hz, q, k _ H F (Go.refl w) .str⟩)
    · cases e
  · rename_i d1 i _
    obtain ⟨x, y, rfl, h1, h2⟩ := R.two
    unfold atD at e
    cases q : seqD d1 with
    | none =>
      rw [q] at e
      cases e
    | some xs =>
      rw [q] at e
      obtain ⟨a, ws, rfl, h3, h4⟩ := h1.seq_ w q
      obtain ⟨v, h5, h6⟩ := h4.atI e
      rcases h3 with h3 | h3
      · exact .inl ⟨a, ws, i, v, rfl, h2.int_, h3, h5, k _ H F (Go.refl w) h6⟩
      · exact .inr (.inl ⟨a, ws, i, v, rfl, h2.int_, h3, h5, k _ H F (Go.refl w) h6⟩)
  · cases e
theorem re_ix {a b : Expr} {o1 o2 : Od} {pos : Pos} (hK : c.K = X.K) (ha : PE X a (o1.t c W)) (hb : PE X b (o2.t c W)) (hs : PlainIx b) : PE X (.Subscript a b pos) (tE c W (mOp oIx [o1, o2])) :=
  (pe_ix ix_seq ha hb hs).imp fun σ H Q q => tOp_ok (r := r2 (rIx X.K)) (by rw [← hK]; exact oa_ix) q
end
end PV

namespace PV
open PySem PySem.Spec PyProof.Rows L2
/-! ### the defs of the text -/
inductive Rf where
  | ok (d : D) | er (x : Xn) | no
def startE (n : Nat) (ds : List D) : En := ds.map .fz ++ List.replicate (n - ds.length) .no
def runD (n : Nat) (m : En → Rs) (ds : List D) : Rf := match m (startE n ds) with
  | .rt d _ => .ok d
  | .nx _ => .ok .non
  | .er x _ => .er x
  | _ => .no
/-- .. that is to return something new -/
def runF (n : Nat) (m : En → Rs) (ds : List D) : Rf := match m (startE n ds) with
  | .rt d _ => .ok d
  | .er x _ => .er x
  | _ => .no
/-- what is handed back: kept, or new -/
def rlQ (g : Gc) (fr : Bool) (H F' H' : Hp) (d : D) (v : V) : Prop := if fr = true then ∃ a o, v = .ref a ∧ H' a = some o ∧ F' a = none ∧ H a = none ∧ RepO g F' d o else Rep g F' d v
/-- a def's promise: the result is what f says -/
def spD (g : Gc) (fr : Bool) (n : Nat) (f : List D → Rf) : Sp := fun vs H Q E => vs.length = n ∧ ∃ F ds, WF g F H ∧ Reps g F ds vs ∧ (match f ds with
  | .ok d => ∀ v H' F', Go g F H F' H' → rlQ g fr H F' H' d v → Q v H'
  | .er x => ∀ cls dx H' F', Go g F H F' H' → RepX g F' x cls dx → E cls dx H'
  | .no => False)
section
variable {g : Gc} {F H : Hp}
theorem start_at {N : List Str} {ds : List D} {vs : List V} (r : Reps g F ds vs) (hl : vs.length ≤ N.length) : (startE N.length ds).length = (start N vs).length ∧ ∀ (i : Nat) (d : D), (startE N.length ds)[i]? = some (.fz d) → ∃ v, (start N vs)[i]? = some (some v) ∧ Rep g F d v := by
  unfold startE L2.start
  refine ⟨by simp [r.length], fun i d h => ?_⟩
  by_cases hi : i < ds.length
  · rw [List.getElem?_append_left (by simpa using hi), List.getElem?_map] at h
    cases q : ds[i]? with
    | none =>
      rw [q] at h
      cases h
    | some d' =>
      rw [q] at h
      cases h
      obtain ⟨v, h1, h2⟩ := r.get q
      refine ⟨v, ?_, h2⟩
      rw [List.getElem?_append_left (by rw [List.length_map, ← r.length]; exact hi), List.getElem?_map, h1]
      rfl
  · rw [List.getElem?_append_right (by simpa using hi), List.getElem?_replicate] at h
    split at h <;> cases h
theorem start_fz {n : Nat} {ds : List D} {i : Nat} {s : Sl} (h : (startE n ds)[i]? = some s) : s = .no ∨ ∃ d, s = .fz d := by
  unfold startE at h
  by_cases hi : i < ds.length
  · rw [List.getElem?_append_left (by simpa using hi), List.getElem?_map] at h
    cases q : ds[i]? with
    | none =>
      rw [q] at h
      cases h
    | some d' =>
      rw [q] at h
      cases h
      exact .inr ⟨_, rfl⟩
  · rw [List.getElem?_append_right (by simpa using hi), List.getElem?_replicate] at h
    split at h
    · cases h
      exact .inl rfl
    · cases h
theorem SR.start {fr : Bool} {N : List Str} {ds : List D} {vs : List V} (w : WF g F H) (r : Reps g F ds vs) (hl : vs.length ≤ N.length) : SR ⟨g, none, H, F, fr⟩ (startE N.length ds) (L2.start N vs) H F := by
  obtain ⟨h1, h2⟩ := start_at r hl
  refine ⟨Gr.refl w, fun _ h => h, fun a e => (by cases e), h1, h2, fun i d e => ?_, fun i d e => ?_, fun i j a ⟨_, d, e⟩ => ?_⟩
  · rcases start_fz e with z | ⟨_, z⟩ <;> cases z
  · rcases start_fz e with z | ⟨_, z⟩ <;> cases z
  · rcases e with e | e <;> (rcases start_fz e with z | ⟨_, z⟩ <;> cases z)
theorem SR.goes {fr : Bool} {ra : Option Addr} {env : En} {σ : L2.St} {F0 H0 : Hp} (S : SR ⟨g, ra, H0, F0, fr⟩ env σ H F) : Gr g ra F0 H0 F H ∧ ∀ b, H0 b ≠ none → H b ≠ none := ⟨S.gr, S.there⟩
end
section
variable {P : Program} {w : World} {K : PySem.W.Frag} {mg : Str → Option Value} {base : Heap}
/-- a def's wish -/
abbrev wD (E : XK) : WX := fun cls d _ H => E cls d H
theorem rlR_rep {c : Cn} {e : En} {σ : L2.St} {F H : Hp} {d : D} {v : V} (hf : c.fr = false) (h : rlR c e σ F H d v) : Rep c.toGc F d v := by
  unfold rlR at h
  rw [if_neg (by rw [hf]; exact Bool.false_ne_true)] at h
  exact h
theorem rlR_q {g : Gc} {fr : Bool} {ra : Option Addr} {H0 F0 : Hp} {e : En} {σ : L2.St} {F H : Hp} {d : D} {v : V} (h : rlR ⟨g, ra, H0, F0, fr⟩ e σ F H d v) : rlQ g fr H0 F H d v := by
  cases fr with
  | true =>
    unfold rlR at h
    rw [if_pos rfl] at h
    obtain ⟨a, o, h1, h2, h3, h4, _, _, h5⟩ := h
    unfold rlQ
    rw [if_pos rfl]
    exact ⟨a, o, h1, h2, h3, h4, h5⟩
  | false => 
    have := rlR_rep (c := ⟨g, ra, H0, F0, false⟩) rfl h
    unfold rlQ
    rw [if_neg Bool.false_ne_true]
    exact this
theorem rlQ_non {g : Gc} {H F H' : Hp} : rlQ g false H F H' .non .non := by
  unfold rlQ
  rw [if_neg Bool.false_ne_true]
  exact .non
/-- THE RULE for a def -/
theorem okD {g : Gc} {x qual : Str} {st : Stmt} {f : Addr} {fd : FuncData} {N ps : List Str} {k : Nat} {m : En → Rs} (Fn : Fun K x qual st f fd) (S : FnScope N ps (defScope st)) (hps : ps.length ≤ N.length)
    (hbody : ∀ (cdv : Value) (A : Around) (outer : List Env) (s : Shared) (H : Hp) (E : XK) (H0 F0 : Hp), Room k (A.deeper (envOfC qual (defScope st) s.heap.objs.size f cdv)) →
      PSs (cxOf (L2.CX P w) P w K mg base N qual (defScope st) f cdv A outer s H E) (defBody st) (tS ⟨g, none, H0, F0, false⟩ (wD E) m)) :
    FnOk P w K mg base (L2.CX P w) (k + 1) f fd ps (spD g false ps.length (runD N.length m)) := by
  refine Fn.okX S (fun vs H Q E h => h.1) (fun cdv A outer s H vs Q E hr h => ?_)
  obtain ⟨hl, F, ds, wf, r, h⟩ := h
  refine ⟨_, hbody cdv A outer s H E H F hr, startE N.length ds, F, SR.start wf r (by omega), ?_⟩
  unfold runD at h
  cases z : m (startE N.length ds) with
  | rt d e =>
    rw [z] at h
    exact fun v σ H' F' S' s' rv => h v H' F' ⟨S'.gr, S'.there⟩ (rlR_q rv)
  | nx e =>
    rw [z] at h
    exact fun σ H' F' S' s' => h .non H' F' ⟨S'.gr, S'.there⟩ rlQ_non
  | er x e =>
    rw [z] at h
    exact fun cls dx σ H' F' S' s' rx => h cls dx H' F' ⟨S'.gr, S'.there⟩ rx
  | bk e =>
    rw [z] at h
    exact h.elim
  | ct e =>
    rw [z] at h
    exact h.elim
  | no =>
    rw [z] at h
    exact h.elim
theorem okF {g : Gc} {x qual : Str} {st : Stmt} {f : Addr} {fd : FuncData} {N ps : List Str} {k : Nat} {m : En → Rs} (Fn : Fun K x qual st f fd) (S : FnScope N ps (defScope st)) (hps : ps.length ≤ N.length)
    (hbody : ∀ (cdv : Value) (A : Around) (outer : List Env) (s : Shared) (H : Hp) (E : XK) (H0 F0 : Hp), Room k (A.deeper (envOfC qual (defScope st) s.heap.objs.size f cdv)) →
      PSs (cxOf (L2.CX P w) P w K mg base N qual (defScope st) f cdv A outer s H E) (defBody st) (tS ⟨g, none, H0, F0, true⟩ (wD E) m)) :
    FnOk P w K mg base (L2.CX P w) (k + 1) f fd ps (spD g true ps.length (runF N.length m)) := by
  refine Fn.okX S (fun vs H Q E h => h.1) (fun cdv A outer s H vs Q E hr h => ?_)
  obtain ⟨hl, F, ds, wf, r, h⟩ := h
  refine ⟨_, hbody cdv A outer s H E H F hr, startE N.length ds, F, SR.start wf r (by omega), ?_⟩
  unfold runF at h
  cases z : m (startE N.length ds) with
  | rt d e =>
    rw [z] at h
    exact fun v σ H' F' S' s' rv => h v H' F' ⟨S'.gr, S'.there⟩ (rlR_q rv)
  | nx e =>
    rw [z] at h
    exact h.elim
  | er x e =>
    rw [z] at h
    exact fun cls dx σ H' F' S' s' rx => h cls dx H' F' ⟨S'.gr, S'.there⟩ rx
  | bk e =>
    rw [z] at h
    exact h.elim
  | ct e =>
    rw [z] at h
    exact h.elim
  | no =>
    rw [z] at h
    exact h.elim
end
/-! ### calls -/
theorem rlQ_rep {g : Gc} {H F H' : Hp} {d : D} {v : V} (h : rlQ g false H F H' d v) : Rep g F d v := by
  unfold rlQ at h
  rw [if_neg Bool.false_ne_true] at h
  exact h
theorem rlQ_fr {g : Gc} {H F H' : Hp} {d : D} {v : V} (h : rlQ g true H F H' d v) : ∃ a o, v = .ref a ∧ H' a = some o ∧ F a = none ∧ H a = none ∧ RepO g F d o := by
  unfold rlQ at h
  rw [if_pos rfl] at h
  exact h
def mCall (f : List D → Rf) (ms : List (En → R D)) : En → R D := fun env => (evS ms env).bind fun ds e => match f ds with
  | .ok d => .ok d e
  | .er x => .er x e
  | .no => .no
/-- own containers lent for the time of the call: the result holds no container -/
def mCallL (f : List D → Rf) (os : List Od) : En → R D := fun env => (evA os env).bind fun ds e => if ds.any lockO = true then .no else match f ds with
  | .ok d => if imm d = true then .ok d e else .no
  | .er x => if x.fs.isNone = true then .er x e else .no
  | .no => .no
section
variable {c : Cn} {W : WX} {X : Cx} {k : Nat} {f : Addr} {fd : FuncData} {ps : List Str} {n : Nat} {fn : List D → Rf} {x : Str} {p pos : Pos} {e : Expr} {es : List Expr} {ms : List (En → R D)} {os : List Od}
theorem call_ok {σ : L2.St} {H : Hp} {Q : VK} (hn : ms.length = n) (q : tE c W (mCall fn ms) σ H Q) : tMs c W ms σ H fun vs H1 => spD c.toGc false n fn vs H1 Q (WE W σ) := by
  obtain ⟨env, F, S, q⟩ := q
  refine tMsA ms S q fun ds e vs H1 F1 S1 s1 r1 hl h1 => ⟨by rw [r1.length_eq, hl, hn], F1, ds, S1.wf, r1, ?_⟩
  cases z : fn ds with
  | ok d =>
    rw [z] at h1
    exact fun v H' F' g' rv => h1 v H' F' (S1.go g') g'.gr.f (rlQ_rep rv)
  | er x =>
    rw [z] at h1
    exact fun cls dx H' F' g' rx => h1 cls dx H' F' (S1.go g') g'.gr.f rx
  | no =>
    rw [z] at h1
    exact h1
theorem re_call (Fo : FnOk X.prog X.w X.K X.mg X.base (L2.CX X.prog X.w) k f fd ps (spD c.toGc false n fn)) (hr : Room k X.A) (hg : Gl X x) (hm : X.mg x = some (.ref f)) (hk : PySem.W.keepIn X.K (.ref f) = true) (hb : Binds X.K fd ps []) (tk : Takes X W)
    (ha : PA X (e :: es) (tMs c W ms)) (hn : ms.length = n := by rfl) (hdb : (x == ("__debug__" : Str)) = false := by decide) (he : starEach (e :: es) X.env = (false, eval e X.env) :: starEach es X.env := by rfl) (hpl : (backTo pos (starEach es X.env)).any (·.1) = false := by rfl) :
    PE X (.Call (.Name x p) (e :: es) [] pos) (tE c W (mCall fn ms)) :=
  (pe_callS (E := WE W) Fo hr hg hm hk hb (fun σ => passAt tk σ) ha hdb he hpl).imp fun σ H Q q => call_ok hn q
theorem callF_ok {σ : L2.St} {H : Hp} {Q : VK} (hn : ms.length = n) (q : tF c W (mCall fn ms) σ H Q) : tMs c W ms σ H fun vs H1 => spD c.toGc true n fn vs H1 Q (WE W σ) := by
  obtain ⟨env, F, S, q⟩ := q
  refine tMsA ms S q fun ds e vs H1 F1 S1 s1 r1 hl h1 => ⟨by rw [r1.length_eq, hl, hn], F1, ds, S1.wf, r1, ?_⟩
  cases z : fn ds with
  | ok d =>
    rw [z] at h1
    intro v H' F' g' rv
    obtain ⟨a, o, ev, a1, a2, a3, a4⟩ := rlQ_fr rv
    exact h1 v H' F' (S1.go g') g'.gr.f ⟨a, o, ev, a1, a2, S1.h0 a3, fun z => S1.rtH a z a3, fun i h => (S1.own_there h).1 a3, a4⟩
  | er x =>
    rw [z] at h1
    exact fun cls dx H' F' g' rx => h1 cls dx H' F' (S1.go g') g'.gr.f rx
  | no =>
    rw [z] at h1
    exact h1
theorem re_callF (Fo : FnOk X.prog X.w X.K X.mg X.base (L2.CX X.prog X.w) k f fd ps (spD c.toGc true n fn)) (hr : Room k X.A) (hg : Gl X x) (hm : X.mg x = some (.ref f)) (hk : PySem.W.keepIn X.K (.ref f) = true) (hb : Binds X.K fd ps []) (tk : Takes X W)
    (ha : PA X (e :: es) (tMs c W ms)) (hn : ms.length = n := by rfl) (hdb : (x == ("__debug__" : Str)) = false := by decide) (he : starEach (e :: es) X.env = (false, eval e X.env) :: starEach es X.env := by rfl) (hpl : (backTo pos (starEach es X.env)).any (·.1) = false := by rfl) :
    PE X (.Call (.Name x p) (e :: es) [] pos) (tF c W (mCall fn ms)) :=
  (pe_callS (E := WE W) Fo hr hg hm hk hb (fun σ => passAt tk σ) ha hdb he hpl).imp fun σ H Q q => callF_ok hn q
theorem re_call0 (Fo : FnOk X.prog X.w X.K X.mg X.base (L2.CX X.prog X.w) k f fd ps (spD c.toGc false 0 fn)) (hr : Room k X.A) (hg : Gl X x) (hm : X.mg x = some (.ref f)) (hk : PySem.W.keepIn X.K (.ref f) = true) (hb : Binds X.K fd ps []) (tk : Takes X W)
    (hdb : (x == ("__debug__" : Str)) = false := by decide) : PE X (.Call (.Name x p) [] [] pos) (tE c W (mCall fn [])) := by
  refine ⟨fun pins s σ H Q I h => ?_⟩
  refine wpAny_Call_Name_kw (ld_glob I hg hm ?_ hdb)
  exact PySem.W.callWith_K0 I.kIn hk (run_fnS (E := WE W) (us := []) (vs := []) Fo hr hb (passAt tk σ) I .nil (call_ok (ms := []) rfl h))
/-- all that is tracked but the tables, frozen -/
def noTbl (H : Hp) : Hp := fun b => match H b with
  | some (.tbl _) => none
  | o => o
theorem noTbl_some {H : Hp} {b : Addr} {o : HO} (h : H b = some o) (n : ∀ ps, o ≠ .tbl ps) : noTbl H b = some o := by
  unfold noTbl
  rw [h]
  cases o <;> first | rfl | exact absurd rfl (n _)
theorem noTbl_of {H : Hp} {b : Addr} {o : HO} (h : noTbl H b = some o) : H b = some o ∧ ∀ ps, o ≠ .tbl ps := by
  unfold noTbl at h
  cases q : H b with
  | none =>
    rw [q] at h
    cases h
  | some u =>
    rw [q] at h
    cases u <;> first | (cases h; exact ⟨rfl, fun ps z => by cases z⟩) | cases h
theorem WF.all {g : Gc} {F H : Hp} (w : WF g F H) : WF g (noTbl H) H ∧ Same F (noTbl H) :=
  ⟨⟨fun b o e => (noTbl_of e).1, fun b o e t => noTbl_some e (fun ps z => by subst z; cases t), fun b ps e => (noTbl_of e).2 ps rfl, w.tab⟩, fun b o e => noTbl_some (w.sub _ _ e) (fun ps z => by subst z; exact w.nt _ _ e)⟩
theorem Rep1s.all {g : Gc} {F H : Hp} (w : WF g F H) : ∀ {ds : List D} {vs : List V}, Rep1s g F H ds vs → ds.any lockO = false → Reps g (noTbl H) ds vs
  | _, _, .nil, _ => .nil
  | _, _, .cons h t, hl => by
    rw [List.any_cons, Bool.or_eq_false_iff] at hl
    refine .cons ?_ (Rep1s.all w t hl.2)
    rcases h with h | ⟨e, h1, h⟩
    · exact h.mono w.all.2
    · subst e
      exact (h.mono w.all.2).rep hl.1 (noTbl_some h1 h.ntbl)
theorem Rep1s.length {g : Gc} {F H : Hp} : ∀ {ds : List D} {vs : List V}, Rep1s g F H ds vs → vs.length = ds.length
  | _, _, .nil => rfl
  | _, _, .cons _ t => by simp [Rep1s.length t]
theorem callL_ok {σ : L2.St} {H : Hp} {Q : VK} (hn : ∀ env e ds, evA os env = .ok ds e → ds.length = n) (q : tE c W (mCallL fn os) σ H Q) : tOds c W os σ H fun vs H1 => spD c.toGc false n fn vs H1 Q (WE W σ) := by
  obtain ⟨env, F, S, q⟩ := q
  have q2 : Okp c W σ F (rlE c) Q ((evA os env).bind fun ds e => if ds.length = n then (if ds.any lockO = true then .no else match fn ds with
    | .ok d => if imm d = true then .ok d e else .no
    | .er x => if x.fs.isNone = true then .er x e else .no
    | .no => .no) else .no) := by
    cases z : evA os env with
    | ok ds e =>
      unfold mCallL at q
      rw [z] at q
      show Okp c W σ F (rlE c) Q (if ds.length = n then _ else _)
      rw [if_pos (hn env e ds z)]
      exact q
    | er x e =>
      unfold mCallL at q
      rw [z] at q
      exact q
    | no =>
      unfold mCallL at q
      rw [z] at q
      exact q
  refine tOdsA os S q2 fun ds e vs H1 F1 S1 s1 r1 h1 => ?_
  split at h1
  · rename_i hl
    have hlk : ds.any lockO = false := by
      cases q : ds.any lockO with
      | false => rfl
      | true =>
        rw [q, if_pos rfl] at h1
        exact h1.elim
    rw [hlk, if_neg Bool.false_ne_true] at h1
    refine ⟨by rw [r1.length, hl], noTbl H1, ds, S1.wf.all.1, r1.all S1.wf hlk, ?_⟩
    -- the frozen part of ours behind the call
    have back : ∀ {H' F' : Hp}, Go c.toGc (noTbl H1) H1 F' H' → ∃ F'', Go c.toGc F1 H1 F'' H' ∧ (∀ b, H1 b = none → F'' b = F' b) ∧ ∀ a u, F' a = some u → tupy u = true → F'' a = some u := fun {H' F'} g' => by
      obtain ⟨fu, hfu⟩ : ∃ fu : Hp, ∀ b, fu b = if (H1 b).isSome = true then F1 b else F' b := ⟨fun b => if (H1 b).isSome = true then F1 b else F' b, fun _ => rfl⟩
      have at1 : ∀ b, H1 b ≠ none → fu b = F1 b := fun b hb => by
        rw [hfu, if_pos]
        cases q : H1 b with
        | none => exact absurd q hb
        | some u => rfl
      have at2 : ∀ b, H1 b = none → fu b = F' b := fun b hb => by
        rw [hfu, hb, if_neg]
        simp
      have tp : ∀ a u, F' a = some u → tupy u = true → fu a = some u := fun a u e t => by
        by_cases hb : H1 a = none
        · rw [at2 a hb]; exact e
        · rw [at1 a hb]
          have e2 := (g'.gr.new a hb).symm.trans e
          exact S1.wf.tup a u (noTbl_of e2).1 t
      refine ⟨fu, ⟨⟨⟨fun b u e => ?_, fun b u e t => ?_, fun b ps e => ?_, g'.gr.wf.tab⟩, fun b u e => ?_, g'.gr.h, at1⟩, g'.th⟩, at2, tp⟩
      · by_cases hb : H1 b = none
        · rw [at2 b hb] at e
          exact g'.gr.wf.sub _ _ e
        · rw [at1 b hb] at e
          exact g'.gr.h b u (S1.wf.sub _ _ e) (fun ps z => by subst z; exact S1.wf.nt _ _ e) (by simp)
      · exact tp b u (g'.gr.wf.tup b u e t) t
      · by_cases hb : H1 b = none
        · rw [at2 b hb] at e
          exact g'.gr.wf.nt _ _ e
        · rw [at1 b hb] at e
          exact S1.wf.nt _ _ e
      · rw [at1 b (by rw [S1.wf.sub _ _ e]; simp)]
        exact e
    cases z : fn ds with
    | ok d =>
      rw [z] at h1
      intro v H' F' g' rv
      obtain ⟨F'', g'', _, tp⟩ := back g'
      have rv := rlQ_rep rv
      have h1' : Okp c W σ F1 (rlE c) Q (if imm d = true then .ok d e else .no) := h1
      split at h1'
      · rename_i hi
        exact h1' v H' F'' (S1.go g'') g''.gr.f (rv.imm tp hi)
      · exact h1'.elim
    | er y =>
      rw [z] at h1
      intro cls dx H' F' g' rx
      obtain ⟨F'', g'', nw, tp⟩ := back g'
      have h1' : Okp c W σ F1 (rlE c) Q (if y.fs.isNone = true then .er y e else .no) := h1
      split at h1'
      · rename_i hi
        refine h1' cls dx H' F'' (S1.go g'') g''.gr.f ?_
        obtain ⟨C, e1, e2, e3⟩ := rx
        refine ⟨C, e1, e2, ?_⟩
        cases q : y.fs with
        | none =>
          rw [q] at e3
          exact e3
        | some fs =>
          rw [q] at hi
          cases hi
      · exact h1'.elim
    | no =>
      rw [z] at h1
      exact h1
  · exact h1.elim
theorem evA_len : ∀ (os : List Od) {env e : En} {ds : List D}, evA os env = .ok ds e → ds.length = os.length := by
  have fl : ∀ (ps : List Pd) (e : En) (ds : List D), fill ps e = some ds → ds.length = ps.length := by
    intro ps
    induction ps with
    | nil =>
      intro e ds h
      cases h
      rfl
    | cons p r ih =>
      intro e ds h
      cases p with
      | inl d =>
        unfold fill at h
        cases q : fill r e with
        | none =>
          rw [q] at h
          cases h
        | some ds' =>
          rw [q] at h
          cases h
          simp [ih e ds' q]
      | inr i =>
        unfold fill at h
        cases z : val e i with
        | none =>
          rw [z] at h
          cases h
        | some d =>
          rw [z] at h
          cases q : fill r e with
          | none =>
            rw [q] at h
            cases h
          | some ds' =>
            rw [q] at h
            cases h
            simp [ih e ds' q]
  have ev : ∀ (os : List Od) (env e : En) (ps : List Pd), evP os env = .ok ps e → ps.length = os.length := by
    intro os
    induction os with
    | nil =>
      intro env e ps h
      cases h
      rfl
    | cons o r ih =>
      intro env e ps h
      cases o with
      | m f =>
        have h' : ((f env).bind fun d e => (evP r e).bind fun ps e' => R.ok (.inl d :: ps) e') = .ok ps e := h
        cases q : f env with
        | ok d e1 =>
          rw [q] at h'
          have h2 : ((evP r e1).bind fun ps e' => R.ok (Sum.inl d :: ps) e') = .ok ps e := h'
          cases q2 : evP r e1 with
          | ok ps' e2 =>
            rw [q2] at h2
            cases h2
            simp [ih _ _ _ q2]
          | er x e2 =>
            rw [q2] at h2
            cases h2
          | no =>
            rw [q2] at h2
            cases h2
        | er x e1 =>
          rw [q] at h'
          cases h'
        | no =>
          rw [q] at h'
          cases h'
      | s i =>
        have h' : (match val env i with | some _ => (evP r env).bind fun ps e' => R.ok (.inr i :: ps) e' | none => R.no : R (List Pd)) = .ok ps e := h
        cases z : val env i with
        | none =>
          rw [z] at h'
          cases h'
        | some d =>
          rw [z] at h'
          have h2 : ((evP r env).bind fun ps e' => R.ok (Sum.inr i :: ps) e') = .ok ps e := h'
          cases q2 : evP r env with
          | ok ps' e2 =>
            rw [q2] at h2
            cases h2
            simp [ih _ _ _ q2]
          | er x e2 =>
            rw [q2] at h2
            cases h2
          | no =>
            rw [q2] at h2
            cases h2
  intro os env e ds h
  unfold evA at h
  cases q : evP os env with
  | ok ps e1 =>
    rw [q] at h
    have h2 : (match fill ps e1 with | some ds => R.ok ds e1 | none => R.no) = .ok ds e := h
    cases q2 : fill ps e1 with
    | none =>
      rw [q2] at h2
      cases h2
    | some ds' =>
      rw [q2] at h2
      cases h2
      rw [fl _ _ _ q2, ev _ _ _ _ q]
  | er x e1 =>
    rw [q] at h
    cases h
  | no =>
    rw [q] at h
    cases h
theorem re_callL (Fo : FnOk X.prog X.w X.K X.mg X.base (L2.CX X.prog X.w) k f fd ps (spD c.toGc false n fn)) (hr : Room k X.A) (hg : Gl X x) (hm : X.mg x = some (.ref f)) (hk : PySem.W.keepIn X.K (.ref f) = true) (hb : Binds X.K fd ps []) (tk : Takes X W)
    (ha : PA X (e :: es) (tOds c W os)) (hn : os.length = n := by rfl) (hdb : (x == ("__debug__" : Str)) = false := by decide) (he : starEach (e :: es) X.env = (false, eval e X.env) :: starEach es X.env := by rfl) (hpl : (backTo pos (starEach es X.env)).any (·.1) = false := by rfl) :
    PE X (.Call (.Name x p) (e :: es) [] pos) (tE c W (mCallL fn os)) :=
  (pe_callS (E := WE W) Fo hr hg hm hk hb (fun σ => passAt tk σ) ha hdb he hpl).imp fun σ H Q q => callL_ok (fun env e ds z => (evA_len os z).trans hn) q
end
/-! ### a def that changes what it is handed first -/
inductive Rr where
  | ok (d d0 : D) | no
def rf0 (e : En) : Option D := match (e[0]? : Option Sl) with
  | some (.rf d) => some d
  | _ => none
def runR (n : Nat) (m : En → Rs) (d0 : D) (ds : List D) : Rr := match m (.rf d0 :: startE n ds) with
  | .rt d e => (match rf0 e with
    | some d0' => .ok d d0'
    | none => .no)
  | .nx e => (match rf0 e with
    | some d0' => .ok .non d0'
    | none => .no)
  | _ => .no
def runRF (n : Nat) (m : En → Rs) (d0 : D) (ds : List D) : Rr := match m (.rf d0 :: startE n ds) with
  | .rt d e => (match rf0 e with
    | some d0' => .ok d d0'
    | none => .no)
  | _ => .no
def spR (g : Gc) (fr : Bool) (n : Nat) (f : D → List D → Rr) : Sp := fun vs H Q E => vs.length = n + 1 ∧ ∃ F a d0 o ds vs', vs = .ref a :: vs' ∧ WF g F H ∧ H a = some o ∧ F a = none ∧ RepO g F d0 o ∧ Reps g F ds vs' ∧ (match f d0 ds with
  | .ok d d0' => ∀ v H' F' o', Gr g (some a) F H F' H' → (∀ b, H b ≠ none → H' b ≠ none) → H' a = some o' → F' a = none → RepO g F' d0' o' → rlQ g fr H F' H' d v → Q v H'
  | .no => False)
section
variable {P : Program} {w : World} {K : PySem.W.Frag} {mg : Str → Option Value} {base : Heap}
theorem okR {g : Gc} {x qual : Str} {st : Stmt} {f : Addr} {fd : FuncData} {y : Str} {N ps : List Str} {k n : Nat} {m : En → Rs} (Fn : Fun K x qual st f fd) (S : FnScope (y :: N) ps (defScope st)) (hn : ps.length = n + 1) (hps : n ≤ N.length)
    (hbody : ∀ (cdv : Value) (A : Around) (outer : List Env) (s : Shared) (H : Hp) (E : XK) (ra : Option Addr) (H0 F0 : Hp), Room k (A.deeper (envOfC qual (defScope st) s.heap.objs.size f cdv)) →
      PSs (cxOf (L2.CX P w) P w K mg base (y :: N) qual (defScope st) f cdv A outer s H E) (defBody st) (tS ⟨g, ra, H0, F0, false⟩ (wD E) m)) :
    FnOk P w K mg base (L2.CX P w) (k + 1) f fd ps (spR g false n (runR N.length m)) := by
  refine Fn.okX S (fun vs H Q E h => by rw [h.1, hn]) (fun cdv A outer s H vs Q E hr h => ?_)
  obtain ⟨hl, F, a, d0, o, ds, vs', rfl, wf, ha, fa, ro, r, h⟩ := h
  have hl' : vs'.length = n := by simpa using hl
  obtain ⟨h1, h2⟩ := start_at r (N := N) (by omega)
  have hs : L2.start (y :: N) (.ref a :: vs') = some (.ref a) :: L2.start N vs' := by
    unfold L2.start
    simp
  have S0 : SR ⟨g, some a, H, F, false⟩ (.rf d0 :: startE N.length ds) (L2.start (y :: N) (.ref a :: vs')) H F := by
    rw [hs]
    have no : ∀ (i : Nat) (d : D), (startE N.length ds)[i]? = some (.ow d) ∨ (startE N.length ds)[i]? = some (.rf d) → False := fun i d e => by
      rcases e with e | e <;> (rcases start_fz e with z | ⟨_, z⟩ <;> cases z)
    refine ⟨⟨wf, Same.refl _, fun b u e _ _ => e, fun _ _ => rfl⟩, fun _ h => h, fun b e => ?_, by simp [h1], fun i d e => ?_, fun i d e => ?_, fun i d e => ?_, fun i j b ⟨_, d, e⟩ ⟨_, d', e'⟩ => ?_⟩
    · cases e
      show H _ ≠ none
      rw [ha]
      simp
    · cases i with
      | zero => cases e
      | succ i => exact h2 i d e
    · cases i with
      | zero => cases e
      | succ i => exact (no i d (.inl e)).elim
    · cases i with
      | zero =>
        cases e
        exact ⟨a, o, rfl, rfl, ha, fa, ro⟩
      | succ i => exact (no i d (.inr e)).elim
    · cases i with
      | zero =>
        cases j with
        | zero => rfl
        | succ j => exact (no j d' e').elim
      | succ i => exact (no i d e).elim
  refine ⟨_, hbody cdv A outer s H E (some a) H F hr, _, F, S0, ?_⟩
  have fin : ∀ {e : En} {σ : L2.St} {H' F' : Hp} {d0' : D}, SR ⟨g, some a, H, F, false⟩ e σ H' F' → rf0 e = some d0' → ∃ o', H' a = some o' ∧ F' a = none ∧ RepO g F' d0' o' := fun {e σ H' F' d0'} S' z => by
    unfold rf0 at z
    split at z
    · rename_i d' z'
      cases z
      obtain ⟨b, o', e0, e1, e2, e3, e4⟩ := S'.rf 0 _ z'
      cases e0
      exact ⟨o', e2, e3, e4⟩
    · cases z
  unfold runR at h
  cases z : m (.rf d0 :: startE N.length ds) with
  | rt d e =>
    rw [z] at h
    cases z2 : rf0 e with
    | none =>
      have h' : (match (match rf0 e with | some d0' => Rr.ok d d0' | none => .no) with
        | .ok d d0' => ∀ v H' F' o', Gr g (some a) F H F' H' → (∀ b, H b ≠ none → H' b ≠ none) → H' a = some o' → F' a = none → RepO g F' d0' o' → rlQ g false H F' H' d v → Q v H'
        | .no => False) := h
      rw [z2] at h'
      exact h'.elim
    | some d0' =>
      have h' : (match (match rf0 e with | some d0' => Rr.ok d d0' | none => .no) with
        | .ok d d0' => ∀ v H' F' o', Gr g (some a) F H F' H' → (∀ b, H b ≠ none → H' b ≠ none) → H' a = some o' → F' a = none → RepO g F' d0' o' → rlQ g false H F' H' d v → Q v H'
        | .no => False) := h
      rw [z2] at h'
      intro v σ H' F' S' s' rv
      obtain ⟨o', g1, g2, g3⟩ := fin S' z2
      exact h' v H' F' o' S'.gr S'.there g1 g2 g3 (rlR_q rv)
  | nx e =>
    rw [z] at h
    cases z2 : rf0 e with
    | none =>
      have h' : (match (match rf0 e with | some d0' => Rr.ok .non d0' | none => .no) with
        | .ok d d0' => ∀ v H' F' o', Gr g (some a) F H F' H' → (∀ b, H b ≠ none → H' b ≠ none) → H' a = some o' → F' a = none → RepO g F' d0' o' → rlQ g false H F' H' d v → Q v H'
        | .no => False) := h
      rw [z2] at h'
      exact h'.elim
    | some d0' =>
      have h' : (match (match rf0 e with | some d0' => Rr.ok .non d0' | none => .no) with
        | .ok d d0' => ∀ v H' F' o', Gr g (some a) F H F' H' → (∀ b, H b ≠ none → H' b ≠ none) → H' a = some o' → F' a = none → RepO g F' d0' o' → rlQ g false H F' H' d v → Q v H'
        | .no => False) := h
      rw [z2] at h'
      intro σ H' F' S' s'
      obtain ⟨o', g1, g2, g3⟩ := fin S' z2
      exact h' .non H' F' o' S'.gr S'.there g1 g2 g3 rlQ_non
  | er x e =>
    rw [z] at h
    exact h.elim
  | bk e =>
    rw [z] at h
    exact h.elim
  | ct e =>
    rw [z] at h
    exact h.elim
  | no =>
    rw [z] at h
    exact h.elim
theorem okRF {g : Gc} {x qual : Str} {st : Stmt} {f : Addr} {fd : FuncData} {y : Str} {N ps : List Str} {k n : Nat} {m : En → Rs} (Fn : Fun K x qual st f fd) (S : FnScope (y :: N) ps (defScope st)) (hn : ps.length = n + 1) (hps : n ≤ N.length)
    (hbody : ∀ (cdv : Value) (A : Around) (outer : List Env) (s : Shared) (H : Hp) (E : XK) (ra : Option Addr) (H0 F0 : Hp), Room k (A.deeper (envOfC qual (defScope st) s.heap.objs.size f cdv)) →
      PSs (cxOf (L2.CX P w) P w K mg base (y :: N) qual (defScope st) f cdv A outer s H E) (defBody st) (tS ⟨g, ra, H0, F0, true⟩ (wD E) m)) :
    FnOk P w K mg base (L2.CX P w) (k + 1) f fd ps (spR g true n (runRF N.length m)) := by
  refine Fn.okX S (fun vs H Q E h => by rw [h.1, hn]) (fun cdv A outer s H vs Q E hr h => ?_)
  obtain ⟨hl, F, a, d0, o, ds, vs', rfl, wf, ha, fa, ro, r, h⟩ := h
  have hl' : vs'.length = n := by simpa using hl
  obtain ⟨h1, h2⟩ := start_at r (N := N) (by omega)
  have hs : L2.start (y :: N) (.ref a :: vs') = some (.ref a) :: L2.start N vs' := by
    unfold L2.start
    simp
  have S0 : SR ⟨g, some a, H, F, true⟩ (.rf d0 :: startE N.length ds) (L2.start (y :: N) (.ref a :: vs')) H F := by
    rw [hs]
    have no : ∀ (i : Nat) (d : D), (startE N.length ds)[i]? = some (.ow d) ∨ (startE N.length ds)[i]? = some (.rf d) → False := fun i d e => by
      rcases e with e | e <;> (rcases start_fz e with z | ⟨_, z⟩ <;> cases z)
    refine ⟨⟨wf, Same.refl _, fun b u e _ _ => e, fun _ _ => rfl⟩, fun _ h => h, fun b e => ?_, by simp [h1], fun i d e => ?_, fun i d e => ?_, fun i d e => ?_, fun i j b ⟨_, d, e⟩ ⟨_, d', e'⟩ => ?_⟩
    · cases e
      show H _ ≠ none
      rw [ha]
      simp
    · cases i with
      | zero => cases e
      | succ i => exact h2 i d e
    · cases i with
      | zero => cases e
      | succ i => exact (no i d (.inl e)).elim
    · cases i with
      | zero =>
        cases e
        exact ⟨a, o, rfl, rfl, ha, fa, ro⟩
      | succ i => exact (no i d (.inr e)).elim
    · cases i with
      | zero =>
        cases j with
        | zero => rfl
        | succ j => exact (no j d' e').elim
      | succ i => exact (no i d e).elim
  refine ⟨_, hbody cdv A outer s H E (some a) H F hr, _, F, S0, ?_⟩
  have fin : ∀ {e : En} {σ : L2.St} {H' F' : Hp} {d0' : D}, SR ⟨g, some a, H, F, true⟩ e σ H' F' → rf0 e = some d0' → ∃ o', H' a = some o' ∧ F' a = none ∧ RepO g F' d0' o' := fun {e σ H' F' d0'} S' z => by
    unfold rf0 at z
    split at z
    · rename_i d' z'
      cases z
      obtain ⟨b, o', e0, e1, e2, e3, e4⟩ := S'.rf 0 _ z'
      cases e0
      exact ⟨o', e2, e3, e4⟩
    · cases z
  unfold runRF at h
  cases z : m (.rf d0 :: startE N.length ds) with
  | rt d e =>
    rw [z] at h
    cases z2 : rf0 e with
    | none =>
      have h' : (match (match rf0 e with | some d0' => Rr.ok d d0' | none => .no) with
        | .ok d d0' => ∀ v H' F' o', Gr g (some a) F H F' H' → (∀ b, H b ≠ none → H' b ≠ none) → H' a = some o' → F' a = none → RepO g F' d0' o' → rlQ g true H F' H' d v → Q v H'
        | .no => False) := h
      rw [z2] at h'
      exact h'.elim
    | some d0' =>
      have h' : (match (match rf0 e with | some d0' => Rr.ok d d0' | none => .no) with
        | .ok d d0' => ∀ v H' F' o', Gr g (some a) F H F' H' → (∀ b, H b ≠ none → H' b ≠ none) → H' a = some o' → F' a = none → RepO g F' d0' o' → rlQ g true H F' H' d v → Q v H'
        | .no => False) := h
      rw [z2] at h'
      intro v σ H' F' S' s' rv
      obtain ⟨o', g1, g2, g3⟩ := fin S' z2
      exact h' v H' F' o' S'.gr S'.there g1 g2 g3 (rlR_q rv)
  | nx e =>
    rw [z] at h
    exact h.elim
  | er x e =>
    rw [z] at h
    exact h.elim
  | bk e =>
    rw [z] at h
    exact h.elim
  | ct e =>
    rw [z] at h
    exact h.elim
  | no =>
    rw [z] at h
    exact h.elim
end
/-- f(x, ..): x an own container that f changes -/
def ownV (e : En) (i : Nat) : Option D := match e[i]? with
  | some (.ow d) => some d
  | some (.rf d) => some d
  | _ => none
def setV (e : En) (i : Nat) (d : D) : En := match e[i]? with
  | some (.ow _) => e.set i (.ow d)
  | some (.rf _) => e.set i (.rf d)
  | _ => e
def mCallR (f : D → List D → Rr) (i : Nat) (ms : List (En → R D)) : En → R D := fun env => match val env i with
  | none => .no
  | some _ => (evS ms env).bind fun ds e => match ownV e i with
    | some d0 => (match f d0 ds with
      | .ok d d0' => .ok d (setV e i d0')
      | .no => .no)
    | none => .no
section
variable {c : Cn} {W : WX} {X : Cx} {env : En} {σ : L2.St} {H F : Hp}
theorem SR.own_at (S : SR c env σ H F) {i : Nat} {d : D} (h : ownV env i = some d) : ∃ a o, Own env σ i a ∧ H a = some o ∧ F a = none ∧ RepO c.toGc F d o ∧ (c.H0 a = none ∨ c.ra = some a) := by
  unfold ownV at h
  split at h
  · rename_i d' z
    cases h
    obtain ⟨a, o, h1, h2, h3, h4, h5⟩ := S.ow i _ z
    exact ⟨a, o, ⟨h1, _, .inl z⟩, h2, h3, h5, .inl h4⟩
  · rename_i d' z
    cases h
    obtain ⟨a, o, h0, h1, h2, h3, h5⟩ := S.rf i _ z
    exact ⟨a, o, ⟨h1, _, .inr z⟩, h2, h3, h5, .inr h0⟩
  · cases h
theorem own_setV {env : En} {σ : L2.St} {i j : Nat} {d0' : D} {b : Addr} (h : Own (setV env i d0') σ j b) : Own env σ j b := by
  obtain ⟨g1, d, g2⟩ := h
  refine ⟨g1, ?_⟩
  unfold setV at g2
  split at g2
  · rename_i d' z
    by_cases hj : j = i
    · subst hj
      exact ⟨d', .inl z⟩
    · rw [List.getElem?_set_ne (Ne.symm hj)] at g2
      exact ⟨d, g2⟩
  · rename_i d' z
    by_cases hj : j = i
    · subst hj
      exact ⟨d', .inr z⟩
    · rw [List.getElem?_set_ne (Ne.symm hj)] at g2
      exact ⟨d, g2⟩
  · exact ⟨d, g2⟩
/-- an own container has changed, all else has grown -/
theorem SR.chg (S : SR c env σ H F) {i : Nat} {a : Addr} {d0 d0' : D} {H' F' : Hp} {o' : HO} (h : ownV env i = some d0) (ow : Own env σ i a) (gr : Gr c.toGc (some a) F H F' H') (th : ∀ b, H b ≠ none → H' b ≠ none) (h1 : H' a = some o') (h2 : F' a = none) (h3 : RepO c.toGc F' d0' o') :
    SR c (setV env i d0') σ H' F' := by
  have hi : i < env.length := by
    unfold ownV at h
    by_cases hi : i < env.length
    · exact hi
    · rw [List.getElem?_eq_none (by omega)] at h
      cases h
  have oth : ∀ j, j ≠ i → (setV env i d0')[j]? = env[j]? := fun j hj => by
    unfold setV
    split
    · exact List.getElem?_set_ne (Ne.symm hj)
    · exact List.getElem?_set_ne (Ne.symm hj)
    · rfl
  have len : (setV env i d0').length = env.length := by
    unfold setV
    split <;> simp
  obtain ⟨b, u, ob, hb1, hb2, hb3, hb4⟩ := S.own_at h
  have eb : b = a := by
    have e1 := ob.1
    rw [ow.1] at e1
    cases e1
    rfl
  subst eb
  have keep : ∀ e o, c.H0 e = some o → (∀ ps, o ≠ .tbl ps) → some e ≠ c.ra → e ≠ b := fun e o he _ hr z => by
    subst z
    rcases hb4 with z | z
    · rw [z] at he
      cases he
    · exact hr z.symm
  have self : (∃ d, env[i]? = some (.ow d) ∧ (setV env i d0')[i]? = some (.ow d0')) ∨ (∃ d, env[i]? = some (.rf d) ∧ (setV env i d0')[i]? = some (.rf d0')) := by
    unfold ownV at h
    split at h
    · rename_i d' z
      refine .inl ⟨d', z, ?_⟩
      unfold setV
      rw [z]
      exact List.getElem?_set_self hi
    · rename_i d' z
      refine .inr ⟨d', z, ?_⟩
      unfold setV
      rw [z]
      exact List.getElem?_set_self hi
    · cases h
  have own : ∀ j e, Own (setV env i d0') σ j e → Own env σ j e := fun j e ⟨g1, d, g2⟩ => by
    by_cases hj : j = i
    · subst hj
      rcases self with ⟨d', s1, s2⟩ | ⟨d', s1, s2⟩
      · exact ⟨g1, d', .inl s1⟩
      · exact ⟨g1, d', .inr s1⟩
    · rw [oth j hj] at g2
      exact ⟨g1, d, g2⟩
  refine ⟨⟨gr.wf, S.gr.f.trans gr.f, fun e o he n r => gr.h e o (S.gr.h e o he n r) n (fun z => keep e o he n r (Option.some.inj z)), fun e he => (gr.new e (S.there e he)).trans (S.gr.new e he)⟩, fun e he => th e (S.there e he), S.rt, len.trans S.len,
    fun j d e => ?_, fun j d e => ?_, fun j d e => ?_, fun j k e g1 g2 => S.apart j k e (own j e g1) (own k e g2)⟩
  · by_cases hj : j = i
    · subst hj
      rcases self with ⟨d', s1, s2⟩ | ⟨d', s1, s2⟩ <;> (rw [s2] at e; cases e)
    · rw [oth j hj] at e
      obtain ⟨v, g1, g2⟩ := S.fz j d e
      exact ⟨v, g1, g2.mono gr.f⟩
  · by_cases hj : j = i
    · subst hj
      rcases self with ⟨d', s1, s2⟩ | ⟨d', s1, s2⟩
      · rw [s2] at e
        cases e
        obtain ⟨b', u', k1, k2, k3, k4, k5⟩ := S.ow j _ s1
        rw [ow.1] at k1
        cases k1
        exact ⟨b, o', ow.1, h1, h2, k4, h3⟩
      · rw [s2] at e
        cases e
    · rw [oth j hj] at e
      obtain ⟨b', u', k1, k2, k3, k4, k5⟩ := S.ow j d e
      have nb : b' ≠ b := fun z => by
        subst z
        exact hj (S.apart j i b' ⟨k1, d, .inl e⟩ ow)
      exact ⟨b', u', k1, gr.h b' u' k2 k5.ntbl (fun z => nb (Option.some.inj z)), (gr.new b' (by rw [k2]; simp)).trans k3, k4, k5.mono gr.f⟩
  · by_cases hj : j = i
    · subst hj
      rcases self with ⟨d', s1, s2⟩ | ⟨d', s1, s2⟩
      · rw [s2] at e
        cases e
      · rw [s2] at e
        cases e
        obtain ⟨b', u', k0, k1, k2, k3, k5⟩ := S.rf j _ s1
        rw [ow.1] at k1
        cases k1
        exact ⟨b, o', k0, ow.1, h1, h2, h3⟩
    · rw [oth j hj] at e
      obtain ⟨b', u', k0, k1, k2, k3, k5⟩ := S.rf j d e
      have nb : b' ≠ b := fun z => by
        subst z
        exact hj (S.apart j i b' ⟨k1, d, .inr e⟩ ow)
      exact ⟨b', u', k0, k1, gr.h b' u' k2 k5.ntbl (fun z => nb (Option.some.inj z)), (gr.new b' (by rw [k2]; simp)).trans k3, k5.mono gr.f⟩
variable {k n : Nat} {f : Addr} {fd : FuncData} {ps : List Str} {fn : D → List D → Rr} {x : Str} {p pos : Pos} {e : Expr} {es : List Expr} {ms : List (En → R D)}
theorem callR_ok {i : Nat} {Q : VK} (hn : ms.length = n) (q : tE c W (mCallR fn i ms) σ H Q) : tCons (tVar i) (tMs c W ms) σ H fun vs H1 => spR c.toGc false n fn vs H1 Q (WE W σ) := by
  obtain ⟨env, F, S, q⟩ := q
  unfold mCallR at q
  split at q
  · exact q.elim
  · rename_i d hv
    obtain ⟨v, g1, _⟩ := S.val hv
    refine ⟨v, g1, ?_⟩
    refine tMsA ms S q fun ds e vs H1 F1 S1 s1 r1 hl h1 => ?_
    split at h1
    · rename_i d0 z
      obtain ⟨a, o, ow, k1, k2, k3, k4⟩ := S1.own_at z
      have ev : v = .ref a := by
        have e1 := ow.1
        rw [g1] at e1
        cases e1
        rfl
      subst ev
      refine ⟨by simp [r1.length_eq, hl, hn], F1, a, d0, o, ds, vs, rfl, S1.wf, k1, k2, k3, r1, ?_⟩
      cases z2 : fn d0 ds with
      | ok d d0' =>
        rw [z2] at h1
        intro v H' F' o' gr th l1 l2 l3 rv
        exact h1 v H' F' (S1.chg z ow gr th l1 l2 l3) gr.f (rlQ_rep rv)
      | no =>
        rw [z2] at h1
        exact h1
    · exact h1.elim
theorem callRF_ok {i : Nat} {Q : VK} (hn : ms.length = n) (q : tF c W (mCallR fn i ms) σ H Q) : tCons (tVar i) (tMs c W ms) σ H fun vs H1 => spR c.toGc true n fn vs H1 Q (WE W σ) := by
  obtain ⟨env, F, S, q⟩ := q
  unfold mCallR at q
  split at q
  · exact q.elim
  · rename_i d hv
    obtain ⟨v, g1, _⟩ := S.val hv
    refine ⟨v, g1, ?_⟩
    refine tMsA ms S q fun ds e vs H1 F1 S1 s1 r1 hl h1 => ?_
    split at h1
    · rename_i d0 z
      obtain ⟨a, o, ow, k1, k2, k3, k4⟩ := S1.own_at z
      have ev : v = .ref a := by
        have e1 := ow.1
        rw [g1] at e1
        cases e1
        rfl
      subst ev
      refine ⟨by simp [r1.length_eq, hl, hn], F1, a, d0, o, ds, vs, rfl, S1.wf, k1, k2, k3, r1, ?_⟩
      cases z2 : fn d0 ds with
      | ok d d0' =>
        rw [z2] at h1
        intro v H' F' o' gr th l1 l2 l3 rv
        obtain ⟨b, u, ev, a1, a2, a3, a4⟩ := rlQ_fr rv
        have S2 := S1.chg z ow gr th l1 l2 l3
        refine h1 v H' F' S2 gr.f ⟨b, u, ev, a1, a2, S1.h0 a3, fun z => S1.rtH b z a3, fun j h => ?_, a4⟩
        have hb : H1 b ≠ none := by
          have h2 : Own e σ j b := own_setV h
          exact (S1.own_there h2).1
        exact hb a3
      | no =>
        rw [z2] at h1
        exact h1
    · exact h1.elim
theorem re_callR {i : Nat} (Fo : FnOk X.prog X.w X.K X.mg X.base (L2.CX X.prog X.w) k f fd ps (spR c.toGc false n fn)) (hr : Room k X.A) (hg : Gl X x) (hm : X.mg x = some (.ref f)) (hk : PySem.W.keepIn X.K (.ref f) = true) (hb : Binds X.K fd ps []) (tk : Takes X W)
    (h0 : PE X e (tVar i)) (ha : PA X es (tMs c W ms)) (hn : ms.length = n := by rfl) (hdb : (x == ("__debug__" : Str)) = false := by decide) (he : starEach (e :: es) X.env = (false, eval e X.env) :: starEach es X.env := by rfl) (hpl : (backTo pos (starEach es X.env)).any (·.1) = false := by rfl) :
    PE X (.Call (.Name x p) (e :: es) [] pos) (tE c W (mCallR fn i ms)) :=
  (pe_callS (E := WE W) Fo hr hg hm hk hb (fun σ => passAt tk σ) (pa_cons h0 ha he) hdb he hpl).imp fun σ H Q q => callR_ok hn q
theorem re_callRF {i : Nat} (Fo : FnOk X.prog X.w X.K X.mg X.base (L2.CX X.prog X.w) k f fd ps (spR c.toGc true n fn)) (hr : Room k X.A) (hg : Gl X x) (hm : X.mg x = some (.ref f)) (hk : PySem.W.keepIn X.K (.ref f) = true) (hb : Binds X.K fd ps []) (tk : Takes X W)
    (h0 : PE X e (tVar i)) (ha : PA X es (tMs c W ms)) (hn : ms.length = n := by rfl) (hdb : (x == ("__debug__" : Str)) = false := by decide) (he : starEach (e :: es) X.env = (false, eval e X.env) :: starEach es X.env := by rfl) (hpl : (backTo pos (starEach es X.env)).any (·.1) = false := by rfl) :
    PE X (.Call (.Name x p) (e :: es) [] pos) (tF c W (mCallR fn i ms)) :=
  (pe_callS (E := WE W) Fo hr hg hm hk hb (fun σ => passAt tk σ) (pa_cons h0 ha he) hdb he hpl).imp fun σ H Q q => callRF_ok hn q
end
end PV

namespace PV
open PySem PySem.Spec PyProof.Rows L2
section
variable {c : Cn} {W : WX} {X : Cx} {env : En} {σ : L2.St} {H F : Hp}
/-- an own container is written -/
theorem SR.wr (S : SR c env σ H F) {i : Nat} {a : Addr} {o o' : HO} {d0 d0' : D} (h : ownV env i = some d0) (ow : Own env σ i a) (ho : H a = some o) (hF : F a = none) (r : RepO c.toGc F d0 o) (r' : RepO c.toGc F d0' o') : SR c (setV env i d0') σ (upd H a o') F := by
  refine S.chg h ow ⟨⟨fun b u e => ?_, fun b u e t => ?_, S.wf.nt, Tabs_put S.wf.tab ho r.ntbl r.next⟩, Same.refl _, fun b u e _ hb => ?_, fun _ _ => rfl⟩ upd_there upd_same hF r'
  · rw [upd_ne fun z => by rw [z, hF] at e; cases e]
    exact S.wf.sub _ _ e
  · by_cases hb : b = a
    · subst hb
      rw [upd_same] at e
      rw [← Option.some.inj e, r'.ntup] at t
      cases t
    · rw [upd_ne hb] at e
      exact S.wf.tup _ _ e t
  · rw [upd_ne fun z => hb (by rw [z])]
    exact e
def isLst : Option D → Bool
  | some (.lst _) => true
  | _ => false
theorem SR.tyL (S : SR c env σ H F) {i : Nat} (hK : c.K = X.K) (h : isLst (PV.val env i) = true) : ∃ v, σ[i]? = some (some v) ∧ tyV X.K "list" v H := by
  cases q : PV.val env i with
  | none =>
    rw [q] at h
    cases h
  | some d =>
    rw [q] at h
    cases d with
    | lst xs =>
      obtain ⟨v, h1, h2⟩ := S.val q
      obtain ⟨a, vs, rfl, h3, h4⟩ := h2.lst_ S.wf
      exact ⟨_, h1, .inl ⟨rfl, vs, SqL.of h3⟩⟩
    | _ => cases h
/-! ### methods of an own list -/
/-- m: the argument; k: what becomes of the list and the argument -/
def mOwn (i : Nat) (m : En → R D) (k : List D → D → Option (D × List D)) : En → R D := fun env => if isLst (val env i) = true then (m env).bind fun d e => match ownV e i with
  | some (.lst xs) => (match k xs d with
    | some (v, ys) => .ok v (setV e i (.lst ys))
    | none => .no)
  | _ => .no else .no
def kAppend (xs : List D) (d : D) : Option (D × List D) := if xs.length < lim then some (.non, xs ++ [d]) else none
def kPopAt (xs : List D) (d : D) : Option (D × List D) := match d with
  | .int i => if lim < xs.length then none else (ixN xs.length i).bind fun j => (xs[j]?).map fun v => (v, xs.eraseIdx j)
  | _ => none
def kExtend (xs : List D) (d : D) : Option (D × List D) := match d with
  | .lst ys => if xs.length + ys.length ≤ lim then some (.non, xs ++ ys) else none
  | _ => none
theorem own_ok {i : Nat} {m : En → R D} {k : List D → D → Option (D × List D)} {r : V → List V → Hp → VK → Prop} (hK : c.K = X.K)
    (hr : ∀ {F H : Hp} {a : Addr} {xs ys : List D} {vs : List V} {d v : D} {y : V} {Q : VK}, WF c.toGc F H → H a = some (.lst vs) → F a = none → Reps c.toGc F xs vs → Rep c.toGc F d y → k xs d = some (v, ys) →
      (∀ u ws, Rep c.toGc F v u → Reps c.toGc F ys ws → Q u (upd H a (.lst ws))) → r (.ref a) [y] H Q)
    {Q : VK} (q : tE c W (mOwn i m k) σ H Q) : tBM X.K "list" r (tVar i) (tMs c W [m]) σ H Q := by
  obtain ⟨env, F, S, q⟩ := q
  unfold mOwn at q
  split at q
  · rename_i hl
    obtain ⟨v, g1, g2⟩ := S.tyL hK hl
    refine ⟨v, g1, g2, ?_⟩
    refine tM_bind S q fun d e y H1 F1 S1 s1 r1 h1 => ?_
    split at h1
    · rename_i xs z
      obtain ⟨a, o, ow, k1, k2, k3, k4⟩ := S1.own_at z
      have ev : v = .ref a := by
        have e1 := ow.1
        rw [g1] at e1
        cases e1
        rfl
      subst ev
      have k3' := k3
      cases k3 with
      | lst rx =>
        split at h1
        · rename_i v' ys hk
          exact hr S1.wf k1 k2 rx r1 hk fun u ws ru rw' => h1 u _ F1 (S1.wr z ow k1 k2 k3' (.lst rw')) (Same.refl _) ru
        · exact h1.elim
    · exact h1.elim
  · exact q.elim
variable {x : Str} {p apos pos : Pos} {a e : Expr} {i : Nat} {m : En → R D}
theorem re_append (hK : c.K = X.K) (ho : PE X a (tVar i)) (he : PE X e (tE c W m)) (hbase : attributeBase a "append" X.env (eval a X.env) = eval a X.env := by rfl)
    (hfew : ((backTo pos (starEach [e] X.env)).all (fun x => !x.1) && (backToKw pos (keywordEach [] X.env)).all (fun x => x.1.isSome) && decide ([e].length + ([] : List Keyword).length + (if ([] : List Keyword).isEmpty then 0 else 1) < 30)) = true := by rfl)
    (hline : (apos.endLine == pos.line) = true := by rfl) (hs : starEach [e] X.env = (false, eval e X.env) :: starEach [] X.env := by rfl) (hplain : (backTo pos (starEach [] X.env)).any (·.1) = false := by rfl) :
    PE X (.Call (.Attribute a "append" apos) [e] [] pos) (tE c W (mOwn i m kAppend)) :=
  (pe_bm PySem.F.plainAttrs_list PySem.F.slot_list_append PySem.F.type_list_append mt_append ho (pa_cons he pa_nil hs) hbase hfew hline hs hplain).imp fun σ H Q q => own_ok (r := rAppend) hK (fun w h1 h2 r1 r2 hk kk => by
    unfold kAppend at hk
    split at hk
    · rename_i hz
      cases hk
      exact ⟨_, _, _, rfl, rfl, h1, lim_lt (by rw [← r1.length]; exact hz), kk _ _ .non (r1.append (.cons r2 .nil))⟩
    · cases hk) q
theorem Reps.erase {g : Gc} {F : Hp} : ∀ {ds : List D} {vs : List V} (j : Nat), Reps g F ds vs → Reps g F (ds.eraseIdx j) (vs.eraseIdx j)
  | _, _, _, .nil => .nil
  | _, _, 0, .cons _ t => t
  | _, _, j + 1, .cons h t => .cons h (Reps.erase j t)
theorem re_popAt (hK : c.K = X.K) (ho : PE X a (tVar i)) (he : PE X e (tE c W m)) (hbase : attributeBase a "pop" X.env (eval a X.env) = eval a X.env := by rfl)
    (hfew : ((backTo pos (starEach [e] X.env)).all (fun x => !x.1) && (backToKw pos (keywordEach [] X.env)).all (fun x => x.1.isSome) && decide ([e].length + ([] : List Keyword).length + (if ([] : List Keyword).isEmpty then 0 else 1) < 30)) = true := by rfl)
    (hline : (apos.endLine == pos.line) = true := by rfl) (hs : starEach [e] X.env = (false, eval e X.env) :: starEach [] X.env := by rfl) (hplain : (backTo pos (starEach [] X.env)).any (·.1) = false := by rfl) :
    PE X (.Call (.Attribute a "pop" apos) [e] [] pos) (tE c W (mOwn i m kPopAt)) :=
  (pe_bm PySem.F.plainAttrs_list PySem.F.slot_list_pop PySem.F.type_list_pop mt_popAt ho (pa_cons he pa_nil hs) hbase hfew hline hs hplain).imp fun σ H Q q => own_ok (r := rPopAt) hK (fun {F H a xs ys vs d v y Q} w h1 h2 r1 r2 hk kk => by
    unfold kPopAt at hk
    cases r2 with
    | int =>
      rename_i n
      have hk0 : (if lim < xs.length then none else (ixN xs.length n).bind (fun j => (xs[j]?).map fun v => (v, xs.eraseIdx j))) = some (v, ys) := hk
      split at hk0
      · cases hk0
      · rename_i hz
        have hk' : (ixN xs.length n).bind (fun j => (xs[j]?).map fun v => (v, xs.eraseIdx j)) = some (v, ys) := hk0
        cases q1 : ixN xs.length n with
        | none =>
          rw [q1] at hk'
          cases hk'
        | some j =>
          rw [q1] at hk'
          have hk2 : (xs[j]?).map (fun v => (v, xs.eraseIdx j)) = some (v, ys) := hk'
          cases q2 : xs[j]? with
          | none =>
            rw [q2] at hk2
            cases hk2
          | some u =>
            rw [q2] at hk2
            cases hk2
            obtain ⟨b1, b2, b3, b4⟩ := ixN_seq q1
            obtain ⟨w', c1, c2⟩ := r1.get q2
            have hl : xs.length ≤ 1000000 := Nat.le_of_not_lt hz
            exact ⟨a, vs, n, j, w', rfl, rfl, h1, by omega, by omega, by rw [← r1.length]; exact b1, c1, kk _ _ c2 (r1.erase j)⟩
    | _ => cases hk) q
theorem re_extend (hK : c.K = X.K) (ho : PE X a (tVar i)) (he : PE X e (tE c W m)) (hbase : attributeBase a "extend" X.env (eval a X.env) = eval a X.env := by rfl)
    (hfew : ((backTo pos (starEach [e] X.env)).all (fun x => !x.1) && (backToKw pos (keywordEach [] X.env)).all (fun x => x.1.isSome) && decide ([e].length + ([] : List Keyword).length + (if ([] : List Keyword).isEmpty then 0 else 1) < 30)) = true := by rfl)
    (hline : (apos.endLine == pos.line) = true := by rfl) (hs : starEach [e] X.env = (false, eval e X.env) :: starEach [] X.env := by rfl) (hplain : (backTo pos (starEach [] X.env)).any (·.1) = false := by rfl) :
    PE X (.Call (.Attribute a "extend" apos) [e] [] pos) (tE c W (mOwn i m kExtend)) :=
  (pe_bm PySem.F.plainAttrs_list PySem.F.slot_list_extend PySem.F.type_list_extend mt_extend ho (pa_cons he pa_nil hs) hbase hfew hline hs hplain).imp fun σ H Q q => own_ok (r := rExtend) hK (fun {F H a xs ys vs d v y Q} w h1 h2 r1 r2 hk kk => by
    unfold kExtend at hk
    cases r2 with
    | @lst b zs ws h3 r3 =>
      have hk' : (if xs.length + zs.length ≤ lim then some (D.non, xs ++ zs) else none) = some (v, ys) := hk
      split at hk'
      · rename_i hz
        cases hk'
        exact ⟨_, _, _, _, rfl, rfl, h1, w.sub _ _ h3, lim_line (by rw [← r1.length, ← r3.length]; exact hz), kk _ _ .non (r1.append r3)⟩
      · cases hk'
    | _ => cases hk) q
/-! ### x[k] = e, x an own list -/
def kSetIx (xs : List D) (k d : D) : Option (List D) := match k with
  | .int i => (ixN xs.length i).map fun j => xs.set j d
  | _ => none
def sSetIx (i : Nat) (mk me : En → R D) : En → Rs := fun env => (me env).bs fun d e => match val e i with
  | none => .no
  | some _ => (mk e).bs fun k e' => match ownV e' i with
    | some (.lst xs) => (match kSetIx xs k d with
      | some ys => .nx (setV e' i (.lst ys))
      | none => .no)
    | _ => .no
theorem Reps.set {g : Gc} {F : Hp} {d : D} {v : V} (r : Rep g F d v) : ∀ {ds : List D} {vs : List V} (j : Nat), Reps g F ds vs → Reps g F (ds.set j d) (vs.set j v)
  | _, _, _, .nil => .nil
  | _, _, 0, .cons _ t => .cons r t
  | _, _, j + 1, .cons h t => .cons h (Reps.set r j t)
theorem setIx_ok {Z : Ends} {mk me : En → R D} (q : tS c W (sSetIx i mk me) Z σ H) : tAsg (tE c W me) (gSub (tVar i) (tE c W mk) rSetL) Z σ H := by
  obtain ⟨env, F, S, q⟩ := q
  refine tM_bs S q fun d e v H1 F1 S1 s1 r1 h1 => ?_
  split at h1
  · exact h1.elim
  · rename_i d' hv
    obtain ⟨u, g1, _⟩ := S1.val hv
    refine ⟨u, g1, ?_⟩
    refine tM_bs S1 h1 fun k e2 y H2 F2 S2 s2 r2 h2 => ?_
    split at h2
    · rename_i xs z
      obtain ⟨a, o, ow, k1, k2, k3, k4⟩ := S2.own_at z
      have ev : u = .ref a := by
        have e1 := ow.1
        rw [g1] at e1
        cases e1
        rfl
      subst ev
      have k3' := k3
      cases k3 with
      | @lst _ vs rx =>
        split at h2
        · rename_i ys hk
          unfold kSetIx at hk
          cases r2 with
          | @int n =>
            have hk' : (ixN xs.length n).map (fun j => xs.set j d) = some ys := hk
            cases q1 : ixN xs.length n with
            | none =>
              rw [q1] at hk'
              cases hk'
            | some j =>
              rw [q1] at hk'
              cases hk'
              exact ⟨a, vs, n, j, rfl, rfl, k1, by rw [← rx.length]; exact q1, h2 σ _ F2 (S2.wr z ow k1 k2 k3' (.lst (rx.set (r1.mono s2) j))) (Same.refl _)⟩
          | _ => cases hk
        · exact h2.elim
    · exact h2.elim
theorem rs_setIx {idx : Expr} {mk me : En → R D} {pos' : Pos} (ho : PE X a (tVar i)) (hi : PE X idx (tE c W mk)) (he : PE X e (tE c W me))
    (ha : ∀ v, assign (.Subscript a idx pos') X.env v = (do
      let ov ← holding [v] (eval a X.env)
      let iv ← holding [v, ov] (eval idx X.env)
      standAt pos'
      holding [v, ov, iv] (setItem ov iv v)
      release [v, ov, iv] []) := by intro _; rfl)
    (hs : swapsWithSole [.Subscript a idx pos'] e pos.line X.env = pure false := by rfl) (hw : swappedStores [.Subscript a idx pos'] e X.env = pure none := by rfl)
    (h1 : (assignEach [.Subscript a idx pos'] X.env).map (·.2) = [assign (.Subscript a idx pos') X.env] := by rfl) : PS X (.Assign [.Subscript a idx pos'] e pos) (tS c W (sSetIx i mk me)) :=
  (ps_asg he (pg_sub ho hi set_list ha) hs hw h1).imp fun Z σ H q => setIx_ok q
/-! ### x op= e, ints -/
def sAug (i : Nat) (f : List D → Option D) (m : En → R D) : En → Rs := fun env => match env[i]? with
  | some (.fz x) => (m env).bs fun d e => match f [x, d] with
    | some y => if free e i = true then .nx (e.set i (.fz y)) else .no
    | none => .no
  | _ => .no
theorem rs_aug {op : Operator} {r : R2} {f : List D → Option D} {pos' : Pos} (hN : X.N.Nodup) (hi : X.N[i]? = some x) (hx : Loc X.env.scope x) (ho : OpR X (inplaceOp op) r) (hf' : OpA c.toGc (r2 r) f) (he : PE X e (tE c W m)) (hf : X.fn x = true ∨ X.env.scope.names.lookup x = some .local := by first | exact .inl rfl | exact .inr rfl) :
    PS X (.AugAssign (.Name x pos') op e pos) (tS c W (sAug i f m)) := (ps_aug hN hi hx he ho hf).imp fun Z σ H ⟨env, F, S, q⟩ => by
  unfold sAug at q
  split at q
  · rename_i d0 z
    obtain ⟨v, h1, h2⟩ := S.fz i d0 z
    refine ⟨v, h1, ?_⟩
    refine tM_bs S q fun d e y H1 F1 S1 s1 r1 h3 => ?_
    split at h3
    · rename_i y' hy
      split at h3
      · rename_i hfr
        exact hf' [d0, d] [v, y] y' F1 H1 _ S1.wf (.cons (.st (h2.mono s1)) (.cons (.st r1) .nil)) hy fun u H2 F2 g2 ru => h3 _ H2 F2 ((S1.go g2).set hfr ru) g2.gr.f
      · exact h3.elim
    · exact h3.elim
  · exact q.elim
/-! ### several targets -/
def sAsg (T : Tg) (m : En → R D) : En → Rs := fun env => (m env).bs fun d e => match bindT T d e with
  | some e' => .nx e'
  | none => .no
theorem rs_asg {tg : Expr} {T : Tg} (he : PE X e (tE c W m)) (hg : PG X tg (tG c T)) (hs : swapsWithSole [tg] e pos.line X.env = pure false := by rfl) (hw : swappedStores [tg] e X.env = pure none := by rfl)
    (h1 : (assignEach [tg] X.env).map (·.2) = [assign tg X.env] := by rfl) : PS X (.Assign [tg] e pos) (tS c W (sAsg T m)) := (ps_asg he hg hs hw h1).imp fun Z σ H ⟨env, F, S, q⟩ => by
  refine tM_bs S q fun d e v H1 F1 S1 s1 r1 h1 => ?_
  refine ⟨e, F1, d, S1, r1, ?_⟩
  cases z : bindT T d e with
  | none =>
    rw [z] at h1
    exact h1
  | some e2 =>
    rw [z] at h1
    exact fun σ' H' F' S' s' _ => h1 σ' H' F' S' s'
/-- what is stored: kept, or new -/
inductive Oe where
  | st (m : En → R D) | fr (m : En → R D)
def Oe.ev : Oe → En → R D
  | .st m => m
  | .fr m => m
def Oe.t (c : Cn) (W : WX) : Oe → TE
  | .st m => tE c W m
  | .fr m => tF c W m
def Oe.sl : Oe → D → Sl
  | .st _, d => .fz d
  | .fr _, d => .ow d
/-- a, b = e1, e2 -/
def sPar (i j : Nat) (o1 o2 : Oe) : En → Rs := fun env => (o1.ev env).bs fun d1 e1 => (o2.ev e1).bs fun d2 e2 => if free e2 i = true ∧ free e2 j = true ∧ i ≠ j then .nx ((e2.set i (o1.sl d1)).set j (o2.sl d2)) else .no
theorem own_set {e : En} {i k : Nat} {s : Sl} {v : V} {a : Addr} (hi : i < e.length) (hs : i < σ.length) (h : Own (e.set i s) (σ.set i (some v)) k a) : (k = i ∧ v = .ref a ∧ ∃ d, s = .ow d ∨ s = .rf d) ∨ (k ≠ i ∧ Own e σ k a) := by
  obtain ⟨h1, d, h2⟩ := h
  by_cases hk : k = i
  · subst hk
    rw [List.getElem?_set_self hs] at h1
    rw [List.getElem?_set_self hi] at h2
    have e1 := Option.some.inj (Option.some.inj h1)
    refine .inl ⟨rfl, e1, d, ?_⟩
    rcases h2 with h2 | h2
    · exact .inl (Option.some.inj h2)
    · exact .inr (Option.some.inj h2)
  · rw [List.getElem?_set_ne (Ne.symm hk)] at h1 h2
    exact .inr ⟨hk, h1, d, h2⟩
theorem free_lt {e : En} {i : Nat} (hf : free e i = true) : i < e.length := by
  unfold free at hf
  by_cases h : i < e.length
  · exact h
  · rw [List.getElem?_eq_none (by omega)] at hf
    cases hf
theorem free_set {e : En} {i j : Nat} {s : Sl} (hij : i ≠ j) (h : free e j = true) : free (e.set i s) j = true := by
  unfold free at h ⊢
  rw [List.getElem?_set_ne hij]
  exact h
theorem rlF_set (S : SR c env σ H F) {i : Nat} {d : D} {v w : V} {s : Sl} (hi : i < env.length) (r : rlF c env σ F H d v) (ns : ∀ a, v = .ref a → w = .ref a → (∃ d, s = .ow d ∨ s = .rf d) → False) : rlF c (env.set i s) (σ.set i (some w)) F H d v := by
  obtain ⟨a, o, ev, h1, h2, h3, hr, h4, h5⟩ := r
  refine ⟨a, o, ev, h1, h2, h3, hr, fun k hk => ?_, h5⟩
  rcases own_set hi (S.len ▸ hi) hk with ⟨_, e2, e3⟩ | ⟨_, e2⟩
  · exact ns a ev e2 e3
  · exact h4 k e2
def Oe.tk (c : Cn) (W : WX) (o : Oe) : TE := fun σ H Q => ∃ H0, o.t (c.kp H0) W σ H Q
theorem par_ok {Z : Ends} {i j : Nat} {o1 o2 : Oe} (q : tS c W (sPar i j o1 o2) Z σ H) : tPar i j (tCons (o1.t c W) (tCons (o2.tk c W) tNil)) Z σ H := by
  obtain ⟨env, F, S, q⟩ := q
  unfold sPar at q
  cases o1 with
  | st m1 =>
    refine tM_bs S q fun d1 e1 v1 H1 F1 S1 s1 r1 h1 => ?_
    cases o2 with
    | st m2 =>
      refine ⟨c.H0, tM_bs S1 h1 fun d2 e2 v2 H2 F2 S2 s2 r2 h2 => ?_⟩
      split at h2
      · rename_i hf
        obtain ⟨f1, f2, f3⟩ := hf
        exact ⟨v1, v2, rfl, h2 _ H2 F2 ((S2.set f1 (r1.mono s2)).set (free_set f3 f2) r2) (Same.refl _)⟩
      · exact h2.elim
    | fr m2 =>
      refine ⟨c.H0, tM_bs S1 h1 fun d2 e2 v2 H2 F2 S2 s2 r2 h2 => ?_⟩
      split at h2
      · rename_i hf
        obtain ⟨f1, f2, f3⟩ := hf
        exact ⟨v1, v2, rfl, h2 _ H2 F2 ((S2.set f1 (r1.mono s2)).setO (free_set f3 f2) (rlF_set S2 (free_lt f1) r2 fun a _ _ ⟨d, z⟩ => by rcases z with z | z <;> cases z)) (Same.refl _)⟩
      · exact h2.elim
  | fr m1 =>
    refine tM_bs S q fun d1 e1 v1 H1 F1 S1 s1 r1 h1 => ?_
    obtain ⟨a1, u1, ev, b1, b2, b3, hr1, b4, b5⟩ := r1
    subst ev
    have f01 : c.F0 a1 = none := S1.gr.f.free b2
    have K1 := S1.keep b1 b2 b3 b4
    have back : ∀ {e : En} {H2 F2 : Hp}, SR (c.kp (upd c.H0 a1 u1)) e σ H2 F2 → Same F1 F2 → SR c e σ H2 F2 ∧ rlF c e σ F2 H2 d1 (.ref a1) := fun {e H2 F2} S2 s2 => by
      obtain ⟨k1, k2, k3⟩ := S2.kept b5.ntbl hr1 f01
      exact ⟨S2.unkeep b3 hr1, a1, u1, rfl, k1, k2, b3, hr1, k3, b5.mono s2⟩
    cases o2 with
    | st m2 =>
      refine ⟨upd c.H0 a1 u1, e1, F1, K1, ?_⟩
      cases z : m2 e1 with
      | ok d2 e2 =>
        have h1' : OkS c W F1 Z ((m2 e1).bs fun d2 e2 => if free e2 i = true ∧ free e2 j = true ∧ i ≠ j then .nx ((e2.set i (.ow d1)).set j (.fz d2)) else .no) := h1
        rw [z] at h1'
        have h2 : OkS c W F1 Z (if free e2 i = true ∧ free e2 j = true ∧ i ≠ j then .nx ((e2.set i (.ow d1)).set j (.fz d2)) else .no) := h1'
        intro v2 H2 F2 S2 s2 r2
        obtain ⟨S3, rl⟩ := back S2 s2
        split at h2
        · rename_i hf
          obtain ⟨f1, f2, f3⟩ := hf
          exact ⟨.ref a1, v2, rfl, h2 _ H2 F2 ((S3.setO f1 rl).set (free_set f3 f2) r2) s2⟩
        · exact h2.elim
      | er x e2 =>
        have h1' : OkS c W F1 Z ((m2 e1).bs fun d2 e2 => if free e2 i = true ∧ free e2 j = true ∧ i ≠ j then .nx ((e2.set i (.ow d1)).set j (.fz d2)) else .no) := h1
        rw [z] at h1'
        intro cls dx H2 F2 S2 s2 rx
        exact h1' cls dx σ H2 F2 (back S2 s2).1 s2 rx
      | no =>
        have h1' : OkS c W F1 Z ((m2 e1).bs fun d2 e2 => if free e2 i = true ∧ free e2 j = true ∧ i ≠ j then .nx ((e2.set i (.ow d1)).set j (.fz d2)) else .no) := h1
        rw [z] at h1'
        exact h1'.elim
    | fr m2 =>
      refine ⟨upd c.H0 a1 u1, e1, F1, K1, ?_⟩
      cases z : m2 e1 with
      | ok d2 e2 =>
        have h1' : OkS c W F1 Z ((m2 e1).bs fun d2 e2 => if free e2 i = true ∧ free e2 j = true ∧ i ≠ j then .nx ((e2.set i (.ow d1)).set j (.ow d2)) else .no) := h1
        rw [z] at h1'
        have h2 : OkS c W F1 Z (if free e2 i = true ∧ free e2 j = true ∧ i ≠ j then .nx ((e2.set i (.ow d1)).set j (.ow d2)) else .no) := h1'
        intro v2 H2 F2 S2 s2 r2
        obtain ⟨S3, rl⟩ := back S2 s2
        obtain ⟨a2, u2, ev2, q1, q2, q3, q4, q5, q6⟩ := r2
        have n21 : a2 ≠ a1 := fun z => by
          subst z
          have q3' : upd c.H0 a2 u1 a2 = none := q3
          rw [upd_same] at q3'
          cases q3'
        have q3' : c.H0 a2 = none := by
          have q3' : upd c.H0 a1 u1 a2 = none := q3
          rw [upd_ne n21] at q3'
          exact q3'
        split at h2
        · rename_i hf
          obtain ⟨f1, f2, f3⟩ := hf
          refine ⟨.ref a1, v2, rfl, h2 _ H2 F2 ((S3.setO f1 rl).setO (free_set f3 f2) (rlF_set S3 (free_lt f1) ⟨a2, u2, ev2, q1, q2, q3', q4, q5, q6⟩ fun a e1 e2 _ => ?_)) s2⟩
          rw [ev2] at e1
          cases e1
          cases e2
          exact n21 rfl
        · exact h2.elim
      | er x e2 =>
        have h1' : OkS c W F1 Z ((m2 e1).bs fun d2 e2 => if free e2 i = true ∧ free e2 j = true ∧ i ≠ j then .nx ((e2.set i (.ow d1)).set j (.ow d2)) else .no) := h1
        rw [z] at h1'
        intro cls dx H2 F2 S2 s2 rx
        exact h1' cls dx σ H2 F2 (back S2 s2).1 s2 rx
      | no =>
        have h1' : OkS c W F1 Z ((m2 e1).bs fun d2 e2 => if free e2 i = true ∧ free e2 j = true ∧ i ≠ j then .nx ((e2.set i (.ow d1)).set j (.ow d2)) else .no) := h1
        rw [z] at h1'
        exact h1'.elim
theorem PEk {b : Expr} {o : Oe} (h : ∀ H0, PE X b (o.t (c.kp H0) W)) : PE X b (o.tk c W) := ⟨fun pins s σ H Q I ⟨H0, q⟩ => (h H0).run pins s σ H Q I q⟩
theorem rs_par {i j : Nat} {x y : Str} {a b : Expr} {o1 o2 : Oe} {px py pt : Pos} {kt k2 pt2} (hc : X.calm = true) (hN : X.N.Nodup) (hi : X.N[i]? = some x) (hj : X.N[j]? = some y) (hij : i ≠ j)
    (hx : X.env.scope.names.lookup x = some .local) (hy : X.env.scope.names.lookup y = some .local) (ha : PE X a (o1.t c W)) (hb : ∀ H0, PE X b (o2.t (c.kp H0) W)) (hs1 : starEach [a, b] X.env = (false, eval a X.env) :: starEach [b] X.env := by rfl) (hs2 : starEach [b] X.env = (false, eval b X.env) :: starEach [] X.env := by rfl)
    (hw : swappedStores [.Tuple [.Name x px, .Name y py] kt pt] (.Tuple [a, b] k2 pt2) X.env = pure (some [x, y]) := by rfl)
    (hs : swapsWithSole [.Tuple [.Name x px, .Name y py] kt pt] (.Tuple [a, b] k2 pt2) pos.line X.env = pure false := by rfl) :
    PS X (.Assign [.Tuple [.Name x px, .Name y py] kt pt] (.Tuple [a, b] k2 pt2) pos) (tS c W (sPar i j o1 o2)) :=
  (ps_par hc hN hi hj hij hx hy (pa_cons ha (pa_cons (PEk hb) pa_nil hs2) hs1) hw hs).imp fun Z σ H q => par_ok q
/-! ### what is never reached -/
def sNo : En → Rs := fun _ => .no
theorem rs_no {st : Stmt} : PS X st (tS c W sNo) := ps_never.imp fun Z σ H ⟨_, _, _, q⟩ => q
/-! ### slices -/
def cutD (xs : List D) (lo hi : Option Int) : List D := (xs.drop (HT.sIx xs.length 0 lo)).take (HT.sIx xs.length xs.length hi - HT.sIx xs.length 0 lo)
theorem Reps.cut {g : Gc} {F : Hp} {ds : List D} {vs : List V} (lo hi : Option Int) (r : Reps g F ds vs) : Reps g F (cutD ds lo hi) (cutV vs lo hi) := by
  unfold cutD cutV
  rw [r.length]
  exact r.slice _ _
theorem cut_all {α : Type} {xs : List α} {lo hi : Option Int} (h : HT.sIx xs.length 0 lo = 0 ∧ HT.sIx xs.length xs.length hi = xs.length) : (xs.drop (HT.sIx xs.length 0 lo)).take (HT.sIx xs.length xs.length hi - HT.sIx xs.length 0 lo) = xs := by
  rw [h.1, h.2, List.drop_zero, Nat.sub_zero]
  exact List.take_of_length_le (Nat.le_refl _)
/-- by values: the base, the ends -/
def oSl (lo hi : Option Int) : D → Option D
  | .tup xs => some (.tup (cutD xs lo hi))
  | .lst xs => some (.lst (cutD xs lo hi))
  | _ => none
def oSlF (lo hi : Option Int) : D → Option D
  | .lst xs => some (.lst (cutD xs lo hi))
  | _ => none
def rSlX (K : PySem.W.Frag) : V → Option Int → Option Int → Hp → VK → Prop := fun x lo hi H Q => rSlA K x lo hi H Q ∨ rSlL K x lo hi H Q
theorem sl_x : SlR X (rSlX X.K) := sl_tupA.or sl_list
/-- an end: none, or computed -/
def evO : Option (En → R D) → En → R (Option Int)
  | none, e => .ok none e
  | some m, e => (m e).bind fun d e' => match d with
    | .int i => .ok (some i) e'
    | _ => .no
def mSl (o : Od) (lo hi : Option (En → R D)) : En → R D := fun env => match o with
  | .m f => (f env).bind fun d e => (evO lo e).bind fun l e1 => (evO hi e1).bind fun h e2 => match oSl l h d with
    | some y => .ok y e2
    | none => .no
  | .s i => match val env i with
    | none => .no
    | some _ => (evO lo env).bind fun l e1 => (evO hi e1).bind fun h e2 => match (val e2 i).bind (oSl l h) with
      | some y => .ok y e2
      | none => .no
end
end PV

namespace PV
open PySem PySem.Spec PyProof.Rows L2
section
variable {c : Cn} {W : WX} {X : Cx} {env : En} {σ : L2.St} {H F : Hp}
/-! ### slices -/
inductive PoOk (X : Cx) (c : Cn) (W : WX) : Option Expr → Option (En → R D) → Prop
  | none : PoOk X c W none none
  | some {e m} : PE X e (tE c W m) → PoOk X c W (some e) (some m)
def tO (c : Cn) (W : WX) : Option (En → R D) → TO
  | none => tNoPart
  | some m => tPart (tE c W m)
theorem PoOk.po {e : Option Expr} {m : Option (En → R D)} (h : PoOk X c W e m) : PO X e (tO c W m) := by
  cases h with
  | none => exact po_none
  | some h => exact po_some h
theorem evO_ok {α β : Type} {rl : Rl α β} {Q : β → Hp → Prop} {m : Option (En → R D)} {f : Option Int → En → R α} {K : Option Int → Hp → Prop} (S : SR c env σ H F) (h : Okp c W σ F rl Q ((evO m env).bind f))
    (k : ∀ o e H1 F1, SR c e σ H1 F1 → Same F F1 → Okp c W σ F1 rl Q (f o e) → K o H1) : tO c W m σ H K := by
  cases m with
  | none => exact k none env H F S (Same.refl _) h
  | some m =>
    have e : (evO (some m) env).bind f = (m env).bind fun d e' => (match d with | .int i => R.ok (some i) e' | _ => .no : R (Option Int)).bind f := by
      unfold evO
      rw [R.bind_assoc] <;> rfl
    rw [e] at h
    refine tM_bind (rl := rlE c) S h fun d e' v H1 F1 S1 s1 r1 h1 => ?_
    cases r1 with
    | int => exact ⟨_, rfl, k _ e' H1 F1 S1 s1 h1⟩
    | _ => exact h1.elim
theorem sl_of {d y : D} {x : V} {lo hi : Option Int} {Q : VK} (w : WF c.toGc F H) (hK : c.K = X.K) (r : Rep1 c.toGc F H d x) (e : oSl lo hi d = some y) (k : ∀ v H' F', Go c.toGc F H F' H' → Rep c.toGc F' y v → Q v H') : rSlX X.K x lo hi H Q := by
  unfold oSl at e
  split at e
  · rename_i xs
    cases e
    obtain ⟨a, vs, rfl, h1, h2, h3⟩ := r.tup_ w
    rw [← hK]
    refine .inl ⟨a, vs, rfl, h1, fun hw => ?_, fun hw p n => ?_⟩
    · rw [← h3.length] at hw
      have ec : cutD xs lo hi = xs := cut_all hw
      rw [ec] at k
      exact k _ H F (Go.refl w) (.tup h2 h3)
    · have g2 := Go.frz w n (o := .tup (cutV vs lo hi)) (fun ps z => by cases z)
      exact k _ _ _ g2 (.tup (SqT.of upd_same) ((h3.cut lo hi).mono g2.gr.f))
  · rename_i xs
    cases e
    obtain ⟨a, vs, rfl, h1, h3⟩ := r.lst_ w
    refine .inr ⟨a, vs, rfl, SqL.of h1, fun p n => ?_⟩
    have g2 := Go.frz w n (o := .lst (cutV vs lo hi)) (fun ps z => by cases z)
    exact k _ _ _ g2 (.lst upd_same ((h3.cut lo hi).mono g2.gr.f))
  · cases e
theorem sl_ok {o : Od} {lo hi : Option (En → R D)} (hK : c.K = X.K) {Q : VK} (q : tE c W (mSl o lo hi) σ H Q) : tSl (rSlX X.K) (o.t c W) (tO c W lo) (tO c W hi) σ H Q := by
  obtain ⟨env, F, S, q⟩ := q
  unfold mSl at q
  cases o with
  | m f =>
    refine tM_bind S q fun d e v H1 F1 S1 s1 r1 h1 => ?_
    refine evO_ok S1 h1 fun l e1 H2 F2 S2 s2 h2 => ?_
    refine evO_ok S2 h2 fun h e2 H3 F3 S3 s3 h3 => ?_
    split at h3
    · rename_i y hy
      exact sl_of S3.wf hK (.st ((r1.mono s2).mono s3)) hy fun u H4 F4 g4 ru => h3 u H4 F4 (S3.go g4) g4.gr.f ru
    · exact h3.elim
  | s i =>
    have q' : Okp c W σ F (rlE c) Q (match val env i with
      | none => .no
      | some _ => (evO lo env).bind fun l e1 => (evO hi e1).bind fun h e2 => match (val e2 i).bind (oSl l h) with
        | some y => .ok y e2
        | none => .no) := q
    split at q'
    · exact q'.elim
    · rename_i d hv
      obtain ⟨v, g1, _⟩ := S.val hv
      refine ⟨v, g1, ?_⟩
      refine evO_ok S q' fun l e1 H2 F2 S2 s2 h2 => ?_
      refine evO_ok S2 h2 fun h e2 H3 F3 S3 s3 h3 => ?_
      split at h3
      · rename_i y hy
        cases z : val e2 i with
        | none =>
          rw [z] at hy
          cases hy
        | some d' =>
          rw [z] at hy
          obtain ⟨v', g3, g4⟩ := S3.val z
          rw [g1] at g3
          cases g3
          exact sl_of S3.wf hK g4 hy fun u H4 F4 g4 ru => h3 u H4 F4 (S3.go g4) g4.gr.f ru
      · exact h3.elim
theorem re_sl {e : Expr} {o : Od} {lo hi : Option Expr} {ml mh : Option (En → R D)} {p2 pos : Pos} (hK : c.K = X.K) (he : PE X e (o.t c W)) (hl : PoOk X c W lo ml) (hh : PoOk X c W hi mh) : PE X (.Subscript e (.Slice lo hi none p2) pos) (tE c W (mSl o ml mh)) :=
  (pe_slice sl_x he hl.po hh.po).imp fun σ H Q q => sl_ok hK q
/-! ### what is walked -/
def iRange1 : List D → Option (List D)
  | [.int n] => if -1000000 ≤ n ∧ n ≤ 1000000 then some ((List.range n.toNat).map fun k => .int (k : Nat)) else none
  | _ => none
def iRange2 : List D → Option (List D)
  | [.int a, .int b] => if (-1000000 ≤ a ∧ a ≤ 1000000) ∧ -1000000 ≤ b ∧ b ≤ 1000000 then some ((List.range (b - a).toNat).map fun k => .int (a + (k : Nat))) else none
  | _ => none
def mIt (f : List D → Option (List D)) (ms : List (En → R D)) : En → R (List D) := fun env => (evS ms env).bind fun ds e => match f ds with
  | some xs => .ok xs e
  | none => .no
theorem itS_rng {g : Gc} {F : Hp} (lo : Int) (n : Nat) : ItS g F (Itr lo n) ((List.range n).map fun k => D.int (lo + (k : Nat))) := by
  refine ⟨fun i d F' H' e s w => ?_, fun F' H' s w => ?_⟩
  · rw [List.getElem?_map] at e
    cases q : (List.range n)[i]? with
    | none =>
      rw [q] at e
      cases e
    | some k =>
      rw [q] at e
      cases e
      obtain ⟨hk, ek⟩ := List.getElem?_eq_some_iff.mp q
      rw [List.length_range] at hk
      have : k = i := by rw [← ek]; simp
      subst this
      refine ⟨hk, fun x H'' ⟨e1, e2⟩ => ?_⟩
      subst e1 e2
      exact ⟨F', Go.refl w, .int⟩
  · show n ≤ _
    simp
/-- a walk by values -/
def OpI (g : Gc) (r : List V → Hp → (It → Hp → Prop) → Prop) (f : List D → Option (List D)) : Prop := ∀ (ds : List D) (vs : List V) (xs : List D) (F H : Hp) (Q : It → Hp → Prop), WF g F H → Reps g F ds vs → f ds = some xs →
  (∀ J H' F', Go g F H F' H' → ItS g F' J xs → Q J H') → r vs H Q
theorem tIt_ok {r : List V → Hp → (It → Hp → Prop) → Prop} {f : List D → Option (List D)} {ms : List (En → R D)} (ho : OpI c.toGc r f) {Q : It → Hp → Prop} (h : tI c W (mIt f ms) σ H Q) : tMs c W ms σ H fun vs H1 => r vs H1 Q := by
  obtain ⟨env, F, S, h⟩ := h
  refine tMsA ms S h fun ds e vs H1 F1 S1 s1 r1 _ h1 => ?_
  cases q : f ds with
  | none =>
    rw [q] at h1
    exact h1.elim
  | some d =>
    rw [q] at h1
    exact ho ds vs d F1 H1 Q S1.wf r1 q fun J H2 F2 g2 rv => h1 J H2 F2 (S1.go g2) g2.gr.f rv
theorem oi_range1 {g : Gc} : OpI g (fun vs H1 R => ∃ j : Int, vs = [.int j] ∧ -(2 ^ 62) ≤ j ∧ j < 2 ^ 62 ∧ R (Itr 0 j.toNat) H1) iRange1 := fun ds vs xs F H Q w R e k => by
  unfold iRange1 at e
  split at e
  · rename_i n
    split at e
    · rename_i hz
      cases e
      obtain rfl : vs = [.int n] := by
        cases R with
        | cons a b =>
          cases a
          cases b
          rfl
      refine ⟨n, rfl, by omega, by omega, k _ H F (Go.refl w) ?_⟩
      have := itS_rng (g := g) (F := F) 0 n.toNat
      simpa using this
    · cases e
  · cases e
theorem oi_range2 {g : Gc} : OpI g (fun vs H1 R => ∃ i j : Int, vs = [.int i, .int j] ∧ (-(2 ^ 62) ≤ i ∧ i < 2 ^ 62 ∧ -(2 ^ 62) ≤ j ∧ j < 2 ^ 62) ∧ R (Itr i (j - i).toNat) H1) iRange2 := fun ds vs xs F H Q w R e k => by
  unfold iRange2 at e
  split at e
  · rename_i a b
    split at e
    · rename_i hz
      cases e
      obtain rfl : vs = [.int a, .int b] := by
        cases R with
        | cons x y =>
          cases y with
          | cons z t =>
            cases x
            cases z
            cases t
            rfl
      exact ⟨a, b, rfl, ⟨by omega, by omega, by omega, by omega⟩, k _ H F (Go.refl w) (itS_rng a (b - a).toNat)⟩
    · cases e
  · cases e
theorem ri_range1 {tg a : Expr} {m : En → R D} {p pos : Pos} (hg : Gl X "range") (hm : X.mg "range" = none) (ha : PE X a (tE c W m)) (hs0 : starEach [a] X.env = (false, eval a X.env) :: starEach [] X.env := by rfl) (hs : starEach [a] X.env = [(false, eval a X.env)] := by rfl) : PI X tg (.Call (.Name "range" p) [a] [] pos) (tI c W (mIt iRange1 [m])) :=
  (pi_range1 hg hm (pa_cons ha pa_nil hs0) hs).imp fun σ H R q => tIt_ok (ms := [m]) oi_range1 q
theorem ri_range2 {tg a b : Expr} {m1 m2 : En → R D} {p pos : Pos} (hg : Gl X "range") (hm : X.mg "range" = none) (ha : PE X a (tE c W m1)) (hb : PE X b (tE c W m2)) (hs0 : starEach [a, b] X.env = (false, eval a X.env) :: starEach [b] X.env := by rfl) (hs1 : starEach [b] X.env = (false, eval b X.env) :: starEach [] X.env := by rfl)
    (hs : starEach [a, b] X.env = [(false, eval a X.env), (false, eval b X.env)] := by rfl) (hs2 : starEach [b] X.env = [(false, eval b X.env)] := by rfl) : PI X tg (.Call (.Name "range" p) [a, b] [] pos) (tI c W (mIt iRange2 [m1, m2])) :=
  (pi_range2 hg hm (pa_cons ha (pa_cons hb pa_nil hs1) hs0) hs hs2).imp fun σ H R q => tIt_ok (ms := [m1, m2]) oi_range2 q
theorem _root_.L2.PI.or {X : Cx} {tg e : Expr} {t t' : TI} (h : PI X tg e t) (h' : PI X tg e t') : PI X tg e (fun σ H R => t σ H R ∨ t' σ H R) := ⟨fun pins s σ H R I q => q.elim (h.run pins s σ H R I) (h'.run pins s σ H R I)⟩
/-- a list or a tuple that is kept -/
def iSeq (m : En → R D) : En → R (List D) := fun env => (m env).bind fun d e => match seqD d with
  | some xs => .ok xs e
  | none => .no
theorem itS_lst {g : Gc} {F : Hp} {a : Addr} {vs : List V} {ds : List D} (h : F a = some (.lst vs)) (r : Reps g F ds vs) : ItS g F (Itl g.K a) ds := by
  refine ⟨fun i d F' H' e s w => ?_, fun F' H' s w => ⟨vs, SqL.of (w.sub _ _ (s _ _ h)), by rw [r.length]; exact Nat.le_refl _⟩⟩
  obtain ⟨v, hv, rv⟩ := r.get e
  have hs : SqL g.K H' a vs := SqL.of (w.sub _ _ (s _ _ h))
  refine ⟨⟨vs, v, hs, hv⟩, fun x H'' y => ?_⟩
  obtain ⟨e1, e2⟩ := y
  subst e1
  have := e2 vs hs
  rw [hv] at this
  cases this
  exact ⟨F', Go.refl w, rv.mono s⟩
theorem itS_sq {g : Gc} {F : Hp} {a : Addr} {vs : List V} {ds : List D} (h : SqL g.K F a vs) (r : Reps g F ds vs) : ItS g F (Itl g.K a) ds := by
  refine ⟨fun i d F' H' e s w => ?_, fun F' H' s w => ⟨vs, w.sub.seq (s.seq h), by rw [r.length]; exact Nat.le_refl _⟩⟩
  obtain ⟨v, hv, rv⟩ := r.get e
  have hs : SqL g.K H' a vs := w.sub.seq (s.seq h)
  refine ⟨⟨vs, v, hs, hv⟩, fun x H'' y => ?_⟩
  obtain ⟨e1, e2⟩ := y
  subst e1
  have := e2 vs hs
  rw [hv] at this
  cases this
  exact ⟨F', Go.refl w, rv.mono s⟩
theorem itS_tup {g : Gc} {F : Hp} {a : Addr} {vs : List V} {ds : List D} (h : SqT g.K F a vs) (r : Reps g F ds vs) : ItS g F (Itt g.K a) ds := by
  refine ⟨fun i d F' H' e s w => ?_, fun F' H' s w => ⟨vs, sqT_mono w.sub (sqT_mono s h), by rw [r.length]; exact Nat.le_refl _⟩⟩
  obtain ⟨v, hv, rv⟩ := r.get e
  have hs : SqT g.K H' a vs := sqT_mono w.sub (sqT_mono s h)
  refine ⟨⟨vs, v, hs, hv⟩, fun x H'' y => ?_⟩
  obtain ⟨e1, e2⟩ := y
  subst e1
  have := e2 vs hs
  rw [hv] at this
  cases this
  exact ⟨F', Go.refl w, rv.mono s⟩
theorem seq_ok {m : En → R D} (hK : c.K = X.K) {Q : It → Hp → Prop} (q : tI c W (iSeq m) σ H Q) : iList X.K (tE c W m) σ H Q ∨ iTup X.K (tE c W m) σ H Q := by
  obtain ⟨env, F, S, q⟩ := q
  rw [← hK]
  cases z : m env with
  | ok d e1 =>
    have q' : Okp c W σ F (rlI c) Q (match seqD d with | some xs => .ok xs e1 | none => .no) := by
      unfold iSeq at q
      rw [z] at q
      exact q
    cases d with
    | lst xs =>
      refine .inl ⟨env, F, S, ?_⟩
      rw [z]
      intro v H1 F1 S1 s1 rv
      cases rv with
      | @lst a _ vs h r =>
        exact ⟨a, rfl, ⟨vs, SqL.of (S1.wf.sub _ _ h)⟩, q' _ H1 F1 S1 s1 (itS_lst h r)⟩
    | ro xs =>
      refine .inl ⟨env, F, S, ?_⟩
      rw [z]
      intro v H1 F1 S1 s1 rv
      cases rv with
      | @ro a _ vs h r =>
        exact ⟨a, rfl, ⟨vs, S1.wf.sub.seq h⟩, q' _ H1 F1 S1 s1 (itS_sq h r)⟩
    | tup xs =>
      refine .inr ⟨env, F, S, ?_⟩
      rw [z]
      intro v H1 F1 S1 s1 rv
      cases rv with
      | @tup a _ vs h r =>
        exact ⟨a, rfl, ⟨vs, sqT_mono S1.wf.sub h⟩, q' _ H1 F1 S1 s1 (itS_tup h r)⟩
    | _ => exact q'.elim
  | er x e1 =>
    refine .inl ⟨env, F, S, ?_⟩
    unfold iSeq at q
    rw [z] at q ⊢
    exact q
  | no =>
    unfold iSeq at q
    rw [z] at q
    exact q.elim
theorem ri_seq {tg e : Expr} {m : En → R D} (hK : c.K = X.K) (he : PE X e (tE c W m)) : PI X tg e (tI c W (iSeq m)) := ((pi_list he).or (pi_tup he)).imp fun σ H Q q => seq_ok hK q
/-! ### zip of two lists, of two tuples -/
def zipD : List D → List D → List D
  | x :: xs, y :: ys => .tup [x, y] :: zipD xs ys
  | _, _ => []
theorem zipD_get : ∀ {xs ys : List D} {i : Nat} {d : D}, (zipD xs ys)[i]? = some d → ∃ x y, xs[i]? = some x ∧ ys[i]? = some y ∧ d = .tup [x, y]
  | [], _, _, _, h => by unfold zipD at h; simp at h
  | _ :: _, [], _, _, h => by unfold zipD at h; simp at h
  | x :: xs, y :: ys, 0, d, h => by
    unfold zipD at h
    exact ⟨x, y, rfl, rfl, (Option.some.inj h).symm⟩
  | x :: xs, y :: ys, i + 1, d, h => by
    unfold zipD at h
    exact zipD_get (xs := xs) (ys := ys) (i := i) h
theorem zipD_len : ∀ (xs ys : List D), xs.length ≤ (zipD xs ys).length ∨ ys.length ≤ (zipD xs ys).length
  | [], _ => .inl (Nat.zero_le _)
  | _ :: _, [] => .inr (Nat.zero_le _)
  | x :: xs, y :: ys => by
    unfold zipD
    rcases zipD_len xs ys with h | h
    · exact .inl (Nat.succ_le_succ h)
    · exact .inr (Nat.succ_le_succ h)
def iZip2 : List D → Option (List D)
  | [.tup xs, .tup ys] => some (zipD xs ys)
  | [.lst xs, .lst ys] => some (zipD xs ys)
  | _ => none
theorem pair_new {g : Gc} {F H : Hp} {x y : D} {v w : V} {T : Addr} (wf : WF g F H) (n : H T = none) (rx : Rep g F x v) (ry : Rep g F y w) : ∃ F'', Go g F H F'' (upd H T (.tup [v, w])) ∧ Rep g F'' (.tup [x, y]) (.ref T) := by
  have g2 := Go.frz wf n (o := .tup [v, w]) (fun ps z => by cases z)
  exact ⟨_, g2, .tup (SqT.of upd_same) (.cons (rx.mono g2.gr.f) (.cons (ry.mono g2.gr.f) .nil))⟩
theorem oi_zip {g : Gc} : OpI g (fun vs H1 R => ∃ a b xs ys, vs = [.ref a, .ref b] ∧ ((SqL g.K H1 a xs ∧ SqL g.K H1 b ys ∧ R (Itz g.K a b) H1) ∨ (SqT g.K H1 a xs ∧ SqT g.K H1 b ys ∧ R (RZ.ItzT g.K a b) H1))) iZip2 := fun ds vs zs F H Q w R e k => by
  unfold iZip2 at e
  split at e
  · rename_i xs ys
    cases e
    match vs, R with
    | _, .cons (@Rep.tup _ _ a _ ws fa ra) (.cons (@Rep.tup _ _ b _ us fb rb) .nil) =>
      refine ⟨a, b, ws, us, rfl, .inr ⟨sqT_mono w.sub fa, sqT_mono w.sub fb, k _ H F (Go.refl w) ⟨fun i d F' H' e s wf => ?_, fun F' H' s wf => ?_⟩⟩⟩
      · obtain ⟨x, y, ex, ey, rfl⟩ := zipD_get e
        obtain ⟨v, hv, rv⟩ := ra.get ex
        obtain ⟨u, hu, ru⟩ := rb.get ey
        have qa : SqT g.K H' a ws := sqT_mono wf.sub (sqT_mono s fa)
        have qb : SqT g.K H' b us := sqT_mono wf.sub (sqT_mono s fb)
        refine ⟨⟨ws, us, v, u, qa, qb, hv, hu⟩, fun z H'' ⟨T, v', u', e1, n, e2, q1, q2⟩ => ?_⟩
        have e3 := q1 ws qa
        rw [hv] at e3
        cases e3
        have e4 := q2 us qb
        rw [hu] at e4
        cases e4
        subst e1 e2
        exact pair_new wf n (rv.mono s) (ru.mono s)
      · have qa : SqT g.K H' a ws := sqT_mono wf.sub (sqT_mono s fa)
        have qb : SqT g.K H' b us := sqT_mono wf.sub (sqT_mono s fb)
        refine ⟨ws, us, qa, qb, ?_⟩
        rw [← ra.length, ← rb.length]
        exact zipD_len xs ys
  · rename_i xs ys
    cases e
    match vs, R with
    | _, .cons (@Rep.lst _ _ a _ ws fa ra) (.cons (@Rep.lst _ _ b _ us fb rb) .nil) =>
      refine ⟨a, b, ws, us, rfl, .inl ⟨SqL.of (w.sub _ _ fa), SqL.of (w.sub _ _ fb), k _ H F (Go.refl w) ⟨fun i d F' H' e s wf => ?_, fun F' H' s wf => ?_⟩⟩⟩
      · obtain ⟨x, y, ex, ey, rfl⟩ := zipD_get e
        obtain ⟨v, hv, rv⟩ := ra.get ex
        obtain ⟨u, hu, ru⟩ := rb.get ey
        have qa : SqL g.K H' a ws := SqL.of (wf.sub _ _ (s _ _ fa))
        have qb : SqL g.K H' b us := SqL.of (wf.sub _ _ (s _ _ fb))
        refine ⟨⟨ws, us, v, u, qa, qb, hv, hu⟩, fun z H'' ⟨T, v', u', e1, n, e2, q1, q2⟩ => ?_⟩
        have e3 := q1 ws qa
        rw [hv] at e3
        cases e3
        have e4 := q2 us qb
        rw [hu] at e4
        cases e4
        subst e1 e2
        exact pair_new wf n (rv.mono s) (ru.mono s)
      · have qa : SqL g.K H' a ws := SqL.of (wf.sub _ _ (s _ _ fa))
        have qb : SqL g.K H' b us := SqL.of (wf.sub _ _ (s _ _ fb))
        refine ⟨ws, us, qa, qb, ?_⟩
        rw [← ra.length, ← rb.length]
        exact zipD_len xs ys
  · cases e
theorem ri_zip {a b : Expr} {m1 m2 : En → R D} {elts : List Expr} {kk : Nat} {p pos tpos : Pos} (hK : c.K = X.K) (hg : Gl X "zip") (hm : X.mg "zip" = none) (ha : PE X a (tE c W m1)) (hb : PE X b (tE c W m2))
    (hs0 : starEach [a, b] X.env = (false, eval a X.env) :: starEach [b] X.env := by rfl) (hs1 : starEach [b] X.env = (false, eval b X.env) :: starEach [] X.env := by rfl) (hpl : (backTo pos (starEach [b] X.env)).any (·.1) = false := by rfl) :
    PI X (.Tuple elts kk tpos) (.Call (.Name "zip" p) [a, b] [] pos) (tI c W (mIt iZip2 [m1, m2])) :=
  (RZ.pi_zipA hg hm (pa_cons ha (pa_cons hb pa_nil hs1) hs0) hs0 hpl).imp fun σ H R q => by
    rw [← hK]
    exact tIt_ok (ms := [m1, m2]) oi_zip q
/-! ### isinstance, a built-in type -/
def tyN : D → Option String
  | .non => some "NoneType"
  | .bl _ => some "bool"
  | .int _ => some "int"
  | .str _ => some "str"
  | .tup _ => some "tuple"
  | .lst _ => some "list"
  | .dik _ => some "dict"
  | _ => none
def subN (a n : String) : Bool := a == n || (a == "bool" && n == "int")
def mIsi (n : String) (m : En → R D) : En → R D := fun env => (m env).bind fun d e => match tyN d with
  | some a => if ["bool", "int", "str", "tuple", "list", "dict"].contains n = true then .ok (.bl (subN a n)) e else .no
  | none => .no
theorem kit_of {K : PySem.W.Frag} {d : D} {a n : String} (h : tyN d = some a) (hn : ["bool", "int", "str", "tuple", "list", "dict"].contains n = true) : PySem.W.kitOne K (.type a) (.type n) = some (subN a n) := by
  have ha : a = "NoneType" ∨ a = "bool" ∨ a = "int" ∨ a = "str" ∨ a = "tuple" ∨ a = "list" ∨ a = "dict" := by
    cases d <;> first | (cases h; simp) | cases h
  have hn' : n = "bool" ∨ n = "int" ∨ n = "str" ∨ n = "tuple" ∨ n = "list" ∨ n = "dict" := by simpa using hn
  refine kit_ty ?_
  rcases ha with rfl | rfl | rfl | rfl | rfl | rfl | rfl <;> rcases hn' with rfl | rfl | rfl | rfl | rfl | rfl <;> decide +kernel
theorem ty_of {g : Gc} {F H : Hp} {d : D} {v : V} {a : String} (w : WF g F H) (r : Rep g F d v) (h : tyN d = some a) : TyX g.K H v (.type a) := by
  cases r with
  | non => cases h; exact .base .non
  | bl => cases h; exact .base (.bl _)
  | int => cases h; exact .base (.int _)
  | str => cases h; exact .base (.str _)
  | tup q _ =>
    cases h
    rcases sqT_mono w.sub q with (q | ⟨o, q⟩) | ⟨o, its, n, q, cl, _⟩
    · exact .base (.tup q)
    · exact .fTuple q
    · exact .kTuple q cl
  | lst q _ => cases h; exact .base (.lst (w.sub _ _ q))
  | dik q _ => cases h; exact .fDict (w.sub _ _ q)
  | _ => cases h
theorem re_isi {e : Expr} {x : Str} {nm : String} {m : En → R D} {p p2 pos : Pos} (hK : c.K = X.K) (hg : Gl X "isinstance") (hm : X.mg "isinstance" = none) (hv : bootBuiltins "isinstance" = some (.builtin "isinstance")) (hg2 : Gl X x) (hm2 : X.mg x = none) (hv2 : bootBuiltins x = some (.type nm)) (he : PE X e (tE c W m))
    (hx : x ≠ "__name__" := by decide) (hdx : (x == ("__debug__" : Str)) = false := by decide) (hs0 : starEach [e, .Name x p2] X.env = (false, eval e X.env) :: starEach [.Name x p2] X.env := by rfl) (hs1 : starEach [.Name x p2] X.env = (false, eval (.Name x p2) X.env) :: starEach [] X.env := by rfl)
    (hpl : (backTo pos (starEach [.Name x p2] X.env)).any (·.1) = false := by rfl) : PE X (.Call (.Name "isinstance" p) [e, .Name x p2] [] pos) (tE c W (mIsi nm m)) :=
  (pe_callB call_isi hg hm hv (pa_cons he (pa_cons (pe_bltn (v := .ty nm) hg2 hm2 hv2 rfl hx hdx) pa_nil hs1) hs0) (by decide) (by decide) hs0 hpl).imp fun σ H Q ⟨env, F, S, q⟩ => by
    unfold mIsi at q
    refine tM_bind S q fun d e v H1 F1 S1 s1 r1 h1 => ?_
    split at h1
    · rename_i a ha
      split at h1
      · rename_i hn
        refine ⟨v, .ty nm, .type a, .type nm, subN a nm, rfl, .ty nm, ?_, kit_of ha hn, h1 _ H1 F1 S1 (Same.refl _) .bl⟩
        rw [← hK]
        exact ty_of S1.wf r1 ha
      · exact h1.elim
    · exact h1.elim
/-! ### list(range(..)), tuple(range(..)) -/
theorem rg_vals (a b : Int) : Reps c.toGc F ((List.range (b - a).toNat).map fun k => D.int (a + (k : Nat))) (rgV a b) := by
  unfold rgV
  generalize (b - a).toNat = n
  have : ∀ l : List Nat, Reps c.toGc F (l.map fun k => D.int (a + (k : Nat))) (l.map fun k => V.int (a + (k : Nat))) := by
    intro l
    induction l with
    | nil => exact .nil
    | cons x r ih => exact .cons .int ih
  exact this _
def oRngL (k : List D → D) : List D → Option D := fun ds => (iRange1 ds).map k
theorem rng1_ok {m : En → R D} {k : List D → D} {σ : L2.St} {H : Hp} {Q : VK} (q : tE c W (mOp (oRngL k) [.m m]) σ H Q) {K : Int → Int → Hp → Prop}
    (hk : ∀ n e H1 F1, SR c e σ H1 F1 → RgOk 0 n → (∀ v H2 F2, SR c e σ H2 F2 → Same F1 F2 → Rep c.toGc F2 (k ((List.range n.toNat).map fun i => .int (i : Nat))) v → Q v H2) → K 0 n H1) : tRg1 (tE c W m) σ H K := by
  obtain ⟨env, F, S, q⟩ := q
  have q' : Okp c W σ F (rlE c) Q ((m env).bind fun d e => match oRngL k [d] with | some y => .ok y e | none => .no) := by
    have e : mOp (oRngL k) [.m m] env = (m env).bind fun d e => match oRngL k [d] with | some y => .ok y e | none => .no := by
      unfold mOp evA evP
      cases m env with
      | ok d e => rfl
      | er x e => rfl
      | no => rfl
    rw [← e]
    exact q
  refine tM_bind (rl := rlE c) S q' fun d e v H1 F1 S1 s1 r1 h1 => ?_
  split at h1
  · rename_i y hy
    unfold oRngL iRange1 at hy
    cases r1 with
    | @int n =>
      have hy' : (if -1000000 ≤ n ∧ n ≤ 1000000 then some ((List.range n.toNat).map fun i => D.int (i : Nat)) else none).map k = some y := hy
      split at hy'
      · rename_i hz
        cases hy'
        exact ⟨n, rfl, hk n e H1 F1 S1 ⟨by omega, by omega, by omega, by omega, by omega⟩ fun v H2 F2 S2 s2 rv => h1 v H2 F2 S2 s2 rv⟩
      · cases hy'
    | _ => cases hy
  · exact h1.elim
theorem re_listRg {a : Expr} {m : En → R D} {p p2 pos pos2 : Pos} (hc : X.calm = true) (hg : Gl X "list") (hm : X.mg "list" = none) (hg2 : Gl X "range") (hm2 : X.mg "range" = none) (ha : PE X a (tE c W m)) (na : starEach [a] X.env = (false, eval a X.env) :: starEach [] X.env := by rfl)
    (nb : starEach [.Call (.Name "range" p2) [a] [] pos2] X.env = (false, eval (.Call (.Name "range" p2) [a] [] pos2) X.env) :: starEach [] X.env := by rfl) : PE X (.Call (.Name "list" p) [.Call (.Name "range" p2) [a] [] pos2] [] pos) (tE c W (mOp (oRngL .lst) [.m m])) :=
  (pe_listRg hc hg hm (prg_1 hg2 hm2 ha na) nb).imp fun σ H Q q => rng1_ok q fun n e H1 F1 S1 ho kk => ⟨ho, fun p np => by
    have g2 := Go.frz S1.wf np (o := .lst (rgV 0 n)) (fun ps z => by cases z)
    have rv := rg_vals (c := c) (F := upd F1 p (.lst (rgV 0 n))) 0 n
    simp only [Int.sub_zero, Int.zero_add] at rv
    exact kk _ _ _ (S1.go g2) g2.gr.f (.lst upd_same rv)⟩
theorem re_tupRg {a : Expr} {m : En → R D} {p p2 pos pos2 : Pos} (hc : X.calm = true) (hg : Gl X "tuple") (hm : X.mg "tuple" = none) (hg2 : Gl X "range") (hm2 : X.mg "range" = none) (ha : PE X a (tE c W m)) (na : starEach [a] X.env = (false, eval a X.env) :: starEach [] X.env := by rfl)
    (nb : starEach [.Call (.Name "range" p2) [a] [] pos2] X.env = (false, eval (.Call (.Name "range" p2) [a] [] pos2) X.env) :: starEach [] X.env := by rfl) : PE X (.Call (.Name "tuple" p) [.Call (.Name "range" p2) [a] [] pos2] [] pos) (tE c W (mOp (oRngL .tup) [.m m])) :=
  (pe_tupRg hc hg hm (prg_1 hg2 hm2 ha na) nb).imp fun σ H Q q => rng1_ok q fun n e H1 F1 S1 ho kk => ⟨ho, fun p np => by
    have g2 := Go.frz S1.wf np (o := .tup (rgV 0 n)) (fun ps z => by cases z)
    have rv := rg_vals (c := c) (F := upd F1 p (.tup (rgV 0 n))) 0 n
    simp only [Int.sub_zero, Int.zero_add] at rv
    exact kk _ _ _ (S1.go g2) g2.gr.f (.tup (SqT.of upd_same) rv)⟩
/-- n.bit_length() -/
theorem re_bits {a : Expr} {o : Od} {apos pos : Pos} (ha : PE X a (o.t c W)) (hbase : attributeBase a "bit_length" X.env (eval a X.env) = eval a X.env := by rfl) (hline : (apos.endLine == pos.line) = true := by rfl) : PE X (.Call (.Attribute a "bit_length" apos) [] [] pos) (tE c W (mOp oBits [o])) :=
  (pe_bits ha hbase hline).imp fun σ H Q q => tOp_ok (os := [o]) (f := oBits) (r := r1 fun x H Q => ∃ i, x = .int i ∧ Q (.int (Builtin.Int.intBits i : Nat)) H) (fun ds vs d F H Q w R e k => by
    unfold oBits o1I at e
    split at e
    · rename_i i
      cases e
      obtain ⟨x, rfl, h1⟩ := R.one
      exact ⟨i, h1.int_, k _ H F (Go.refl w) .int⟩
    · cases e) q
end
end PV

/-! ### t[::-1] of a tuple -/
namespace HT
open PySem PyProof.Rows L2 HT
section
variable {prog : Program} {w : World} {A : Around} {E : Value → Shared → Prop} {s : Shared}
theorem pv_adjust (n : Nat) : Builtin.Slice.sliceAdjust none none (-1) (n : Int) = ((n : Int) - 1, -1) := by
  unfold Builtin.Slice.sliceAdjust
  simp
theorem pv_places (n : Nat) : Builtin.Slice.slicePlaces ((n : Int) - 1) (-1) (-1) = n := by
  unfold Builtin.Slice.slicePlaces
  have h1 : ¬ ((-1 : Int) > 0) := by decide
  simp only [h1, if_false]
  by_cases h : (n : Int) - 1 > -1
  · simp only [h, if_true]
    have e : ((n : Int) - 1 - -1 - 1) / (- -1) = (n : Int) - 1 := by
      rw [show (- -1 : Int) = 1 by decide, Int.ediv_one]
      omega
    rw [e]
    omega
  · simp only [h, if_false]
    omega
theorem pv_applied {sl : Addr} {vl vu vs : Value} {n : Nat} {Q : Int × Int × Nat → Shared → Prop} (hs : s.heap.IsSliceOf sl vl vu vs) (pl : IsPart vl none) (pu : IsPart vu none) (ps : IsPart vs (some (-1)))
    (h : Q ((n : Int) - 1, -1, n) s) : wpAny (model prog w) A (Builtin.Slice.sliceApplied (.ref sl) (pure (n : Int))) Q E s := by
  obtain ⟨os, hos, hcs, hds⟩ := id hs
  unfold Builtin.Slice.sliceApplied Builtin.Slice.sliceFields
  refine wpAny_bind (wpAny_bind (wpAny_field hos hds (x := vl) rfl (wpAny_bind (wpAny_field hos hds (x := vu) rfl (wpAny_bind (wpAny_field hos hds (x := vs) rfl (wpAny_pure ?_)))))))
  refine wpAny_bind (slicePart_ ps ?_)
  show wpAny _ _ (if ((-1 : Int) == 0) = true then _ else _) _ _ s
  rw [if_neg (by decide)]
  refine wpAny_bind (slicePart_ pl (wpAny_bind (slicePart_ pu (wpAny_bind (wpAny_pure ?_)))))
  show wpAny _ _ (match Builtin.Slice.sliceAdjust none none (-1) (n : Int) with | (lo, hi) => pure (lo, (-1 : Int), Builtin.Slice.slicePlaces lo hi (-1))) _ _ s
  rw [pv_adjust n]
  show wpAny _ _ (pure ((n : Int) - 1, (-1 : Int), Builtin.Slice.slicePlaces ((n : Int) - 1) (-1) (-1))) _ _ s
  rw [pv_places]
  exact wpAny_pure h
theorem pv_fm {α β : Type} {f g : α → Option β} : ∀ l : List α, (∀ x ∈ l, f x = g x) → l.filterMap f = l.filterMap g
  | [], _ => rfl
  | a :: l, h => by
    rw [List.filterMap_cons, List.filterMap_cons, h a (List.mem_cons_self ..), pv_fm l fun x hx => h x (List.mem_cons_of_mem _ hx)]
theorem pv_pick (xs : Array Value) : ((List.range xs.size).filterMap fun (m : Nat) => xs[((xs.size : Int) - 1 + (m : Int) * -1).toNat]?).toArray = xs.toList.reverse.toArray := by
  have e : (List.range xs.size).filterMap (fun (m : Nat) => xs[((xs.size : Int) - 1 + (m : Int) * -1).toNat]?) = ((List.range xs.size).map fun k => xs.size - 1 - k).filterMap (xs[·]?) := by
    rw [List.filterMap_map]
    refine pv_fm _ fun m hm => ?_
    have := List.mem_range.mp hm
    show xs[((xs.size : Int) - 1 + (m : Int) * -1).toNat]? = xs[xs.size - 1 - m]?
    congr 1
    omega
  rw [e, PySem.W.krv_range, List.filterMap_reverse, PySem.W.krv_all]
theorem pv_rev {t sl : Addr} {items : Array Value} {vl vu vs : Value} {Q : Value → Shared → Prop} (ht : IsTup s.heap t items) (hs : s.heap.IsSliceOf sl vl vu vs) (pl : IsPart vl none) (pu : IsPart vu none) (ps : IsPart vs (some (-1)))
    (h : Q (.ref s.heap.objs.size) { s with heap := s.heap.push { cls := .type "tuple", data := .seq items.toList.reverse.toArray } })
    (hsz : items.size ≤ sizeLine) : wpAny (model prog w) A (getItem (.ref t) (.ref sl)) Q E s := by
  have htake : sizeOk (.seq items.toList.reverse.toArray) := by
    show items.toList.reverse.toArray.size ≤ sizeLine
    rw [List.size_toArray, List.length_reverse, Array.length_toList]
    exact hsz
  obtain ⟨os, hos, hcs, hds⟩ := id hs
  have hTs : s.TypeIs (.ref sl) "slice" := ⟨os, hos, hcs⟩
  unfold getItem
  try with_reducible refine wpAny_holding ?_
  first | refine wpAny_bind (wpAny_pure ?_) | skip
  refine wpAny_bind (wpAny_sequenceKey ht.typeIs (by decide) ?_)
  refine wpAny_bind (wpAny_callSpecial?_slot (name := Str.ofString "__getitem__") ht.typeIs PyProof.Rows.slot_tuple_getitem
    (wpAny_call_entry PyProof.Rows.slot_tuple_getitem ht.typeIs entry_tuple_getitem ?_ (args_tuple_getitem _ _)))
  show wpAny _ _ (Builtin.Tuple.tupleItemsOf (.ref t) >>= _) _ _ s
  refine wpAny_bind (tupleItemsOf_ ht ?_)
  refine wpAny_bind (wpAny_typeOf hTs ?_)
  rw [if_pos (by decide)]
  refine wpAny_bind (pv_applied hs pl pu ps ?_)
  show wpAny _ _ (if (((items.size : Int) - 1) == 0 && (-1 : Int) == 1 && items.size == items.size) = true then _ else _) _ _ s
  rw [if_neg (by rw [show ((-1 : Int) == 1) = false from by decide, Bool.and_false, Bool.false_and]; exact Bool.false_ne_true), pv_pick]
  first
    | exact wpAny_bind (m := Builtin.Tuple.tupleExact _) (wpAny_newObj_type (wpAny_pure ⟨_, rfl, wpAny_pure h⟩) htake)
    | exact wpAny_bind (m := Builtin.Tuple.tupleExact _) (wpAny_newObj_type (wpAny_bind (wpAny_pure (wpAny_pure ⟨_, rfl, wpAny_pure h⟩))) htake)
    | exact wpAny_bind (wpAny_bind (m := Builtin.Tuple.tupleExact _) (wpAny_newObj_type (wpAny_pure (wpAny_pure ⟨_, rfl, wpAny_pure h⟩)) htake))
    | exact wpAny_bind (wpAny_bind (m := Builtin.Tuple.tupleExact _) (wpAny_newObj_type (wpAny_pure ⟨_, rfl, wpAny_pure h⟩) htake))
end
end HT
namespace PV
open PySem PySem.Spec PyProof.Rows L2
section
variable {X : Cx} {e : Expr} {te : TE} {k : Nat} {p1 p2 p3 pos : Pos}
def tRevT (K : PySem.W.Frag) (te : TE) : TE := fun σ H Q => te σ H fun x H1 => ∃ a xs, x = .ref a ∧ SqT K H1 a xs ∧ ∀ p, H1 p = none → Q (.ref p) (upd H1 p (.tup xs.reverse))
theorem pe_revT (he : PE X e te) : PE X (.Subscript e (.Slice none none (some (.UnaryOp .USub (.Constant (.int 1) k p1) p2)) p3) pos) (tRevT X.K te) := by
  refine ⟨fun pins s σ H Q I h => ?_⟩
  refine Subscript_ (thn (he.run pins s σ H _ I h) fun v s1 ⟨x, H1, I1, r1, q1⟩ => ?_)
  obtain ⟨a, xs, ex, hx, q⟩ := q1
  subst ex
  cases r1
  have hst : PO X (some (.UnaryOp .USub (.Constant (.int 1) k p1) p2)) (tPart (tUn (rU fun i => .int (-i)) (tC (.int 1)))) := po_some (pe_un un_neg pe_int)
  refine wpAny_Slice (thn (po_none.run pins s1 σ H1 (fun o H2 => o = none ∧ H2 = H1) I1 ⟨rfl, rfl⟩) fun vl s2 ⟨l, H2, I2, pl, el, e2⟩ => ?_)
  subst el e2
  refine thn (po_none.run pins s2 σ H2 (fun o H3 => o = none ∧ H3 = H2) I2 ⟨rfl, rfl⟩) fun vu s3 ⟨u, H3, I3, pu, eu, e3⟩ => ?_
  subst eu e3
  refine thn (hst.run pins s3 σ H3 (fun o H4 => o = some (-1) ∧ H4 = H3) I3 ⟨1, rfl, -1, rfl, rfl, rfl⟩) fun vs s4 ⟨o, H4, I4, ps, eo, e4⟩ => ?_
  subst eo e4
  have I5 : Inv X pins σ H4 { s4 with heap := s4.heap.push { cls := .type "slice", data := .fields #[vl, vu, vs] } } := I4.kept (t' := s4.toks) fun b ob q => Heap.get?_push_of_some _ q
  obtain ⟨its, r, ht, hz⟩ := I5.tuple hx
  have hlen := r.length
  show wpAny (model X.prog X.w) X.A (subscriptTail e (.Slice none none (some (.UnaryOp .USub (.Constant (.int 1) k p1) p2)) p3) (.ref a) (.ref s4.heap.objs.size)) (EP X pins σ Q) X.xe { s4 with heap := s4.heap.push { cls := .type "slice", data := .fields #[vl, vu, vs] } }
  refine tail_any (ops := [.ref a, .ref s4.heap.objs.size]) ht.typeIs PyProof.Rows.slot_tuple_getitem.lookup ?_ (by with_unfolding_all rfl)
  refine HT.pv_rev ht (Heap.IsSliceOf.new _ vl vu vs) pl pu ps ?_ (by rw [List.size_toArray]; omega)
  refine ⟨.ref _, _, I5.laid (t' := s4.toks) (o := .tup xs.reverse) (fun b ob q => Heap.get?_push_of_some _ q) (Nat.le_refl _) ?_, rfl, q _ (I5.hok.fresh (Nat.le_refl _))⟩
  exact ⟨by rw [List.length_reverse]; exact hz, _, r.reverse, IsTup.new _ _⟩
end
theorem _root_.L2.PE.or {X : Cx} {e : Expr} {t t' : TE} (h : PE X e t) (h' : PE X e t') : PE X e (fun σ H Q => t σ H Q ∨ t' σ H Q) := ⟨fun pins s σ H Q I q => by
  rcases q with q | q
  · exact h.run pins s σ H Q I q
  · exact h'.run pins s σ H Q I q⟩
theorem _root_.L2.PS.or {X : Cx} {e : Stmt} {t t' : TS} (h : PS X e t) (h' : PS X e t') : PS X e (fun D σ H => t D σ H ∨ t' D σ H) := ⟨fun pins s σ H D I q => by
  rcases q with q | q
  · exact h.run pins s σ H D I q
  · exact h'.run pins s σ H D I q⟩
section
variable {c : Cn} {W : WX} {X : Cx} {env : En} {σ : L2.St} {H F : Hp}
/-- by cases of what the operands are -/
theorem mOp_or {f f1 f2 : List D → Option D} (hf : ∀ ds, f ds = f1 ds ∨ f ds = f2 ds) {os : List Od} {Q : VK} (q : tE c W (mOp f os) σ H Q) : tE c W (mOp f1 os) σ H Q ∨ tE c W (mOp f2 os) σ H Q := by
  obtain ⟨env, F, S, q⟩ := q
  unfold mOp at q
  cases z : evA os env with
  | ok ds e =>
    rw [z] at q
    have q' : Okp c W σ F (rlE c) Q (match f ds with | some d => R.ok d e | none => .no) := q
    rcases hf ds with h | h
    · rw [h] at q'
      refine .inl ⟨env, F, S, ?_⟩
      unfold mOp
      rw [z]
      exact q'
    · rw [h] at q'
      refine .inr ⟨env, F, S, ?_⟩
      unfold mOp
      rw [z]
      exact q'
  | er x e =>
    rw [z] at q
    refine .inl ⟨env, F, S, ?_⟩
    unfold mOp
    rw [z]
    exact q
  | no =>
    rw [z] at q
    exact q.elim
theorem Reps.rev {g : Gc} {F : Hp} : ∀ {ds : List D} {vs : List V}, Reps g F ds vs → Reps g F ds.reverse vs.reverse
  | _, _, .nil => .nil
  | _, _, .cons h t => by
    rw [List.reverse_cons, List.reverse_cons]
    exact (Reps.rev t).append (.cons h .nil)
def oRevT : List D → Option D
  | [.tup xs] => some (.tup xs.reverse)
  | _ => none
def oRevL : List D → Option D
  | [d] => (lstD d).map fun xs => .lst xs.reverse
  | _ => none
/-- x[::-1] -/
def oRev : List D → Option D
  | [.tup xs] => some (.tup xs.reverse)
  | ds => oRevL ds
theorem re_rev {e : Expr} {o : Od} {k : Nat} {p1 p2 p3 pos : Pos} (hK : c.K = X.K) (he : PE X e (o.t c W)) : PE X (.Subscript e (.Slice none none (some (.UnaryOp .USub (.Constant (.int 1) k p1) p2)) p3) pos) (tE c W (mOp oRev [o])) :=
  ((pe_revT he).or (pe_revL he)).imp fun σ H Q q => by
    rw [← hK]
    have q := mOp_or (f1 := oRevT) (f2 := oRevL) (fun ds => by
      unfold oRev
      split
      · exact .inl rfl
      · exact .inr rfl) q
    rcases q with q | q
    · refine .inl (tOp_ok (os := [o]) (r := r1 fun x H1 Q => ∃ a xs, x = .ref a ∧ SqT c.K H1 a xs ∧ ∀ p, H1 p = none → Q (.ref p) (upd H1 p (.tup xs.reverse))) (fun ds vs d F H Q w R e k => ?_) q)
      unfold oRevT at e
      split at e
      · rename_i xs
        cases e
        obtain ⟨x, rfl, h1⟩ := R.one
        obtain ⟨a, vs, rfl, h2, h3, h4⟩ := h1.tup_ w
        refine ⟨a, vs, rfl, h2, fun p n => ?_⟩
        have g2 := Go.frz w n (o := .tup vs.reverse) (fun ps z => by cases z)
        exact k _ _ _ g2 (.tup (SqT.of upd_same) (h4.rev.mono g2.gr.f))
      · cases e
    · refine .inr (tOp_ok (os := [o]) (r := r1 fun x H1 Q => ∃ a xs, x = .ref a ∧ SqL c.K H1 a xs ∧ ∀ p, H1 p = none → Q (.ref p) (upd H1 p (.lst xs.reverse))) (fun ds vs d F H Q w R e k => ?_) q)
      unfold oRevL at e
      split at e
      · rename_i d1
        obtain ⟨x, rfl, h1⟩ := R.one
        cases q1 : lstD d1 with
        | none =>
          rw [q1] at e
          cases e
        | some xs =>
          rw [q1] at e
          cases e
          obtain ⟨a, vs, rfl, h2, h4⟩ := h1.list_ w q1
          refine ⟨a, vs, rfl, h2, fun p n => ?_⟩
          have g2 := Go.frz w n (o := .lst vs.reverse) (fun ps z => by cases z)
          exact k _ _ _ g2 (.lst upd_same (h4.rev.mono g2.gr.f))
      · cases e
/-! ### an own container given up: taken, or frozen -/
theorem SR.drop (S : SR c env σ H F) {i : Nat} (hi : i < env.length) : SR c (env.set i .no) σ H F := by
  have own : ∀ j b, Own (env.set i .no) σ j b → j ≠ i ∧ Own env σ j b := fun j b ⟨g1, d, g2⟩ => by
    by_cases hj : j = i
    · subst hj
      rw [List.getElem?_set_self hi] at g2
      rcases g2 with g2 | g2 <;> cases g2
    · rw [List.getElem?_set_ne (Ne.symm hj)] at g2
      exact ⟨hj, g1, d, g2⟩
  refine ⟨S.gr, S.there, S.rt, by simpa using S.len, fun j d e => ?_, fun j d e => ?_, fun j d e => ?_, fun j k b g1 g2 => S.apart j k b (own j b g1).2 (own k b g2).2⟩
  · by_cases hj : j = i
    · subst hj
      rw [List.getElem?_set_self hi] at e
      cases e
    · rw [List.getElem?_set_ne (Ne.symm hj)] at e
      exact S.fz j d e
  · by_cases hj : j = i
    · subst hj
      rw [List.getElem?_set_self hi] at e
      cases e
    · rw [List.getElem?_set_ne (Ne.symm hj)] at e
      exact S.ow j d e
  · by_cases hj : j = i
    · subst hj
      rw [List.getElem?_set_self hi] at e
      cases e
    · rw [List.getElem?_set_ne (Ne.symm hj)] at e
      exact S.rf j d e
theorem SR.drop_own (S : SR c env σ H F) {i : Nat} {d : D} {a : Addr} (hd : env[i]? = some (.ow d)) (ha : σ[i]? = some (some (.ref a))) : ∀ j, ¬ Own (env.set i .no) σ j a := fun j ⟨g1, d', g2⟩ => by
  have hi : i < env.length := by
    by_cases h : i < env.length
    · exact h
    · rw [List.getElem?_eq_none (by omega)] at hd
      cases hd
  by_cases hj : j = i
  · subst hj
    rw [List.getElem?_set_self hi] at g2
    rcases g2 with g2 | g2 <;> cases g2
  · rw [List.getElem?_set_ne (Ne.symm hj)] at g2
    exact hj (S.apart j i a ⟨g1, d', g2⟩ ⟨ha, d, .inl hd⟩)
def mTake (i : Nat) : En → R D := fun env => match env[i]? with
  | some (.ow d) => .ok d (env.set i .no)
  | _ => .no
theorem lt_of_get {e : En} {i : Nat} {s : Sl} (h : e[i]? = some s) : i < e.length := by
  by_cases hi : i < e.length
  · exact hi
  · rw [List.getElem?_eq_none (by omega)] at h
    cases h
theorem re_take {i : Nat} {e : Expr} (h : PE X e (tVar i)) : PE X e (tF c W (mTake i)) := h.imp fun σ H Q ⟨env, F, S, q⟩ => by
  unfold mTake at q
  split at q
  · rename_i d z
    obtain ⟨a, o, h1, h2, h3, h4, h5⟩ := S.ow i d z
    refine ⟨_, h1, q _ H F (S.drop (lt_of_get z)) (Same.refl _) ⟨a, o, rfl, h2, h3, h4, fun z => S.rt a z h4, S.drop_own z h1, h5⟩⟩
  · exact q.elim
/-- from here on the own container is kept as it stands -/
def sFz (i : Nat) (m : En → Rs) : En → Rs := fun env => match env[i]? with
  | some (.ow d) => m (env.set i (.fz d))
  | some (.fz _) => m env
  | _ => .no
theorem set_self {σ : L2.St} {i : Nat} {x : Option V} (h : σ[i]? = some x) : σ.set i x = σ := by
  apply List.ext_getElem?
  intro j
  by_cases hj : j = i
  · subst hj
    have : j < σ.length := by
      by_cases hi : j < σ.length
      · exact hi
      · rw [List.getElem?_eq_none (by omega)] at h
        cases h
    rw [List.getElem?_set_self this, h]
  · rw [List.getElem?_set_ne (Ne.symm hj)]
theorem rss_fz {i : Nat} {sts : List Stmt} {m : En → Rs} (h : PSs X sts (tS c W m)) : PSs X sts (tS c W (sFz i m)) := ⟨fun pins s σ H Z I q => by
  obtain ⟨env, F, S, q⟩ := q
  unfold sFz at q
  split at q
  · rename_i d z
    obtain ⟨a, o, h1, h2, h3, h4, h5⟩ := S.ow i d z
    have hi := lt_of_get z
    have S1 := S.drop hi
    have no := S.drop_own z h1
    have fr : free (env.set i .no) i = true := by
      unfold free
      rw [List.getElem?_set_self hi]
    cases hl : lockO d with
    | false =>
      obtain ⟨S2, s2⟩ := S1.freeze h2 h3 h4 no h5
      have S3 := S2.set fr ((h5.mono s2).rep hl upd_same)
      rw [set_self h1, List.set_set] at S3
      exact h.run pins s σ H Z I ⟨_, _, S3, OkS.mono q s2⟩
    | true =>
      obtain ⟨od, I2⟩ := I.lock h2 h5.mut
      obtain ⟨S2, s2⟩ := S1.lock (od := od) h2 h3 h4 no h5
      have S3 := S2.set fr ((h5.mono s2).repL hl upd_same)
      rw [set_self h1, List.set_set] at S3
      exact h.run pins s σ _ Z I2 ⟨_, _, S3, OkS.mono q s2⟩
  · exact h.run pins s σ H Z I ⟨env, F, S, q⟩
  · exact q.elim⟩
end
end PV

namespace PV
open PySem PySem.Spec PyProof.Rows L2
/-! ### strictly ascending lists -/
def insU (x : Int) : List Int → List Int
  | [] => [x]
  | y :: r => if x < y then x :: y :: r else if x = y then y :: r else y :: insU x r
def srtU : List Int → List Int
  | [] => []
  | x :: r => insU x (srtU r)
theorem insU_mem (x k : Int) : ∀ l : List Int, k ∈ insU x l ↔ k = x ∨ k ∈ l
  | [] => by unfold insU; simp
  | y :: r => by
    unfold insU
    split
    · simp
    · split
      · rename_i h
        subst h
        simp
      · rw [List.mem_cons, insU_mem x k r, List.mem_cons]
        constructor
        · rintro (h | h | h)
          · exact .inr (.inl h)
          · exact .inl h
          · exact .inr (.inr h)
        · rintro (h | h | h)
          · exact .inr (.inl h)
          · exact .inl h
          · exact .inr (.inr h)
theorem insU_srt (x : Int) : ∀ {l : List Int}, l.Pairwise (· < ·) → (insU x l).Pairwise (· < ·)
  | [], _ => by unfold insU; simp
  | y :: r, h => by
    unfold insU
    rw [List.pairwise_cons] at h
    split
    · rename_i hx
      refine List.pairwise_cons.mpr ⟨fun z hz => ?_, List.pairwise_cons.mpr h⟩
      rcases List.mem_cons.mp hz with e | hz
      · rw [e]; exact hx
      · exact Int.lt_trans hx (h.1 z hz)
    · split
      · exact List.pairwise_cons.mpr h
      · rename_i hx hn
        refine List.pairwise_cons.mpr ⟨fun z hz => ?_, insU_srt x h.2⟩
        rcases (insU_mem x z r).mp hz with e | hz
        · rw [e]; omega
        · exact h.1 z hz
theorem srtU_mem (k : Int) : ∀ l : List Int, k ∈ srtU l ↔ k ∈ l
  | [] => by unfold srtU; simp
  | x :: r => by
    unfold srtU
    rw [insU_mem, srtU_mem k r, List.mem_cons]
theorem srtU_srt : ∀ l : List Int, (srtU l).Pairwise (· < ·)
  | [] => by unfold srtU; exact .nil
  | x :: r => by
    unfold srtU
    exact insU_srt x (srtU_srt r)
theorem srt_uniq : ∀ {a b : List Int}, a.Pairwise (· < ·) → b.Pairwise (· < ·) → (∀ k, k ∈ a ↔ k ∈ b) → a = b
  | [], [], _, _, _ => rfl
  | [], y :: s, _, _, h => absurd ((h y).mpr (List.mem_cons_self ..)) (by simp)
  | x :: r, [], _, _, h => absurd ((h x).mp (List.mem_cons_self ..)) (by simp)
  | x :: r, y :: s, ha, hb, h => by
    rw [List.pairwise_cons] at ha hb
    have e : x = y := by
      rcases List.mem_cons.mp ((h x).mp (List.mem_cons_self ..)) with e | e
      · exact e
      · rcases List.mem_cons.mp ((h y).mpr (List.mem_cons_self ..)) with e2 | e2
        · exact e2.symm
        · have h1 := hb.1 x e
          have h2 := ha.1 y e2
          omega
    subst e
    congr 1
    refine srt_uniq ha.2 hb.2 fun k => ?_
    constructor
    · intro hk
      rcases List.mem_cons.mp ((h k).mp (List.mem_cons_of_mem _ hk)) with e | e
      · have := ha.1 k hk
        omega
      · exact e
    · intro hk
      rcases List.mem_cons.mp ((h k).mpr (List.mem_cons_of_mem _ hk)) with e | e
      · have := hb.1 k hk
        omega
      · exact e
theorem srtU_self {l : List Int} : srtU l = l ↔ l.Pairwise (· < ·) := ⟨fun h => h ▸ srtU_srt l, fun h => srt_uniq (srtU_srt l) h (fun k => srtU_mem k l)⟩
/-! ### sorted(set(x)), x a tuple of ints, fewer than 64 -/
section
variable {X : Cx}
def rSetI (K : PySem.W.Frag) (w : World) : List V → Hp → VK → Prop := fun xs H Q => ∃ (p : Addr) (ns : List Int), xs = [.ref p] ∧ SqT K H p (ns.map V.int) ∧ ns.length ≤ 1000 ∧
  ∀ (a : Addr) (n : Nat), H a = none → n ≤ ns.length → Q (.ref a) (upd H a (SetO w a (fun j => decide (j ∈ ns)) n))
theorem cr_setI (hc : X.calm = true) : CallR X (.type "set") (rSetI X.K X.w) := by
  intro pins s σ H xs us Q I r h
  obtain ⟨p, ns, rfl, hq, hl, q⟩ := h
  rw [Vals.ref1 r]
  obtain ⟨its, rv, pt, hz⟩ := I.tuple hq
  have hi : IntsAre its.toArray.toList ns := ints_of_vals rv
  refine call_set_tupI ns (I.ok.hd hc) (show s.heap.IsTuple p its.toArray from pt) hi (by unfold scanBound; omega) fun h' tk n R1 hn k => ?_
  exact ⟨.ref s.heap.objs.size, _, I.laid (t' := tk) k (Nat.le_refl _) (setO_new R1), rfl, q _ n (I.hok.fresh (Nat.le_refl _)) hn⟩
end
section
variable {c : Cn} {W : WX} {X : Cx} {env : En} {σ : L2.St} {H F : Hp}
def oSrtSet : List D → Option D
  | [.tup xs] => (intsD xs).bind fun ns => if ns.length < 64 then some (.lst ((srtU ns).map D.int)) else none
  | _ => none
theorem re_srtSet {e : Expr} {o : Od} {p p2 pos pos2 : Pos} (hK : c.K = X.K) (hc : X.calm = true) (hg : Gl X "sorted") (hm : X.mg "sorted" = none) (hg2 : Gl X "set") (hm2 : X.mg "set" = none) (he : PE X e (o.t c W))
    (h1 : starEach [.Call (.Name "set" p2) [e] [] pos2] X.env = (false, eval (.Call (.Name "set" p2) [e] [] pos2) X.env) :: starEach [] X.env := by rfl) (h2 : starEach [e] X.env = (false, eval e X.env) :: starEach [] X.env := by rfl)
    (hpl : (backTo pos (starEach [] X.env)).any (·.1) = false := by rfl) (hpl2 : (backTo pos2 (starEach [] X.env)).any (·.1) = false := by rfl) :
    PE X (.Call (.Name "sorted" p) [.Call (.Name "set" p2) [e] [] pos2] [] pos) (tF c W (mOp oSrtSet [o])) :=
  (pe_callB (cr_sortedSet hc) hg hm PyProof.Rows.boot_sorted (pa_cons (pe_callTy (cr_setI hc) hg2 hm2 PyProof.Rows.boot_set (pa_cons he pa_nil h2) (by decide) (by decide) h2 hpl2) pa_nil h1) (by decide) (by decide) h1 hpl).imp fun σ H Q q => by
    rw [← hK]
    obtain ⟨env, F, S, q⟩ := q
    show tOds c W [o] σ H fun vs H1 => rSetI c.K X.w vs H1 (fun y H2 => rSortedSet X.w [y] H2 Q)
    refine tOdsA (os := [o]) S q fun ds e vs H1 F1 S1 s1 r1 h1 => ?_
    unfold oSrtSet at h1
    split at h1
    · rename_i d q1
      split at q1
      · rename_i xs
        cases q2 : intsD xs with
        | none =>
          rw [q2] at q1
          cases q1
        | some ns =>
          rw [q2] at q1
          have q3 : (if ns.length < 64 then some (D.lst ((srtU ns).map D.int)) else none) = some d := q1
          split at q3
          · rename_i hl
            cases q3
            obtain ⟨x, rfl, h2⟩ := r1.one
            obtain ⟨a, vs, rfl, h3, h4, h5⟩ := h2.tup_ S1.wf
            rw [h5.ints q2] at h3
            refine ⟨a, ns, rfl, h3, by omega, fun b n nb hn => ?_⟩
            refine ⟨b, _, n, rfl, upd_same, by omega, fun ms p hp hm hn2 np => ?_⟩
            have e : ms = srtU ns := srt_uniq hp (srtU_srt ns) fun k => by rw [hm k, srtU_mem]; simp
            subst e
            have S2 := S1.fresh (o := SetO X.w b (fun j => decide (j ∈ ns)) n) nb rfl
            exact h1 _ _ F1 (S2.fresh np rfl) (Same.refl _) (S2.newF np (.lst (Reps.ofInts _)))
          · cases q3
      · cases q1
    · exact h1.elim
/-! ### comprehensions kept as they are, on one line -/
theorem tE_tF {m : En → R D} {Q : VK} (hl : ∀ env d e, m env = .ok d e → lockO d = false) (q : tE c W m σ H Q) : tF c W m σ H Q := by
  obtain ⟨env, F, S, q⟩ := q
  refine ⟨env, F, S, ?_⟩
  cases z : m env with
  | ok d e1 =>
    rw [z] at q
    intro v H1 F1 S1 s1 ⟨a, o, ev, h1, h2, h3, _, h4, h5⟩
    subst ev
    obtain ⟨S2, s2⟩ := S1.freeze h1 h2 h3 h4 h5
    exact q _ H1 _ S2 (s1.trans s2) ((h5.mono s2).rep (hl _ _ _ z) upd_same)
  | er x e1 =>
    rw [z] at q
    exact q
  | no =>
    rw [z] at q
    exact q
theorem mLc_lst {mi : En → R (List D)} {T : Tg} {t : En → R Bool} {m : En → R D} {vs : List Nat} (env : En) (d : D) (e : En) (h : mLc mi T t m vs env = .ok d e) : lockO d = false := by
  unfold mLc at h
  cases z : mi env with
  | ok ds e1 =>
    rw [z] at h
    have h' : (if ds.length ≤ lim then (lcL T t m vs ds (wipeE e1 vs)).bind fun ys e' => R.ok (D.lst ys) (backE e1 e' vs) else .no) = .ok d e := h
    split at h'
    · cases z2 : lcL T t m vs ds (wipeE e1 vs) with
      | ok ys e2 =>
        rw [z2] at h'
        cases h'
        rfl
      | er x e2 =>
        rw [z2] at h'
        cases h'
      | no =>
        rw [z2] at h'
        cases h'
    · cases h'
  | er x e1 =>
    rw [z] at h
    cases h
  | no =>
    rw [z] at h
    cases h
theorem rs_lcZ {i : Nat} {y : Str} {py : Pos} {elt tg iter : Expr} {ifs : List Expr} {scope : Scope} {pos spos : Pos} {mi : En → R (List PV.D)} {T : Tg} {t : En → R Bool} {m : En → R PV.D} {own : List (Str × Nat)} (hc : X.calm = true) (hN : X.N.Nodup) (hy : X.N[i]? = some y) (hyl : X.env.scope.names.lookup y = some .local)
    (hsw : swapsWith (.ListComp elt [⟨tg, iter, ifs, 0⟩] scope pos) (some (.Name y py)) spos.line X.env = pure true) (ok : BlkOk X.N X.env.scope scope own) (hT : okT (own.map (·.2)) T = true) (hi : PI X tg iter (tI c W mi))
    (hg : ∀ (s : Shared) (H : Hp) (C : Addr) (cl : List (Str × Addr)) (fp : List Addr), PG (X.blk s H scope (compEnvC scope cl C X.env) fp) tg (tGx c T)) (ht : ∀ (s : Shared) (H : Hp) (C : Addr) (cl : List (Str × Addr)) (fp : List Addr), PTs (X.blk s H scope (compEnvC scope cl C X.env) fp) ifs (tTx c t))
    (he : ∀ (s : Shared) (H : Hp) (C : Addr) (cl : List (Str × Addr)) (fp : List Addr), PE (X.blk s H scope (compEnvC scope cl C X.env) fp) elt (tEx c m)) (hs : ∀ x, foldedSetIterable iter X.env x = pure x := by intro _; rfl) :
    PS X (.Assign [.Name y py] (.ListComp elt [⟨tg, iter, ifs, 0⟩] scope pos) spos) (tS c W (sSet i (mLc mi T t m (own.map (·.2))))) := (ps_setLc hc hN hy hyl hsw hi ok hg ht he hs).imp fun Z σ H q =>
  lc_ok hT (tE_tF mLc_lst (set_ok q))
end
end PV

namespace PV
open PySem PySem.Spec PyProof.Rows L2
/-! ### dicts by data -/
def keyD : D → Option Key
  | .int i => some (.inl i)
  | .str s => some (.inr s)
  | _ => none
def dKey : Key → D
  | .inl i => .int i
  | .inr s => .str s
def valD (kvs : List (Key × D)) (k : Key) : Option D := match kvs with
  | [] => none
  | (j, d) :: r => if j = k then some d else valD r k
def hasD (kvs : List (Key × D)) (k : Key) : Bool := (valD kvs k).isSome
def putD (kvs : List (Key × D)) (k : Key) (d : D) : List (Key × D) := if (valD kvs k).isSome = true then kvs.map (fun kv => if kv.1 = k then (kv.1, d) else kv) else kvs ++ [(k, d)]
section
variable {g : Gc} {F H : Hp}
theorem RepK.val (k : Key) : ∀ {kvs : List (Key × D)} {vs : List (Key × V)}, RepK g F kvs vs → (∀ d, valD kvs k = some d → ∃ v, valV vs k = some v ∧ Rep g F d v) ∧ (valD kvs k = none → valV vs k = none)
  | _, _, .nil => ⟨fun d e => (by unfold valD at e; cases e), fun _ => rfl⟩
  | _, _, @RepK.cons _ _ j x xs v vs h t => by
    obtain ⟨h1, h2⟩ := RepK.val k t
    by_cases e : j = k
    · refine ⟨fun d z => ?_, fun z => ?_⟩
      · unfold valD at z
        rw [if_pos e] at z
        cases z
        exact ⟨v, valV_pos e, h⟩
      · unfold valD at z
        rw [if_pos e] at z
        cases z
    · refine ⟨fun d z => ?_, fun z => ?_⟩
      · unfold valD at z
        rw [if_neg e] at z
        rw [valV_neg (p := (j, v)) e]
        exact h1 d z
      · unfold valD at z
        rw [if_neg e] at z
        rw [valV_neg (p := (j, v)) e]
        exact h2 z
theorem RepK.some_eq {k : Key} {kvs : List (Key × D)} {vs : List (Key × V)} (r : RepK g F kvs vs) : (valV vs k).isSome = (valD kvs k).isSome := by
  obtain ⟨h1, h2⟩ := r.val k
  cases q : valD kvs k with
  | none =>
    rw [h2 q]
    rfl
  | some d =>
    obtain ⟨v, e, _⟩ := h1 d q
    rw [e]
    rfl
theorem RepK.put {k : Key} {d : D} {v : V} (rv : Rep g F d v) {kvs : List (Key × D)} {vs : List (Key × V)} (r : RepK g F kvs vs) : RepK g F (putD kvs k d) (putK vs k v) := by
  have mp : ∀ {kvs : List (Key × D)} {vs : List (Key × V)}, RepK g F kvs vs → RepK g F (kvs.map fun kv => if kv.1 = k then (kv.1, d) else kv) (vs.map fun kv => if kv.1 = k then (kv.1, v) else kv) := by
    intro kvs
    induction kvs with
    | nil =>
      intro vs r
      cases r
      exact .nil
    | cons p kvs ih =>
      intro vs r
      cases r with
      | @cons j x _ u us h t =>
        rw [List.map_cons, List.map_cons]
        by_cases e : j = k
        · rw [if_pos e, if_pos e]
          exact .cons rv (ih t)
        · rw [if_neg e, if_neg e]
          exact .cons h (ih t)
  have ap : ∀ {kvs : List (Key × D)} {vs : List (Key × V)}, RepK g F kvs vs → RepK g F (kvs ++ [(k, d)]) (vs ++ [(k, v)]) := by
    intro kvs
    induction kvs with
    | nil =>
      intro vs r
      cases r
      exact .cons rv .nil
    | cons p kvs ih =>
      intro vs r
      cases r with
      | cons h t => exact .cons h (ih t)
  unfold putD putK
  rw [valV_any, r.some_eq]
  split
  · exact mp r
  · exact ap r
theorem keyD_ok {d : D} {k : Key} {v : V} (e : keyD d = some k) (h : Rep1 g F H d v) : v = kV k := by
  unfold keyD at e
  split at e
  · cases e
    rw [h.int_]
    rfl
  · cases e
    rw [h.str_]
    rfl
  · cases e
theorem dKey_ok {k : Key} : Rep g F (dKey k) (kV k) := by
  cases k with
  | inl i => exact .int
  | inr s => exact .str
end
/-! ### x[k] of all kinds -/
def oDIx : List D → Option D
  | [.dik kvs, k] => (keyD k).bind (valD kvs)
  | _ => none
def oIxx : List D → Option D
  | [.dik kvs, k] => (keyD k).bind (valD kvs)
  | ds => oIx ds
section
variable {c : Cn} {W : WX} {X : Cx} {env : En} {σ : L2.St} {H F : Hp}
theorem re_ixx {a b : Expr} {o1 o2 : Od} {pos : Pos} (hK : c.K = X.K) (hu : X.A.units + 64 < cLine) (ha : PE X a (o1.t c W)) (hb : PE X b (o2.t c W)) (hs : PlainIx b) (hs2 : NoSl b) : PE X (.Subscript a b pos) (tE c W (mOp oIxx [o1, o2])) :=
  ((pe_dget (by omega) ha hb hs2).or (pe_ix ix_seq ha hb hs)).imp fun σ H Q q => by
    have q := mOp_or (f1 := oDIx) (f2 := oIx) (fun ds => by
      unfold oIxx
      split
      · exact .inl rfl
      · exact .inr rfl) q
    rcases q with q | q
    · refine .inl (tOp_ok (os := [o1, o2]) (r := r2 fun x y H2 Q => ∃ a v, x = .ref a ∧ DGet H2 a y (some v) ∧ Q v H2) (fun ds vs d F H Q w R e k => ?_) q)
      unfold oDIx at e
      split at e
      · rename_i kvs kd
        obtain ⟨x, y, rfl, h1, h2⟩ := R.two
        cases q1 : keyD kd with
        | none =>
          rw [q1] at e
          cases e
        | some ky =>
          rw [q1] at e
          obtain ⟨a, vs, rfl, h3, h4⟩ := h1.dik_ w
          obtain ⟨v, h5, h6⟩ := (h4.val ky).1 d e
          exact ⟨a, v, rfl, .inl ⟨vs, ky, h3, keyD_ok q1 h2, h5.symm⟩, k v H F (Go.refl w) h6⟩
      · cases e
    · exact .inr (tOp_ok (r := r2 (rIx X.K)) (by rw [← hK]; exact oa_ix) q)
/-! ### in -/
def rDIn (neg : Bool) : R2 := fun y x H Q => ∃ a o, x = .ref a ∧ DGet H a y o ∧ Q (.bl (if neg then !o.isSome else o.isSome)) H
theorem or_din (hu : X.A.units + 64 < cLine) : OpR X (compareOp .In) (rDIn false) := by
  intro pins s σ H y x u v Q I ry rx h
  obtain ⟨a, o, rfl, g, q⟩ := h
  cases rx
  exact d_in (by omega) I g ry fun s3 I3 => ⟨.bl o.isSome, H, I3, rfl, q⟩
theorem or_dnotin (hu : X.A.units + 64 < cLine) : OpR X (compareOp .NotIn) (rDIn true) := by
  intro pins s σ H y x u v Q I ry rx h
  obtain ⟨a, o, rfl, g, q⟩ := h
  cases rx
  exact d_notIn (by omega) I g ry fun s3 I3 => ⟨.bl (!o.isSome), H, I3, rfl, q⟩
def rInX (K : PySem.W.Frag) (neg : Bool) : R2 := fun x y H Q => rIn K neg x y H Q ∨ rDIn neg x y H Q
def inX (neg : Bool) : List D → Option D
  | [k, .dik kvs] => (keyD k).map fun k => .bl (if neg then !(valD kvs k).isSome else (valD kvs k).isSome)
  | ds => inD neg ds
theorem oa_inX {g : Gc} (neg : Bool) : OpA g (r2 (rInX g.K neg)) (inX neg) := fun ds vs d F H Q w R e k => by
  unfold inX at e
  split at e
  · rename_i kd kvs
    obtain ⟨x, y, rfl, h1, h2⟩ := R.two
    cases q1 : keyD kd with
    | none =>
      rw [q1] at e
      cases e
    | some ky =>
      rw [q1] at e
      cases e
      obtain ⟨a, vs, rfl, h3, h4⟩ := h2.dik_ w
      refine .inr ⟨a, valV vs ky, rfl, .inl ⟨vs, ky, h3, keyD_ok q1 h1, rfl⟩, ?_⟩
      rw [h4.some_eq]
      exact k _ H F (Go.refl w) .bl
  · have h := oa_in (g := g) neg ds vs d F H Q w R e k
    match vs, h with
    | [x, y], h => exact .inl h
/-! ### d.get(k, x) -/
def mGet (o : Od) (ms : List (En → R D)) (f : List (Key × D) → List D → Option D) : En → R D := fun env => match o with
  | .m h => (h env).bind fun d e => (match d with
    | .dik kvs => (evS ms e).bind fun ds e' => (match f kvs ds with
        | some y => .ok y e'
        | none => .no)
    | _ => .no)
  | .s i => match val env i with
    | some (.dik _) => (evS ms env).bind fun ds e' => (match val e' i with
      | some (.dik kvs) => (match f kvs ds with
        | some y => .ok y e'
        | none => .no)
      | _ => .no)
    | _ => .no
theorem get_ok {o : Od} {ms : List (En → R D)} {f : List (Key × D) → List D → Option D} {r : Addr → List V → Hp → VK → Prop}
    (hr : ∀ {F H : Hp} {a : Addr} {kvs : List (Key × D)} {vs : List (Key × V)} {ds : List D} {ys : List V} {y : D} {Q : VK}, WF c.toGc F H → Rd H a (.dK vs) → RepK c.toGc F kvs vs → Reps c.toGc F ds ys → f kvs ds = some y →
      (∀ v, Rep c.toGc F y v → Q v H) → r a ys H Q)
    {Q : VK} (q : tE c W (mGet o ms f) σ H Q) : o.t c W σ H fun x H1 => ∃ a, x = .ref a ∧ IsD H1 a ∧ tMs c W ms σ H1 fun ys H2 => r a ys H2 Q := by
  obtain ⟨env, F, S, q⟩ := q
  unfold mGet at q
  cases o with
  | m h =>
    refine tM_bind S q fun d e v H1 F1 S1 s1 r1 h1 => ?_
    split at h1
    · rename_i kvs
      cases r1 with
      | @dik a od _ vs ha rk =>
        refine ⟨a, rfl, .inl ⟨vs, .inr ⟨od, S1.wf.sub _ _ ha⟩⟩, ?_⟩
        refine tMsA ms S1 h1 fun ds e' ys H2 F2 S2 s2 r2 hl h2 => ?_
        split at h2
        · rename_i y hy
          exact hr S2.wf (.inr ⟨od, S2.wf.sub _ _ (s2 _ _ ha)⟩) (rk.mono s2) r2 hy fun v rv => h2 v H2 F2 S2 (Same.refl _) rv
        · exact h2.elim
    · exact h1.elim
  | s i =>
    have q : Okp c W σ F (rlE c) Q (match val env i with
    | some (.dik _) => (evS ms env).bind fun ds e' => (match val e' i with
      | some (.dik kvs) => (match f kvs ds with
        | some y => .ok y e'
        | none => .no)
      | _ => .no)
    | _ => .no) := q
    split at q
    · rename_i kvs0 hv
      obtain ⟨v, g1, g2⟩ := S.val hv
      obtain ⟨a, vs0, rfl, g3, _⟩ := g2.dik_ S.wf
      refine ⟨_, g1, a, rfl, .inl ⟨vs0, g3⟩, ?_⟩
      refine tMsA ms S q fun ds e' ys H2 F2 S2 s2 r2 hl h2 => ?_
      split at h2
      · rename_i kvs hv2
        split at h2
        · rename_i y hy
          obtain ⟨v2, k1, k2⟩ := S2.val hv2
          obtain ⟨b, vs, rfl, k3, k4⟩ := k2.dik_ S2.wf
          rw [g1] at k1
          cases k1
          exact hr S2.wf k3 k4 r2 hy fun v rv => h2 v H2 F2 S2 (Same.refl _) rv
        · exact h2.elim
      · exact h2.elim
    · exact q.elim
def fGet2 (kvs : List (Key × D)) : List D → Option D
  | [k, x] => (keyD k).map fun k => (valD kvs k).getD x
  | _ => none
def fGet1 (kvs : List (Key × D)) : List D → Option D
  | [k] => (keyD k).map fun k => (valD kvs k).getD .non
  | _ => none
theorem valD_get {g : Gc} {F : Hp} {kvs : List (Key × D)} {vs : List (Key × V)} {k : Key} {x : D} {y : V} (r : RepK g F kvs vs) (rx : Rep g F x y) : Rep g F ((valD kvs k).getD x) ((valV vs k).getD y) := by
  obtain ⟨h1, h2⟩ := r.val k
  cases q : valD kvs k with
  | none =>
    rw [h2 q]
    exact rx
  | some d =>
    obtain ⟨v, e, rv⟩ := h1 d q
    rw [e]
    exact rv
theorem re_get2 {o e f : Expr} {od : Od} {m1 m2 : En → R D} {apos cpos : Pos} (hu : X.A.units + 64 < cLine) (ho : PE X o (od.t c W)) (he : PE X e (tE c W m1)) (hf : PE X f (tE c W m2)) (m : M2 X o "get" apos e f cpos := by exact ⟨rfl, rfl, rfl, rfl⟩) :
    PE X (.Call (.Attribute o "get" apos) [e, f] [] cpos) (tE c W (mGet od [m1, m2] fGet2)) := (pe_dget2 (by omega) ho he hf m).imp fun σ H Q q =>
  get_ok (r := fun a ys H2 Q => match ys with
    | [y, z] => ∃ o, DGet H2 a y o ∧ Q (o.getD z) H2
    | _ => False) (fun {F H a kvs vs ds ys y Q} w h1 h2 h3 h4 k => by
    unfold fGet2 at h4
    split at h4
    · rename_i kd x
      cases q1 : keyD kd with
      | none =>
        rw [q1] at h4
        cases h4
      | some ky =>
        rw [q1] at h4
        cases h4
        match ys, h3 with
        | [u, z], .cons r1 (.cons r2 .nil) => exact ⟨valV vs ky, .inl ⟨vs, ky, h1, keyD_ok q1 (.st r1 : Rep1 _ F H _ _), rfl⟩, k _ (valD_get h2 r2)⟩
    · cases h4) q
theorem re_get1 {o e : Expr} {od : Od} {m1 : En → R D} {apos cpos : Pos} (hu : X.A.units + 64 < cLine) (ho : PE X o (od.t c W)) (he : PE X e (tE c W m1)) (m : M1 X o "get" apos e cpos := by exact ⟨rfl, rfl, rfl, rfl⟩) :
    PE X (.Call (.Attribute o "get" apos) [e] [] cpos) (tE c W (mGet od [m1] fGet1)) := (pe_dget1 (by omega) ho he m).imp fun σ H Q q =>
  get_ok (r := fun a ys H2 Q => match ys with
    | [y] => ∃ o, DGet H2 a y o ∧ Q (o.getD .non) H2
    | _ => False) (fun {F H a kvs vs ds ys y Q} w h1 h2 h3 h4 k => by
    unfold fGet1 at h4
    split at h4
    · rename_i kd
      cases q1 : keyD kd with
      | none =>
        rw [q1] at h4
        cases h4
      | some ky =>
        rw [q1] at h4
        cases h4
        match ys, h3 with
        | [u], .cons r1 .nil => exact ⟨valV vs ky, .inl ⟨vs, ky, h1, keyD_ok q1 (.st r1 : Rep1 _ F H _ _), rfl⟩, k _ (valD_get h2 .non)⟩
    · cases h4) q
/-! ### {} -/
theorem re_dnew {pos : Pos} : PE X (.Dict [] [] pos) (tF c W (mK (.dik []))) := pe_dnewK.imp fun σ H Q ⟨env, F, S, q⟩ => fun p n => q _ _ F (S.fresh n rfl) (Same.refl _) (S.newF n (.dik .nil))
theorem re_dnewT {pos : Pos} : PE X (.Dict [] [] pos) (tF c W (mK (.dit []))) := pe_dnewT.imp fun σ H Q ⟨env, F, S, q⟩ => fun p n => q _ _ F (S.fresh n rfl) (Same.refl _) (S.newF n (.dit .nil))
/-! ### x[k] = e, x an own list or dict -/
def kSub (x k d : D) : Option D := match x with
  | .lst xs => (kSetIx xs k d).map .lst
  | .dik kvs => if kvs.length < lim then (keyD k).map fun k => .dik (putD kvs k d) else none
  | _ => none
def sSub (i : Nat) (mk me : En → R D) : En → Rs := fun env => (me env).bs fun d e => match val e i with
  | none => .no
  | some _ => (mk e).bs fun k e' => match ownV e' i with
    | some x => (match kSub x k d with
      | some y => .nx (setV e' i y)
      | none => .no)
    | none => .no
/-- .. a dict -/
def sSubD (i : Nat) (mk me : En → R D) : En → Rs := fun env => (me env).bs fun d e => match val e i with
  | none => .no
  | some _ => (mk e).bs fun k e' => match ownV e' i with
    | some (.dik kvs) => (match kSub (.dik kvs) k d with
      | some y => .nx (setV e' i y)
      | none => .no)
    | _ => .no
theorem subD_ok {Z : Ends} {i : Nat} {mk me : En → R D} (q : tS c W (sSubD i mk me) Z σ H) : sDPut (tVar i) (tE c W mk) (tE c W me) Z σ H := by
  obtain ⟨env, F, S, q⟩ := q
  refine tM_bs S q fun d e v H1 F1 S1 s1 r1 h1 => ?_
  split at h1
  · exact h1.elim
  · rename_i d' hv
    obtain ⟨u, g1, _⟩ := S1.val hv
    refine ⟨u, g1, ?_⟩
    refine tM_bs S1 h1 fun k e2 y H2 F2 S2 s2 r2 h2 => ?_
    split at h2
    · rename_i kvs z
      obtain ⟨a, o, ow, k1, k2, k3, k4⟩ := S2.own_at z
      have ev : u = .ref a := by
        have e1 := ow.1
        rw [g1] at e1
        cases e1
        rfl
      subst ev
      have k3' := k3
      cases k3 with
      | @dik _ vs rx =>
        split at h2
        · rename_i ys hk
          unfold kSub at hk
          have hk' : (if kvs.length < lim then (keyD k).map fun k => D.dik (putD kvs k d) else none) = some ys := hk
          split at hk'
          · rename_i hl
            cases q1 : keyD k with
            | none =>
              rw [q1] at hk'
              cases hk'
            | some ky =>
              rw [q1] at hk'
              cases hk'
              exact ⟨a, _, rfl, .inl ⟨vs, ky, k1, keyD_ok q1 (.st r2 : Rep1 _ F2 H2 _ _), lim_lt (by rw [← rx.length]; exact hl), rfl⟩, h2 σ _ F2 (S2.wr z ow k1 k2 k3' (.dik (rx.put (r1.mono s2)))) (Same.refl _)⟩
          · cases hk'
        · exact h2.elim
    · exact h2.elim
theorem sub_or {i : Nat} {mk me : En → R D} (env : En) : sSub i mk me env = sSetIx i mk me env ∨ sSub i mk me env = sSubD i mk me env := by
  unfold sSub sSetIx sSubD
  cases me env with
  | ok d e =>
    show (match val e i with | none => Rs.no | some _ => _) = (match val e i with | none => Rs.no | some _ => _) ∨ (match val e i with | none => Rs.no | some _ => _) = (match val e i with | none => Rs.no | some _ => _)
    cases val e i with
    | none => exact .inl rfl
    | some _ =>
      cases mk e with
      | ok k e' =>
        show (match ownV e' i with | some x => _ | none => Rs.no) = (match ownV e' i with | some (.lst xs) => _ | _ => Rs.no) ∨ (match ownV e' i with | some x => _ | none => Rs.no) = (match ownV e' i with | some (.dik xs) => _ | _ => Rs.no)
        cases ownV e' i with
        | none => exact .inl rfl
        | some x =>
          cases x with
          | lst xs =>
            refine .inl ?_
            unfold kSub
            show (match (kSetIx xs k d).map D.lst with | some y => Rs.nx (setV e' i y) | none => Rs.no) = (match kSetIx xs k d with | some ys => Rs.nx (setV e' i (D.lst ys)) | none => Rs.no)
            cases kSetIx xs k d <;> rfl
          | dik kvs => exact .inr rfl
          | _ => exact .inl rfl
      | er x e => exact .inl rfl
      | no => exact .inl rfl
  | er x e => exact .inl rfl
  | no => exact .inl rfl
theorem rs_sub {i : Nat} {a e idx : Expr} {mk me : En → R D} {pos pos' : Pos} (hu : X.A.units + 64 < cLine) (ho : PE X a (tVar i)) (hi : PE X idx (tE c W mk)) (he : PE X e (tE c W me))
    (ha : ∀ v, assign (.Subscript a idx pos') X.env v = (do
      let ov ← holding [v] (eval a X.env)
      let iv ← holding [v, ov] (eval idx X.env)
      standAt pos'
      holding [v, ov, iv] (setItem ov iv v)
      release [v, ov, iv] []) := by intro _; rfl)
    (hs : swapsWithSole [.Subscript a idx pos'] e pos.line X.env = pure false := by rfl) (hw : swappedStores [.Subscript a idx pos'] e X.env = pure none := by rfl)
    (h1 : (assignEach [.Subscript a idx pos'] X.env).map (·.2) = [assign (.Subscript a idx pos') X.env] := by rfl) (hs2 : swapsWith e (some (.Subscript a idx pos')) pos.line X.env = pure false := by rfl) : PS X (.Assign [.Subscript a idx pos'] e pos) (tS c W (sSub i mk me)) :=
  ((rs_setIx (c := c) (W := W) ho hi he ha hs hw h1).or (ps_dput (by omega) ho hi he hs2)).imp fun Z σ H ⟨env, F, S, q⟩ => by
    rcases sub_or (i := i) (mk := mk) (me := me) env with h | h
    · rw [h] at q
      exact .inl ⟨env, F, S, q⟩
    · rw [h] at q
      exact .inr (subD_ok ⟨env, F, S, q⟩)
end
end PV

namespace PV
open PySem PySem.Spec PyProof.Rows L2
section
variable {c : Cn} {W : WX} {X : Cx} {env : En} {σ : L2.St} {H F : Hp}
/-! ### what is walked: a list, a tuple, a kept dict, a text -/
def itD : D → Option (List D)
  | .dik kvs => some (kvs.map fun kv => dKey kv.1)
  | .str z => if z.length ≤ lim then some (z.cps.toList.map fun ch => .str ⟨#[ch]⟩) else none
  | d => seqD d
def iAny (m : En → R D) : En → R (List D) := fun env => (m env).bind fun d e => match itD d with
  | some xs => .ok xs e
  | none => .no
theorem RepK.get {g : Gc} {F : Hp} : ∀ {kvs : List (Key × D)} {vs : List (Key × V)} {i : Nat} {k : Key} {d : D}, RepK g F kvs vs → kvs[i]? = some (k, d) → ∃ v, vs[i]? = some (k, v) ∧ Rep g F d v
  | _, _, _, _, _, .nil, e => by simp at e
  | _, _, 0, _, _, .cons h t, e => by
    cases Option.some.inj e
    exact ⟨_, rfl, h⟩
  | _, _, i + 1, _, _, .cons h t, e => RepK.get (i := i) t e
theorem itS_keys {g : Gc} {F : Hp} {a : Addr} {o : Obj} {kvs : List (Key × D)} {vs : List (Key × V)} (h : F a = some (.frz o (.dK vs))) (r : RepK g F kvs vs) : ItS g F (Itk a o vs) (kvs.map fun kv => dKey kv.1) := by
  refine ⟨fun i d F' H' e s w => ?_, fun F' H' s w => ⟨w.sub _ _ (s _ _ h), by rw [List.length_map, r.length]; exact Nat.le_refl _⟩⟩
  rw [List.getElem?_map] at e
  cases q : kvs[i]? with
  | none =>
    rw [q] at e
    cases e
  | some kv =>
    obtain ⟨k, x⟩ := kv
    rw [q] at e
    cases e
    obtain ⟨v, hv, rv⟩ := r.get q
    refine ⟨⟨w.sub _ _ (s _ _ h), (List.getElem?_eq_some_iff.mp hv).1⟩, fun x H'' y => ?_⟩
    obtain ⟨e1, k2, v2, e2, e3⟩ := y
    subst e1 e3
    rw [hv] at e2
    cases e2
    exact ⟨F', Go.refl w, dKey_ok⟩
theorem itS_str {g : Gc} {F : Hp} {z : Str} : ItS g F (Its z) (z.cps.toList.map fun ch => .str ⟨#[ch]⟩) := by
  refine ⟨fun i d F' H' e s w => ?_, fun F' H' s w => ?_⟩
  · rw [List.getElem?_map, Array.getElem?_toList] at e
    cases q : z.cps[i]? with
    | none =>
      rw [q] at e
      cases e
    | some ch =>
      rw [q] at e
      cases e
      refine ⟨(Array.getElem?_eq_some_iff.mp q).1, fun x H'' ⟨e1, c2, e2, e3⟩ => ?_⟩
      subst e1 e3
      rw [q] at e2
      cases e2
      exact ⟨F', Go.refl w, .str⟩
  · show z.cps.size ≤ _
    simp
theorem any_ok {m : En → R D} (hK : c.K = X.K) {Q : It → Hp → Prop} (q : tI c W (iAny m) σ H Q) : ((iList X.K (tE c W m) σ H Q ∨ iTup X.K (tE c W m) σ H Q) ∨ iKeys (tE c W m) σ H Q) ∨ iStr (tE c W m) σ H Q := by
  obtain ⟨env, F, S, q⟩ := q
  cases z : m env with
  | ok d e1 =>
    have q' : Okp c W σ F (rlI c) Q (match itD d with | some xs => .ok xs e1 | none => .no) := by
      unfold iAny at q
      rw [z] at q
      exact q
    cases d with
    | dik kvs =>
      refine .inl (.inr ⟨env, F, S, ?_⟩)
      rw [z]
      intro v H1 F1 S1 s1 rv
      cases rv with
      | @dik a o _ vs h r =>
        exact ⟨a, o, rfl, .inl ⟨vs, S1.wf.sub _ _ h, q' _ H1 F1 S1 s1 (itS_keys h r)⟩⟩
    | str x =>
      refine .inr ⟨env, F, S, ?_⟩
      rw [z]
      intro v H1 F1 S1 s1 rv
      cases rv
      have q2 : Okp c W σ F (rlI c) Q (match (if x.length ≤ lim then some (x.cps.toList.map fun ch => D.str ⟨#[ch]⟩) else none) with | some xs => .ok xs e1 | none => .no) := q'
      split at q2
      · rename_i xs hx
        split at hx
        · cases hx
          exact ⟨x, rfl, q2 _ H1 F1 S1 s1 itS_str⟩
        · cases hx
      · exact q2.elim
    | _ =>
      refine .inl (.inl (seq_ok (c := c) (W := W) hK ⟨env, F, S, ?_⟩))
      unfold iSeq
      rw [z]
      exact q'
  | er x e1 =>
    refine .inl (.inl (seq_ok (c := c) (W := W) hK ⟨env, F, S, ?_⟩))
    unfold iSeq
    unfold iAny at q
    rw [z] at q ⊢
    exact q
  | no =>
    unfold iAny at q
    rw [z] at q
    exact q.elim
theorem ri_any {tg e : Expr} {m : En → R D} (hK : c.K = X.K) (he : PE X e (tE c W m)) : PI X tg e (tI c W (iAny m)) := ((((pi_list he).or (pi_tup he)).or (pi_keys he)).or (pi_str he)).imp fun σ H Q q => any_ok hK q
end
end PV

namespace PV
open PySem PySem.Spec PyProof.Rows L2
theorem tk0 {X : Cx} : Takes X W0 := fun u s' ⟨_, _, _, _, _, _, _, _, _, _, _, _, _, _, _, _, w⟩ => w.elim
/-! ### names of built-ins -/
theorem bt_len : bootBuiltins "len" = some (.builtin "len") := by decide +kernel
theorem bt_sum : bootBuiltins "sum" = some (.builtin "sum") := by decide +kernel
theorem bt_all : bootBuiltins "all" = some (.builtin "all") := by decide +kernel
theorem bt_any : bootBuiltins "any" = some (.builtin "any") := by decide +kernel
theorem bt_abs : bootBuiltins "abs" = some (.builtin "abs") := by decide +kernel
theorem bt_max : bootBuiltins "max" = some (.builtin "max") := by decide +kernel
theorem bt_min : bootBuiltins "min" = some (.builtin "min") := by decide +kernel
theorem bt_sorted : bootBuiltins "sorted" = some (.builtin "sorted") := by decide +kernel
theorem bt_isinstance : bootBuiltins "isinstance" = some (.builtin "isinstance") := by decide +kernel
theorem bt_int : bootBuiltins "int" = some (.type "int") := by decide +kernel
theorem bt_bool : bootBuiltins "bool" = some (.type "bool") := by decide +kernel
theorem bt_str : bootBuiltins "str" = some (.type "str") := by decide +kernel
theorem bt_tuple : bootBuiltins "tuple" = some (.type "tuple") := by decide +kernel
theorem bt_list : bootBuiltins "list" = some (.type "list") := by decide +kernel
theorem bt_dict : bootBuiltins "dict" = some (.type "dict") := by decide +kernel
section
variable {c : Cn} {W : WX} {X : Cx} {env : En} {σ : L2.St} {H F : Hp}
theorem op_inX (hu : X.A.units + 64 < cLine) : OpR X (compareOp .In) (rInX X.K false) := op_in_seq.or (or_din hu)
theorem op_notinX (hu : X.A.units + 64 < cLine) : OpR X (compareOp .NotIn) (rInX X.K true) := op_notIn_seq.or (or_dnotin hu)
/-! ### in place -/
abbrev oAddI : List D → Option D := o2I (fun _ _ => true) fun i j => .int (i + j)
theorem oa_addI {g : Gc} : OpA g (r2 (rI0 fun i j => .int (i + j))) oAddI := oa_rI0 fun _ _ _ => .int
/-- a + b, a * b: a new list -/
theorem re_opF {op : Operator} {r : R2} {f : List D → Option D} {a b : Expr} {o1 o2 : Od} {pos : Pos} (ho : OpR X (binaryOp op) r) (hf : OpF c.toGc (r2 r) f) (ha : PE X a (o1.t c W)) (hb : PE X b (o2.t c W)) : PE X (.BinOp a op b pos) (tF c W (mOp f [o1, o2])) :=
  (pe_op ho ha hb).imp fun _ _ _ q => tOpF_ok hf q
/-! ### the law's end -/
def spLaw (K : PySem.W.Frag) : Sp := fun vs H Q _ => ∃ (a : Addr) (ns : List Int), vs = [.ref a] ∧ SqL K H a (ns.map V.int) ∧ ns.length ≤ 63 ∧ ∀ H', Q (.bl true) H'
theorem law_of {K : PySem.W.Frag} {mg : Str → Option Value} {f : List D → Rf} (h : ∀ ns : List Int, ns.length ≤ 63 → f [.ro (ns.map D.int)] = .ok (.bl true)) (vs : List V) (H : Hp) (Q : VK) (E : XK) (q : spLaw K vs H Q E) : spD ⟨K, mg, []⟩ false 1 f vs H Q E := by
  obtain ⟨a, ns, rfl, hS, hl, k⟩ := q
  refine ⟨rfl, noTbl H, [.ro (ns.map D.int)], ⟨fun b o e => (noTbl_of e).1, fun b o e t => noTbl_some e (fun ps z => by subst z; cases t), fun b ps e => (noTbl_of e).2 ps rfl, fun p hp => nomatch hp⟩, .cons (.ro ?_ (Reps.ofInts ns)) .nil, ?_⟩
  · rcases hS with (hS | ⟨o, hS⟩) | hS
    · exact .inl (.inl (noTbl_some hS fun ps z => by cases z))
    · exact .inl (.inr ⟨o, noTbl_some hS fun ps z => by cases z⟩)
    · exact .inr hS
  · rw [h ns hl]
    intro v H' F' g' rv
    have rv := rlQ_rep rv
    cases rv
    exact k H'
theorem cx_no {P : Program} {w : World} {H : Hp} {s : Shared} {e : Value} {s' : Shared} (h : L2.CX P w [] H s (fun _ _ _ => False) e s') : False := by
  obtain ⟨_, _, _, _, _, _, _, _, _, _, _, _, q⟩ := h
  exact q
end
end PV

namespace PV
open L2
/-! ### loops and comprehensions by what they do -/
theorem lcL_pure {α : Type} {T : Tg} {t : En → R Bool} {m : En → R D} {vs : List Nat} {e : En} (c : α → D) (p : α → Bool) (g : α → D) : ∀ {ds : List α}, (∀ d ∈ ds, ∃ e1 e2, bindT T (c d) e = some e1 ∧ t e1 = .ok (p d) e2 ∧ (p d = false → wipeE e2 vs = e) ∧ (p d = true → ∃ e3, m e2 = .ok (g d) e3 ∧ wipeE e3 vs = e)) →
    lcL T t m vs (ds.map c) e = .ok ((ds.filter p).map g) e
  | [], _ => rfl
  | d :: r, h => by
    obtain ⟨e1, e2, h1, h2, h3, h4⟩ := h d (List.mem_cons_self ..)
    have ih := lcL_pure (T := T) (t := t) (m := m) (vs := vs) (e := e) c p g (ds := r) fun x hx => h x (List.mem_cons_of_mem _ hx)
    rw [List.map_cons]
    unfold lcL
    rw [h1]
    simp only [h2]
    cases q : p d with
    | false =>
      simp only [h3 q, ih, List.filter_cons, q]
      rfl
    | true =>
      obtain ⟨e3, h5, h6⟩ := h4 q
      simp only [h5, h6, ih, List.filter_cons, q]
      rfl
/-- .. all of them -/
theorem lcL_all {α : Type} {T : Tg} {m : En → R D} {vs : List Nat} {e : En} (c : α → D) (g : α → D) {ds : List α} (h : ∀ d ∈ ds, ∃ e1 e3, bindT T (c d) e = some e1 ∧ m e1 = .ok (g d) e3 ∧ wipeE e3 vs = e) :
    lcL T tYs m vs (ds.map c) e = .ok (ds.map g) e := by
  have := lcL_pure (T := T) (t := tYs) (m := m) (vs := vs) (e := e) c (fun _ => true) g (ds := ds) fun d hd => by
    obtain ⟨e1, e3, h1, h2, h3⟩ := h d hd
    exact ⟨e1, e1, h1, rfl, (fun z => by cases z), fun _ => ⟨e3, h2, h3⟩⟩
  rw [this]
  have e1 : ds.filter (fun _ => true) = ds := List.filter_eq_self.mpr fun _ _ => rfl
  rw [e1]
/-- .. with a state -/
theorem lcL_inv {T : Tg} {t : En → R Bool} {m : En → R D} {vs : List Nat} (P : List D → List D → En → Prop) : ∀ (ds acc : List D) (e : En),
    (∀ d r acc e, P (d :: r) acc e → ∃ e1 b e2, bindT T d e = some e1 ∧ t e1 = .ok b e2 ∧ (b = false → P r acc (wipeE e2 vs)) ∧ (b = true → ∃ y e3, m e2 = .ok y e3 ∧ P r (acc ++ [y]) (wipeE e3 vs))) →
    P ds acc e → ∃ ys e', lcL T t m vs ds e = .ok ys e' ∧ P [] (acc ++ ys) e'
  | [], acc, e, _, h => ⟨[], e, rfl, by rw [List.append_nil]; exact h⟩
  | d :: r, acc, e, hs, h => by
    obtain ⟨e1, b, e2, h1, h2, h3, h4⟩ := hs d r acc e h
    unfold lcL
    rw [h1]
    simp only [h2]
    cases b with
    | false =>
      obtain ⟨ys, e', h5, h6⟩ := lcL_inv P r acc _ hs (h3 rfl)
      exact ⟨ys, e', h5, h6⟩
    | true =>
      obtain ⟨y, e3, h5, h6⟩ := h4 rfl
      obtain ⟨ys, e', h7, h8⟩ := lcL_inv P r _ _ hs h6
      refine ⟨y :: ys, e', ?_, by rw [← List.append_cons] at h8; exact h8⟩
      simp only [h5, h7]
      rfl
theorem forL_inv {T : Tg} {m : En → Rs} (P : List D → En → Prop) (hs : ∀ d r e, P (d :: r) e → ∃ e1 e2, bindT T d e = some e1 ∧ (m e1 = .nx e2 ∨ m e1 = .ct e2) ∧ P r e2) : ∀ (ds : List D) (e : En), P ds e → ∃ e', forL T m ds e = .nx e' ∧ P [] e'
  | [], e, h => ⟨e, rfl, h⟩
  | d :: r, e, h => by
    obtain ⟨e1, e2, h1, h2, h3⟩ := hs d r e h
    obtain ⟨e', h4, h5⟩ := forL_inv P hs r e2 h3
    refine ⟨e', ?_, h5⟩
    unfold forL
    rw [h1]
    rcases h2 with h2 | h2 <;> simp only [h2, h4]
theorem whileN_inv {t : En → R Bool} {m : En → Rs} (P : Nat → En → Prop) (Q : En → Prop) (h0 : ∀ e, P 0 e → ∃ e1, t e = .ok false e1 ∧ Q e1)
    (hs : ∀ k e, P (k + 1) e → ∃ e1 e2, t e = .ok true e1 ∧ (m e1 = .nx e2 ∨ m e1 = .ct e2) ∧ P k e2) : ∀ (k n : Nat) (e : En), P k e → k < n → ∃ e', whileN n t m e = .nx e' ∧ Q e'
  | 0, 0, e, h, hn => absurd hn (Nat.lt_irrefl _)
  | k + 1, 0, e, h, hn => absurd hn (Nat.not_lt_zero _)
  | 0, n + 1, e, h, hn => by
    obtain ⟨e1, h1, h2⟩ := h0 e h
    refine ⟨e1, ?_, h2⟩
    unfold whileN
    rw [h1]
    rfl
  | k + 1, n + 1, e, h, hn => by
    obtain ⟨e1, e2, h1, h2, h3⟩ := hs k e h
    obtain ⟨e', h4, h5⟩ := whileN_inv P Q h0 hs k n e2 h3 (Nat.lt_of_succ_lt_succ hn)
    refine ⟨e', ?_, h5⟩
    unfold whileN
    rw [h1]
    simp only [R.bs, if_true]
    rcases h2 with h2 | h2 <;> simp only [h2, h4]
/-! ### lists of ints -/
def iD (l : List Int) : List D := l.map D.int
theorem intsD_map : ∀ l : List Int, intsD (l.map D.int) = some l
  | [] => rfl
  | x :: r => by
    show (intsD (r.map D.int)).map (x :: ·) = _
    rw [intsD_map r]
    rfl
theorem blsD_map : ∀ l : List Bool, blsD (l.map D.bl) = some l
  | [] => rfl
  | x :: r => by
    show (blsD (r.map D.bl)).map (x :: ·) = _
    rw [blsD_map r]
    rfl
end PV
namespace PV
open PySem PySem.Spec L2
/-! ### == of data of one kind -/
structure Enc (α : Type) [DecidableEq α] where
  c : α → D
  q : α → PyData
  hq : ∀ a, toP (c a) = some (q a)
  lay : ∀ a, (q a).canLay0 = true
  n : Nat
  dep : ∀ a, (q a).depth ≤ n
  eqv : ∀ a b, PyData.eqv (q a) (q b) = decide (a = b)
theorem Enc.eq {α : Type} [DecidableEq α] (E : Enc α) (h : E.n ≤ 64) (a b : α) : eqD (E.c a) (E.c b) = some (decide (a = b)) := by
  unfold eqD
  rw [E.hq a, E.hq b]
  have s : ∀ x, SeqAt.shaped (E.q x) = true := fun x => by
    unfold SeqAt.shaped
    rw [E.lay x, decide_eq_true (Nat.le_trans (E.dep x) h)]
    rfl
  simp only [s a, s b, E.eqv, and_self, if_true]
def Enc.int : Enc Int := ⟨.int, .int, fun _ => rfl, fun _ => (by unfold PyData.canLay0; rfl), 0, fun _ => (by unfold PyData.depth; exact Nat.le_refl _), fun a b => (by unfold PyData.eqv; rfl)⟩
def Enc.nat : Enc Nat := ⟨fun i => .int i, fun i => .int i, fun _ => rfl, fun _ => (by unfold PyData.canLay0; rfl), 0, fun _ => (by unfold PyData.depth; exact Nat.le_refl _), fun a b => (by
  unfold PyData.eqv
  show ((a : Int) == (b : Int)) = _
  by_cases h : a = b
  · subst h
    simp
  · rw [decide_eq_false h]
    exact beq_eq_false_iff_ne.mpr fun z => h (by omega))⟩
def Enc.bl : Enc Bool := ⟨.bl, .bool, fun _ => rfl, fun _ => (by unfold PyData.canLay0; rfl), 0, fun _ => (by unfold PyData.depth; exact Nat.le_refl _), fun a b => (by unfold PyData.eqv; rfl)⟩
section
variable {α : Type} [DecidableEq α]
theorem Enc.all (E : Enc α) : ∀ l : List α, toPs (l.map E.c) = some (l.map E.q)
  | [] => rfl
  | a :: r => by
    show (match toP (E.c a), toPs (r.map E.c) with | some p, some ps => some (p :: ps) | _, _ => none) = _
    rw [E.hq a, E.all r]
    rfl
theorem Enc.layAll (E : Enc α) : ∀ l : List α, PyData.canLayAll0 (l.map E.q) = true
  | [] => by
    rw [List.map_nil]
    unfold PyData.canLayAll0
    rfl
  | a :: r => by
    rw [List.map_cons]
    unfold PyData.canLayAll0
    rw [E.lay a, E.layAll r]
    rfl
theorem Enc.depAll (E : Enc α) : ∀ l : List α, PyData.depthAll (l.map E.q) ≤ E.n
  | [] => by
    rw [List.map_nil]
    unfold PyData.depthAll
    exact Nat.zero_le _
  | a :: r => by
    rw [List.map_cons]
    unfold PyData.depthAll
    exact Nat.max_le.mpr ⟨E.dep a, E.depAll r⟩
theorem Enc.eqvAll (E : Enc α) : ∀ a b : List α, PyData.eqvAll (a.map E.q) (b.map E.q) = decide (a = b)
  | [], [] => by
    rw [List.map_nil]
    unfold PyData.eqvAll
    rfl
  | [], _ :: _ => by
    rw [List.map_nil, List.map_cons]
    unfold PyData.eqvAll
    rfl
  | _ :: _, [] => by
    rw [List.map_nil, List.map_cons]
    unfold PyData.eqvAll
    rfl
  | x :: r, y :: s => by
    rw [List.map_cons, List.map_cons]
    unfold PyData.eqvAll
    rw [E.eqv x y, E.eqvAll r s]
    by_cases h : x = y
    · by_cases h2 : r = s
      · simp [h, h2]
      · simp [h, h2]
    · simp [h]
def Enc.tup (E : Enc α) : Enc (List α) := ⟨fun l => .tup (l.map E.c), fun l => .tuple (l.map E.q), fun l => (by unfold toP; rw [E.all l]; rfl), fun l => (by unfold PyData.canLay0; exact E.layAll l), E.n + 1,
  fun l => (by unfold PyData.depth; exact Nat.succ_le_succ (E.depAll l)), fun a b => (by unfold PyData.eqv; exact E.eqvAll a b)⟩
def Enc.lst (E : Enc α) : Enc (List α) := ⟨fun l => .lst (l.map E.c), fun l => .list (l.map E.q), fun l => (by unfold toP; rw [E.all l]; rfl), fun l => (by unfold PyData.canLay0; exact E.layAll l), E.n + 1,
  fun l => (by unfold PyData.depth; exact Nat.succ_le_succ (E.depAll l)), fun a b => (by unfold PyData.eqv; exact E.eqvAll a b)⟩
end
theorem eqD_int (a b : Int) : eqD (.int a) (.int b) = some (decide (a = b)) := Enc.int.eq (by decide) a b
theorem eqD_tn (a b : List Nat) : eqD (.tup (a.map fun (i : Nat) => D.int i)) (.tup (b.map fun (i : Nat) => D.int i)) = some (decide (a = b)) := Enc.nat.tup.eq (by decide) a b
theorem eqD_ti (a b : List Int) : eqD (.tup (a.map D.int)) (.tup (b.map D.int)) = some (decide (a = b)) := Enc.int.tup.eq (by decide) a b
theorem eqD_li (a b : List Int) : eqD (.lst (a.map D.int)) (.lst (b.map D.int)) = some (decide (a = b)) := Enc.int.lst.eq (by decide) a b
end PV
namespace PV
open PySem PySem.Spec L2
theorem eqD_li0 (a : List Int) : eqD (.lst (a.map D.int)) (.lst []) = some (decide (a = [])) := eqD_li a []
theorem eqD_l00 : eqD (.lst []) (.lst []) = some true := eqD_li [] []
theorem eqD_tn0 (a : List Nat) : eqD (.tup (a.map fun (i : Nat) => D.int i)) (.tup []) = some (decide (a = [])) := eqD_tn a []
end PV
namespace PV
open PySem PySem.Spec L2
theorem iRange1_nat {n : Nat} (h : n ≤ 1000000) : iRange1 [.int (n : Int)] = some ((List.range n).map fun (i : Nat) => D.int i) := by
  show (if -1000000 ≤ (n : Int) ∧ (n : Int) ≤ 1000000 then some ((List.range (n : Int).toNat).map fun (k : Nat) => D.int k) else none) = _
  rw [if_pos (by omega), Int.toNat_natCast]
theorem oRng_nat {n : Nat} (k : List D → D) (h : n ≤ 1000000) : oRngL k [.int (n : Int)] = some (k ((List.range n).map fun (i : Nat) => D.int i)) := by
  unfold oRngL
  rw [iRange1_nat h]
  rfl
end PV
namespace PV
open PySem PySem.Spec L2
theorem oMod_ok (x : Int) {j : Int} (h : j ≠ 0) : oMod [.int x, .int j] = some (.int (x.fmod j)) := by
  simp only [oMod, o2I, cMod, decide_eq_true h, if_true]
theorem oMul_ok {x j : Int} (h : cMul x j = true) : oMul [.int x, .int j] = some (.int (x * j)) := by
  simp only [oMul, h, if_true]
theorem oPow_ok {x j : Int} (h : cPow x j = true) : oPow [.int x, .int j] = some (.int (x ^ j.toNat)) := by
  simp only [oPow, o2I, h, if_true]
theorem oFdiv_ok (x : Int) {j : Int} (h : cFdiv x j = true) : oFdiv [.int x, .int j] = some (.int (x / j)) := by
  simp only [oFdiv, o2I, h, if_true]
end PV

/-! masks of lines: plain mathematics -/
namespace BM
open PySem
theorem band (a b : Nat) : Builtin.bitAnd (a : Int) (b : Int) = ((a &&& b : Nat) : Int) := by
  unfold Builtin.bitAnd
  rw [decide_eq_true (Int.natCast_nonneg a), decide_eq_true (Int.natCast_nonneg b)]
  rfl
theorem bxor (a b : Nat) : Builtin.bitXor (a : Int) (b : Int) = ((a ^^^ b : Nat) : Int) := Bits.bitXor_pp (Int.natCast_nonneg a) (Int.natCast_nonneg b)
/-- the lowest bit -/
theorem low_ex : ∀ n : Nat, 0 < n → ∃ k q, n = 2 ^ (k + 1) * q + 2 ^ k := by
  intro n
  induction n using Nat.strongRecOn with
  | ind n ih =>
    intro h
    rcases Nat.mod_two_eq_zero_or_one n with e | e
    · obtain ⟨k, q, hk⟩ := ih (n / 2) (by omega) (by omega)
      refine ⟨k + 1, q, ?_⟩
      have : n = 2 * (n / 2) := by omega
      rw [this, hk, Nat.mul_add, ← Nat.mul_assoc, Nat.pow_succ 2 (k + 1), Nat.pow_succ 2 k]
      congr 1
      · rw [Nat.mul_comm 2 (2 ^ k * 2)]
      · rw [Nat.mul_comm]
    · exact ⟨0, n / 2, by omega⟩
theorem pow_lt (k : Nat) : 2 ^ k < 2 ^ (k + 1) := by
  have := Nat.pow_pos (n := k) (show 0 < 2 by decide)
  rw [Nat.pow_succ]
  omega
theorem low_and (k q : Nat) : (2 ^ (k + 1) * q + 2 ^ k) &&& (2 ^ (k + 1) * q + 2 ^ k - 1) = 2 ^ (k + 1) * q := by
  have hp : 0 < 2 ^ k := Nat.pow_pos (by decide)
  have e : 2 ^ (k + 1) * q + 2 ^ k - 1 = 2 ^ (k + 1) * q + (2 ^ k - 1) := by omega
  rw [e]
  apply Nat.eq_of_testBit_eq
  intro i
  rw [Nat.testBit_and, Nat.testBit_two_pow_mul_add q (pow_lt k), Nat.testBit_two_pow_mul_add q (Nat.lt_of_le_of_lt (Nat.sub_le _ _) (pow_lt k))]
  have e0 : 2 ^ (k + 1) * q = 2 ^ (k + 1) * q + 0 := rfl
  rw [e0, Nat.testBit_two_pow_mul_add q (Nat.pow_pos (by decide))]
  by_cases h : i < k + 1
  · rw [if_pos h, if_pos h, if_pos h, Nat.testBit_two_pow, Nat.testBit_two_pow_sub_one, Nat.zero_testBit]
    by_cases h1 : k = i
    · subst h1
      simp
    · rw [decide_eq_false h1, Bool.false_and]
  · rw [if_neg h, if_neg h, if_neg h, Bool.and_self]
theorem low_bit (k q : Nat) : Builtin.bitAnd ((2 ^ (k + 1) * q + 2 ^ k : Nat) : Int) (-((2 ^ (k + 1) * q + 2 ^ k : Nat) : Int)) = ((2 ^ k : Nat) : Int) := by
  have hp : 0 < 2 ^ k := Nat.pow_pos (by decide)
  have h := low_and k q
  generalize hn : 2 ^ (k + 1) * q + 2 ^ k = n at h ⊢
  have hn0 : 0 < n := by omega
  unfold Builtin.bitAnd
  rw [decide_eq_true (Int.natCast_nonneg n), decide_eq_false (by omega)]
  show (n : Int) - (((n : Int).toNat &&& (Builtin.bitNot (-(n : Int))).toNat : Nat) : Int) = _
  have e : (Builtin.bitNot (-(n : Int))).toNat = n - 1 := by
    unfold Builtin.bitNot
    omega
  rw [e, Int.toNat_natCast, h]
  omega
theorem low_rest (k q : Nat) : (2 ^ (k + 1) * q + 2 ^ k) ^^^ 2 ^ k = 2 ^ (k + 1) * q := by
  apply Nat.eq_of_testBit_eq
  intro i
  have e0 : 2 ^ (k + 1) * q = 2 ^ (k + 1) * q + 0 := rfl
  rw [Nat.testBit_xor, Nat.testBit_two_pow_mul_add q (pow_lt k), e0, Nat.testBit_two_pow_mul_add q (Nat.pow_pos (by decide)), Nat.testBit_two_pow]
  by_cases h : i < k + 1
  · rw [if_pos h, if_pos h, Bool.xor_self, Nat.zero_testBit]
  · rw [if_neg h, if_neg h, decide_eq_false (by omega), Bool.xor_false]
theorem bits_pow (k : Nat) : Builtin.Int.intBits ((2 ^ k : Nat) : Int) = k + 1 := by
  have h1 := (PySem.intBits_le_iff (m := k + 1) (x := ((2 ^ k : Nat) : Int))).mpr (by
    rw [Int.natAbs_natCast]
    exact pow_lt k)
  have h2 : ¬ Builtin.Int.intBits ((2 ^ k : Nat) : Int) ≤ k := fun z => by
    have := PySem.intBits_le_iff.mp z
    rw [Int.natAbs_natCast] at this
    exact Nat.lt_irrefl _ this
  omega
/-- the lines of a mask -/
def bits (n : Nat) : List Nat := (List.range 64).filter n.testBit
theorem mem_bits {n i : Nat} (h : n < 2 ^ 64) : i ∈ bits n ↔ n.testBit i = true := by
  unfold bits
  rw [List.mem_filter, List.mem_range]
  refine ⟨fun h => h.2, fun z => ⟨?_, z⟩⟩
  have := Nat.ge_two_pow_of_testBit z
  exact (Nat.pow_lt_pow_iff_right (by decide)).mp (Nat.lt_of_le_of_lt this h)
theorem bits_srt (n : Nat) : (bits n).Pairwise (· < ·) := List.Pairwise.filter _ List.pairwise_lt_range
theorem srt_uniq : ∀ {a b : List Nat}, a.Pairwise (· < ·) → b.Pairwise (· < ·) → (∀ k, k ∈ a ↔ k ∈ b) → a = b
  | [], [], _, _, _ => rfl
  | [], y :: s, _, _, h => absurd ((h y).mpr (List.mem_cons_self ..)) (by simp)
  | x :: r, [], _, _, h => absurd ((h x).mp (List.mem_cons_self ..)) (by simp)
  | x :: r, y :: s, ha, hb, h => by
    rw [List.pairwise_cons] at ha hb
    have e : x = y := by
      rcases List.mem_cons.mp ((h x).mp (List.mem_cons_self ..)) with e | e
      · exact e
      · rcases List.mem_cons.mp ((h y).mpr (List.mem_cons_self ..)) with e2 | e2
        · exact e2.symm
        · have h1 := hb.1 x e
          have h2 := ha.1 y e2
          omega
    subst e
    congr 1
    refine srt_uniq ha.2 hb.2 fun k => ?_
    constructor
    · intro hk
      rcases List.mem_cons.mp ((h k).mp (List.mem_cons_of_mem _ hk)) with e | e
      · have := ha.1 k hk
        omega
      · exact e
    · intro hk
      rcases List.mem_cons.mp ((h k).mpr (List.mem_cons_of_mem _ hk)) with e | e
      · have := hb.1 k hk
        omega
      · exact e
/-- the mask of lines -/
def mask : List Nat → Nat
  | [] => 0
  | x :: r => 2 ^ x + mask r
theorem mask_sum (l : List Nat) : (l.map fun i => (2 ^ i : Int)).sum = ((mask l : Nat) : Int) := by
  induction l with
  | nil => rfl
  | cons x r ih => 
    rw [List.map_cons, List.sum_cons, ih]
    show _ = ((2 ^ x + mask r : Nat) : Int)
    rw [Int.natCast_add, Int.natCast_pow]
    rfl
theorem mask_div : ∀ (l : List Nat) (m : Nat), (∀ i ∈ l, m ≤ i) → ∃ q, mask l = 2 ^ m * q
  | [], m, _ => ⟨0, rfl⟩
  | x :: r, m, h => by
    obtain ⟨q, hq⟩ := mask_div r m fun i hi => h i (List.mem_cons_of_mem _ hi)
    have hx := h x (List.mem_cons_self ..)
    refine ⟨2 ^ (x - m) + q, ?_⟩
    unfold mask
    rw [hq, Nat.mul_add, ← Nat.pow_add]
    congr 2
    omega
theorem mask_bit : ∀ {l : List Nat}, l.Pairwise (· < ·) → ∀ i, (mask l).testBit i = decide (i ∈ l)
  | [], _, i => by
    unfold mask
    simp
  | x :: r, h, i => by
    rw [List.pairwise_cons] at h
    obtain ⟨q, hq⟩ := mask_div r (x + 1) fun i hi => h.1 i hi
    have ih := mask_bit h.2 i
    unfold mask
    rw [hq, Nat.add_comm, Nat.testBit_two_pow_mul_add q (pow_lt x)]
    have e0 : 2 ^ (x + 1) * q = 2 ^ (x + 1) * q + 0 := rfl
    rw [hq, e0, Nat.testBit_two_pow_mul_add q (Nat.pow_pos (by decide))] at ih
    by_cases hi : i < x + 1
    · rw [if_pos hi] at ih ⊢
      rw [Nat.zero_testBit] at ih
      have nr : i ∉ r := of_decide_eq_false ih.symm
      rw [Nat.testBit_two_pow]
      have : (x = i) ↔ i ∈ x :: r := by
        rw [List.mem_cons]
        exact ⟨fun e => .inl e.symm, fun e => (e.resolve_right nr).symm⟩
      exact decide_eq_decide.mpr this
    · rw [if_neg hi] at ih ⊢
      rw [ih]
      refine decide_eq_decide.mpr ?_
      rw [List.mem_cons]
      exact ⟨.inr, fun e => e.resolve_left (by omega)⟩
theorem mask_lt {l : List Nat} (h : l.Pairwise (· < ·)) {m : Nat} (hm : ∀ i ∈ l, i < m) : mask l < 2 ^ m := by
  refine Nat.lt_pow_two_of_testBit _ fun i hi => ?_
  rw [mask_bit h]
  exact decide_eq_false fun z => absurd (hm i z) (by omega)
theorem bits_mask {l : List Nat} (h : l.Pairwise (· < ·)) (hm : ∀ i ∈ l, i < 64) : bits (mask l) = l := srt_uniq (bits_srt _) h fun k => by
  rw [mem_bits (mask_lt h hm), mask_bit h]
  exact decide_eq_true_iff
theorem bits_zero : bits 0 = [] := by
  unfold bits
  rw [List.filter_eq_nil_iff]
  intro i _
  simp
theorem bits_len (n : Nat) : (bits n).length ≤ 64 := by
  unfold bits
  exact Nat.le_trans (List.length_filter_le _ _) (by rw [List.length_range]; exact Nat.le_refl _)
theorem bits_low {k q : Nat} (h : 2 ^ (k + 1) * q + 2 ^ k < 2 ^ 64) : bits (2 ^ (k + 1) * q + 2 ^ k) = k :: bits (2 ^ (k + 1) * q) := by
  have h2 : 2 ^ (k + 1) * q < 2 ^ 64 := Nat.lt_of_le_of_lt (Nat.le_add_right _ _) h
  have tb : ∀ i, (2 ^ (k + 1) * q).testBit i = if i < k + 1 then false else q.testBit (i - (k + 1)) := fun i => by
    have e0 : 2 ^ (k + 1) * q = 2 ^ (k + 1) * q + 0 := rfl
    rw [e0, Nat.testBit_two_pow_mul_add q (Nat.pow_pos (by decide)), Nat.zero_testBit]
  refine srt_uniq (bits_srt _) (List.pairwise_cons.mpr ⟨fun i hi => ?_, bits_srt _⟩) fun i => ?_
  · rw [mem_bits h2, tb] at hi
    split at hi
    · cases hi
    · omega
  · rw [mem_bits h, List.mem_cons, mem_bits h2, tb, Nat.testBit_two_pow_mul_add q (pow_lt k), Nat.testBit_two_pow]
    by_cases hi : i < k + 1
    · rw [if_pos hi, if_pos hi, decide_eq_true_iff]
      exact ⟨fun e => .inl e.symm, fun e => (e.resolve_right (by simp)).symm⟩
    · rw [if_neg hi, if_neg hi]
      exact ⟨.inr, fun e => e.resolve_left (by omega)⟩
theorem bits_nil {n : Nat} (h : n < 2 ^ 64) (e : bits n = []) : n = 0 := by
  rcases Nat.eq_zero_or_pos n with z | z
  · exact z
  · obtain ⟨k, q, rfl⟩ := low_ex n z
    rw [bits_low h] at e
    cases e
end BM


namespace K00
open PySem PySem.Spec PyProof.Rows L2 PV
def topS (i : Nat) : Stmt := PySem.Challenge.pw_ringtables_k00_whole_sums_of_lots.main.body.getD i (.Pass ⟨0, 0, 0, 0⟩)
abbrev st__law_dice : Stmt := topS 29
theorem sc__law_dice : FnScope ["script", "spot", "cell", "great"] ["script", "spot"] (defScope st__law_dice) := ⟨rfl, rfl, rfl, by decide +kernel, rfl, by decide +kernel, by decide +kernel⟩
/-- slots: 0 script 1 spot 2 cell 3 great -/
def m__law_dice : En → Rs :=
  sSeq (sSet 2 (mIf (mT (mOp oLt [.s 1, .m (mOp oLen [.s 0])])) (mOp oInt [.m (mOp oIxx [.s 0, .s 1])]) (mOp oAdd [.m (mOp oMul [.m (mK (.int 127)), .s 1]), .m (mK (.int 71))]))) <|
  sSeq (sSet 3 (mOp oMod [.m (mOp oMax2 [.m (mK (.int 0)), .m (mOp oSub [.m (mOp oAbs [.s 2]), .m (mOp oPow [.m (mK (.int 10)), .m (mK (.int 16))])])]), .m (mOp oMul [.m (mOp oPow [.m (mK (.int 10)), .m (mK (.int 57))]), .m (mOp oPow [.m (mK (.int 10)), .m (mK (.int 60))])])])) <|
  sRt (mLst [mV 3, mOp oAdd [.m (mOp oAdd [.m (mOp oAdd [.m (mOp oMul [.m (mOp oMod [.m (mOp oAbs [.s 2]), .m (mK (.int 1152921504606846697))]), .m (mK (.int 109))]), .m (mOp oMul [.m (mK (.int 1031)), .s 1])]), .m (mOp oMul [.m (mK (.int 67)), .m (mOp oInt [.m (mOp oLt [.s 2, .m (mK (.int 0))])])])]), .m (mK (.int 53))], mK (.int 0)])
def f__law_dice : List D → Rf := runF 4 m__law_dice
abbrev st_is_whole : Stmt := topS 14
theorem sc_is_whole : FnScope ["value"] ["value"] (defScope st_is_whole) := ⟨rfl, rfl, rfl, by decide +kernel, rfl, by decide +kernel, by decide +kernel⟩
/-- slots: 0 value -/
def m_is_whole : En → Rs :=
  sRt (mAndV (mIsi "int" (mV 0)) (mNotV (mIsi "bool" (mV 0))))
def f_is_whole : List D → Rf := runD 1 m_is_whole
abbrev st_is_below : Stmt := topS 15
theorem sc_is_below : FnScope ["value", "many"] ["value", "many"] (defScope st_is_below) := ⟨rfl, rfl, rfl, by decide +kernel, rfl, by decide +kernel, by decide +kernel⟩
/-- slots: 0 value 1 many -/
def m_is_below : En → Rs :=
  sRt (mAndV (mCall f_is_whole [mV 0]) (mChain oLe oLt (mK (.int 0)) (mV 0) (mV 1)))
def f_is_below : List D → Rf := runD 2 m_is_below
abbrev st_is_rising : Stmt := topS 16
theorem sc_is_rising : FnScope ["value", "many", "one", "other"] ["value", "many"] (defScope st_is_rising) := ⟨rfl, rfl, rfl, by decide +kernel, rfl, by decide +kernel, by decide +kernel⟩
/-- slots: 0 value 1 many 2 one 3 other -/
def m_is_rising : En → Rs :=
  sSeq (sIf (mOr (mNot (mT (mIsi "tuple" (mV 0)))) (mNot (mT (mOp oAll [.m (mLc (iAny (mV 0)) (.n 2) (tYs) (mCall f_is_below [mV 2, mV 1]) [2])])))) (sRt (mK (.bl false))) (sNil)) <|
  sRt (mOp oAll [.m (mLc (mIt iZip2 [mV 0, mSl (.s 0) (some (mK (.int 1))) none]) (.t [.n 2, .n 3]) (tYs) (mOp oLt [.s 2, .s 3]) [2, 3])])
def f_is_rising : List D → Rf := runD 4 m_is_rising
abbrev st_require_lot : Stmt := topS 19
theorem sc_require_lot : FnScope ["value"] ["value"] (defScope st_require_lot) := ⟨rfl, rfl, rfl, by decide +kernel, rfl, by decide +kernel, by decide +kernel⟩
/-- slots: 0 value -/
def m_require_lot : En → Rs :=
  sIf (mNot (mT (mCall f_is_rising [mV 0, mK (.int 24)]))) (sNo) (sNil)
def f_require_lot : List D → Rf := runD 1 m_require_lot
abbrev st_require_two : Stmt := topS 22
theorem sc_require_two : FnScope ["one", "other"] ["one", "other"] (defScope st_require_two) := ⟨rfl, rfl, rfl, by decide +kernel, rfl, by decide +kernel, by decide +kernel⟩
/-- slots: 0 one 1 other -/
def m_require_two : En → Rs :=
  sSeq (sEx (mCall f_require_lot [mV 0])) <|
  sEx (mCall f_require_lot [mV 1])
def f_require_two : List D → Rf := runD 2 m_require_two
abbrev st_lot_of : Stmt := topS 10
theorem sc_lot_of : FnScope ["mask", "found", "left", "low"] ["mask"] (defScope st_lot_of) := ⟨rfl, rfl, rfl, by decide +kernel, rfl, by decide +kernel, by decide +kernel⟩
/-- slots: 0 mask 1 found 2 left 3 low -/
def m_lot_of : En → Rs :=
  sSeq (sPar 1 2 (.fr (mLst [])) (.st (mV 0))) <|
  sSeq (sWhile (mT (mOp oNe [.s 2, .m (mK (.int 0))])) (sSeq (sSet 3 (mOp oAnd [.s 2, .m (mOp oNeg [.s 2])])) <|
  sSeq (sEx (mOwn 1 (mOp oSub [.m (mOp oBits [.s 3]), .m (mK (.int 1))]) kAppend)) <|
  sAug 2 oXor (mV 3))) <|
  sRt (mOp oTuple [.s 1])
def f_lot_of : List D → Rf := runD 4 m_lot_of
abbrev st_mask_of : Stmt := topS 9
theorem sc_mask_of : FnScope ["lot", "line"] ["lot"] (defScope st_mask_of) := ⟨rfl, rfl, rfl, by decide +kernel, rfl, by decide +kernel, by decide +kernel⟩
/-- slots: 0 lot 1 line -/
def m_mask_of : En → Rs :=
  sRt (mOp oSum [.m (mLc (iAny (mV 0)) (.n 1) (tYs) (mOp oShl [.m (mK (.int 1)), .s 1]) [1])])
def f_mask_of : List D → Rf := runD 2 m_mask_of
abbrev st_lot_sum : Stmt := topS 25
theorem sc_lot_sum : FnScope ["one", "other"] ["one", "other"] (defScope st_lot_sum) := ⟨rfl, rfl, rfl, by decide +kernel, rfl, by decide +kernel, by decide +kernel⟩
/-- slots: 0 one 1 other -/
def m_lot_sum : En → Rs :=
  sSeq (sEx (mCall f_require_two [mV 0, mV 1])) <|
  sRt (mCall f_lot_of [mOp oXor [.m (mCall f_mask_of [mV 0]), .m (mCall f_mask_of [mV 1])]])
def f_lot_sum : List D → Rf := runD 2 m_lot_sum
abbrev st_are_lots_in : Stmt := topS 17
theorem sc_are_lots_in : FnScope ["value", "lot"] ["value"] (defScope st_are_lots_in) := ⟨rfl, rfl, rfl, by decide +kernel, rfl, by decide +kernel, by decide +kernel⟩
/-- slots: 0 value 1 lot -/
def m_are_lots_in : En → Rs :=
  sRt (mAndV (mIsi "tuple" (mV 0)) (mAndV (mOp oLe [.m (mOp oLen [.s 0]), .m (mK (.int 64))]) (mOp oAll [.m (mLc (iAny (mV 0)) (.n 1) (tYs) (mCall f_is_rising [mV 1, mK (.int 24)]) [1])])))
def f_are_lots_in : List D → Rf := runD 2 m_are_lots_in
abbrev st_require_lots : Stmt := topS 20
theorem sc_require_lots : FnScope ["value"] ["value"] (defScope st_require_lots) := ⟨rfl, rfl, rfl, by decide +kernel, rfl, by decide +kernel, by decide +kernel⟩
/-- slots: 0 value -/
def m_require_lots : En → Rs :=
  sIf (mNot (mT (mCall f_are_lots_in [mV 0]))) (sNo) (sNil)
def f_require_lots : List D → Rf := runD 1 m_require_lots
abbrev st_sum_of_masks : Stmt := topS 13
theorem sc_sum_of_masks : FnScope ["masks", "pick", "found", "at"] ["masks", "pick"] (defScope st_sum_of_masks) := ⟨rfl, rfl, rfl, by decide +kernel, rfl, by decide +kernel, by decide +kernel⟩
/-- slots: 0 masks 1 pick 2 found 3 at -/
def m_sum_of_masks : En → Rs :=
  sSeq (sSet 2 (mK (.int 0))) <|
  sSeq (sFor (iAny (mV 1)) (.n 3) (sAug 2 oXor (mOp oIxx [.s 0, .s 3]))) <|
  sRt (mV 2)
def f_sum_of_masks : List D → Rf := runD 4 m_sum_of_masks
abbrev st_masks_of : Stmt := topS 18
theorem sc_masks_of : FnScope ["lots", "lot"] ["lots"] (defScope st_masks_of) := ⟨rfl, rfl, rfl, by decide +kernel, rfl, by decide +kernel, by decide +kernel⟩
/-- slots: 0 lots 1 lot -/
def m_masks_of : En → Rs :=
  sRt (mLc (iAny (mV 0)) (.n 1) (tYs) (mCall f_mask_of [mV 1]) [1])
def f_masks_of : List D → Rf := runD 2 m_masks_of
abbrev st_sum_of_pick : Stmt := topS 27
theorem sc_sum_of_pick : FnScope ["lots", "pick"] ["lots", "pick"] (defScope st_sum_of_pick) := ⟨rfl, rfl, rfl, by decide +kernel, rfl, by decide +kernel, by decide +kernel⟩
/-- slots: 0 lots 1 pick -/
def m_sum_of_pick : En → Rs :=
  sSeq (sEx (mCall f_require_lots [mV 0])) <|
  sSeq (sIf (mNot (mT (mCall f_is_rising [mV 1, mOp oLen [.s 0]]))) (sNo) (sNil)) <|
  sRt (mCall f_lot_of [mCall f_sum_of_masks [mCall f_masks_of [mV 0], mV 1]])
def f_sum_of_pick : List D → Rf := runD 2 m_sum_of_pick
abbrev st_size_of : Stmt := topS 11
theorem sc_size_of : FnScope ["mask"] ["mask"] (defScope st_size_of) := ⟨rfl, rfl, rfl, by decide +kernel, rfl, by decide +kernel, by decide +kernel⟩
/-- slots: 0 mask -/
def m_size_of : En → Rs :=
  sRt (mOp oLen [.m (mCall f_lot_of [mV 0])])
def f_size_of : List D → Rf := runD 1 m_size_of
abbrev st_is_odd : Stmt := topS 12
theorem sc_is_odd : FnScope ["mask"] ["mask"] (defScope st_is_odd) := ⟨rfl, rfl, rfl, by decide +kernel, rfl, by decide +kernel, by decide +kernel⟩
/-- slots: 0 mask -/
def m_is_odd : En → Rs :=
  sRt (mOp oEq [.m (mOp oMod [.m (mCall f_size_of [mV 0]), .m (mK (.int 2))]), .m (mK (.int 1))])
def f_is_odd : List D → Rf := runD 1 m_is_odd
abbrev st_does_meet_oddly : Stmt := topS 26
theorem sc_does_meet_oddly : FnScope ["one", "other"] ["one", "other"] (defScope st_does_meet_oddly) := ⟨rfl, rfl, rfl, by decide +kernel, rfl, by decide +kernel, by decide +kernel⟩
/-- slots: 0 one 1 other -/
def m_does_meet_oddly : En → Rs :=
  sSeq (sEx (mCall f_require_two [mV 0, mV 1])) <|
  sRt (mCall f_is_odd [mOp oAnd [.m (mCall f_mask_of [mV 0]), .m (mCall f_mask_of [mV 1])]])
def f_does_meet_oddly : List D → Rf := runD 2 m_does_meet_oddly
abbrev st_require_many : Stmt := topS 21
theorem sc_require_many : FnScope ["value"] ["value"] (defScope st_require_many) := ⟨rfl, rfl, rfl, by decide +kernel, rfl, by decide +kernel, by decide +kernel⟩
/-- slots: 0 value -/
def m_require_many : En → Rs :=
  sIf (mOr (mNot (mT (mCall f_is_whole [mV 0]))) (mNot (mT (mChain oLe oLe (mK (.int 1)) (mV 0) (mK (.int 24)))))) (sNo) (sNil)
def f_require_many : List D → Rf := runD 1 m_require_many
abbrev st_is_lot_of : Stmt := topS 23
theorem sc_is_lot_of : FnScope ["many", "value"] ["many", "value"] (defScope st_is_lot_of) := ⟨rfl, rfl, rfl, by decide +kernel, rfl, by decide +kernel, by decide +kernel⟩
/-- slots: 0 many 1 value -/
def m_is_lot_of : En → Rs :=
  sSeq (sEx (mCall f_require_many [mV 0])) <|
  sRt (mCall f_is_rising [mV 1, mV 0])
def f_is_lot_of : List D → Rf := runD 2 m_is_lot_of
abbrev st_are_lots : Stmt := topS 24
theorem sc_are_lots : FnScope ["value"] ["value"] (defScope st_are_lots) := ⟨rfl, rfl, rfl, by decide +kernel, rfl, by decide +kernel, by decide +kernel⟩
/-- slots: 0 value -/
def m_are_lots : En → Rs :=
  sRt (mCall f_are_lots_in [mV 0])
def f_are_lots : List D → Rf := runD 1 m_are_lots
abbrev st__law_roll : Stmt := topS 30
theorem sc__law_roll : FnScope ["dice", "most", "found", "one", "two"] ["dice", "most"] (defScope st__law_roll) := ⟨rfl, rfl, rfl, by decide +kernel, rfl, by decide +kernel, by decide +kernel⟩
/-- slots: 0 dice 1 most 2 found 3 one 4 two -/
def m__law_roll : En → Rs :=
  sSeq (sIf (mT (mOp oGt [.m (mOp oIxx [.s 0, .m (mK (.int 0))]), .m (mK (.int 0))])) (sSeq (sSet 2 (mOp oMod [.m (mOp oInt [.m (mOp oIxx [.s 0, .m (mK (.int 0))])]), .s 1])) <|
  sSeq (sSub 0 (mK (.int 0)) (mOp oFdiv [.m (mOp oIxx [.s 0, .m (mK (.int 0))]), .s 1])) <|
  sRt (mV 2)) (sNil)) <|
  sSeq (sSub 0 (mK (.int 2)) (mOp oAdd [.m (mOp oIxx [.s 0, .m (mK (.int 2))]), .m (mK (.int 1))])) <|
  sSeq (sSet 3 (mOp oMod [.m (mOp oInt [.m (mOp oAdd [.m (mOp oIxx [.s 0, .m (mK (.int 1))]), .m (mOp oMul [.m (mK (.int 49979687)), .m (mOp oIxx [.s 0, .m (mK (.int 2))])])])]), .m (mK (.int 2305843009213693487))])) <|
  sSeq (sSet 4 (mOp oAdd [.m (mOp oMul [.m (mOp oMod [.m (mOp oInt [.m (mOp oAdd [.m (mOp oMul [.s 3, .s 3]), .m (mOp oMul [.m (mK (.int 113)), .m (mOp oIxx [.s 0, .m (mK (.int 2))])])])]), .m (mK (.int 2305843009213693669))]), .m (mK (.int 6700417))]), .s 3])) <|
  sRt (mOp oMod [.m (mOp oInt [.m (mOp oFdiv [.s 4, .m (mK (.int 65539))])]), .s 1])
def f__law_roll : D → List D → Rr := runR 4 m__law_roll
abbrev st__law_lo_any : Stmt := topS 36
theorem sc__law_lo_any : FnScope ["dice", "many", "our_share", "line"] ["dice", "many"] (defScope st__law_lo_any) := ⟨rfl, rfl, rfl, by decide +kernel, rfl, by decide +kernel, by decide +kernel⟩
/-- slots: 0 dice 1 many 2 our_share 3 line -/
def m__law_lo_any : En → Rs :=
  sSeq (sSet 2 (mOp oAdd [.m (mK (.int 1)), .m (mCallR f__law_roll 0 [mK (.int 3)])])) <|
  sRt (mOp oTuple [.m (mLc (mIt iRange1 [mV 1]) (.n 3) (mT (mOp oLt [.m (mCallR f__law_roll 0 [mK (.int 4)]), .s 2])) (mV 3) [3])])
def f__law_lo_any : D → List D → Rr := runR 3 m__law_lo_any
abbrev st__law_lo_total : Stmt := topS 33
theorem sc__law_lo_total : FnScope ["lots", "counts", "lot", "line"] ["lots"] (defScope st__law_lo_total) := ⟨rfl, rfl, rfl, by decide +kernel, rfl, by decide +kernel, by decide +kernel⟩
/-- slots: 0 lots 1 counts 2 lot 3 line -/
def m__law_lo_total : En → Rs :=
  sSeq (sSetO 1 (mK (.dik []))) <|
  sSeq (sFor (iAny (mV 0)) (.n 2) (sFor (iAny (mV 2)) (.n 3) (sSub 1 (mV 3) (mOp oAdd [.m (mGet (.s 1) [mV 3, mK (.int 0)] fGet2), .m (mK (.int 1))])))) <|
  sFz 1 <| sRt (mOp oTuple [.m (mOp oSorted [.m (mLc (iAny (mV 1)) (.n 3) (mT (mOp oEq [.m (mOp oMod [.m (mOp oIxx [.s 1, .s 3]), .m (mK (.int 2))]), .m (mK (.int 1))])) (mV 3) [3])])])
def f__law_lo_total : List D → Rf := runD 4 m__law_lo_total
abbrev st__law_lo_sum : Stmt := topS 32
theorem sc__law_lo_sum : FnScope ["one", "other", "line"] ["one", "other"] (defScope st__law_lo_sum) := ⟨rfl, rfl, rfl, by decide +kernel, rfl, by decide +kernel, by decide +kernel⟩
/-- slots: 0 one 1 other 2 line -/
def m__law_lo_sum : En → Rs :=
  sRt (mOp oTuple [.m (mOp oSorted [.m (mOp oAdd [.m (mLc (iAny (mV 0)) (.n 2) (mT (mOp (inX true) [.s 2, .s 1])) (mV 2) [2]), .m (mLc (iAny (mV 1)) (.n 2) (mT (mOp (inX true) [.s 2, .s 0])) (mV 2) [2])])])])
def f__law_lo_sum : List D → Rf := runD 3 m__law_lo_sum
abbrev st__law_lo_is_odd : Stmt := topS 34
theorem sc__law_lo_is_odd : FnScope ["one", "other", "line"] ["one", "other"] (defScope st__law_lo_is_odd) := ⟨rfl, rfl, rfl, by decide +kernel, rfl, by decide +kernel, by decide +kernel⟩
/-- slots: 0 one 1 other 2 line -/
def m__law_lo_is_odd : En → Rs :=
  sRt (mOp oEq [.m (mOp oMod [.m (mOp oLen [.m (mLc (iAny (mV 0)) (.n 2) (mT (mOp (inX false) [.s 2, .s 1])) (mV 2) [2])]), .m (mK (.int 2))]), .m (mK (.int 1))])
def f__law_lo_is_odd : List D → Rf := runD 3 m__law_lo_is_odd
abbrev st__law_mixed : Stmt := topS 31
theorem sc__law_mixed : FnScope ["dice", "items", "waiting", "found"] ["dice", "items"] (defScope st__law_mixed) := ⟨rfl, rfl, rfl, by decide +kernel, rfl, by decide +kernel, by decide +kernel⟩
/-- slots: 0 dice 1 items 2 waiting 3 found -/
def m__law_mixed : En → Rs :=
  sSeq (sPar 2 3 (.fr (mOp oList [.s 1])) (.fr (mLst []))) <|
  sSeq (sWhile (mT (mOp oNe [.s 2, .m (mLst [])])) (sEx (mOwn 3 (mOwn 2 (mCallR f__law_roll 0 [mOp oLen [.s 2]]) kPopAt) kAppend))) <|
  sFz 3 <| sRt (mV 3)
def f__law_mixed : D → List D → Rr := runR 3 m__law_mixed
abbrev st__law_near : Stmt := topS 37
theorem sc__law_near : FnScope ["dice", "many", "lot", "found", "one"] ["dice", "many", "lot"] (defScope st__law_near) := ⟨rfl, rfl, rfl, by decide +kernel, rfl, by decide +kernel, by decide +kernel⟩
/-- slots: 0 dice 1 many 2 lot 3 found 4 one -/
def m__law_near : En → Rs :=
  sSeq (sSet 3 (mLst [mV 2, mOp oList [.s 2], mOp oRev [.s 2], mOp oAdd [.s 2, .m (mSl (.s 2) (some (mOp oNeg [.m (mK (.int 1))])) none)], mOp oAdd [.s 2, .m (mTup [mV 1])], mOp oAdd [.m (mTup [mOp oNeg [.m (mK (.int 1))]]), .s 2], mK .non, mTup [], mK (.int 0), mK (.str "0"), mK (.dik []), mTup [mK (.bl true)], mTup [mK .non], mTup [mTup [mK (.int 0)]], mK (.str "abc")])) <|
  sRt (mOp oAdd [.s 3, .m (mLst [mOp oTuple [.m (mLc (iAny (mV 2)) (.n 4) (tYs) (mOp oEq [.s 4, .m (mK (.int 1))]) [4])], mSl (.s 2) (some (mK (.int 1))) none, mOp (oRngL .tup) [.m (mV 1)], mTup [mOp oPow [.m (mK (.int 10)), .m (mK (.int 40))]], mTup [mK (.str "0")], mOp oAdd [.s 2, .m (mTup [mK (.int 23)])], mTup [mK (.int 0), mK (.int 0)], mTup [mK (.int 1), mK (.int 0)]])])
def f__law_near : D → List D → Rr := runR 4 m__law_near
abbrev st__law_lo_is : Stmt := topS 35
theorem sc__law_lo_is : FnScope ["value", "many", "one"] ["value", "many"] (defScope st__law_lo_is) := ⟨rfl, rfl, rfl, by decide +kernel, rfl, by decide +kernel, by decide +kernel⟩
/-- slots: 0 value 1 many 2 one -/
def m__law_lo_is : En → Rs :=
  sSeq (sIf (mOr (mNot (mT (mIsi "tuple" (mV 0)))) (mT (mOp oNe [.m (mLc (iAny (mV 0)) (.n 2) (mOr (mT (mIsi "bool" (mV 2))) (mNot (mT (mIsi "int" (mV 2))))) (mK (.int 1)) [2]), .m (mLst [])]))) (sRt (mK (.bl false))) (sNil)) <|
  sRt (mAndV (mOp oEq [.m (mOp oList [.s 0]), .m (mOp oSrtSet [.s 0])]) (mOp oEq [.m (mLc (iAny (mV 0)) (.n 2) (mNot (mT (mChain oLe oLt (mK (.int 0)) (mV 2) (mV 1)))) (mV 2) [2]), .m (mLst [])]))
def f__law_lo_is : List D → Rf := runD 3 m__law_lo_is
abbrev st__law_are_lots : Stmt := topS 38
theorem sc__law_are_lots : FnScope ["value", "lot"] ["value"] (defScope st__law_are_lots) := ⟨rfl, rfl, rfl, by decide +kernel, rfl, by decide +kernel, by decide +kernel⟩
/-- slots: 0 value 1 lot -/
def m__law_are_lots : En → Rs :=
  sSeq (sIf (mOr (mNot (mT (mIsi "tuple" (mV 0)))) (mT (mOp oGt [.m (mOp oLen [.s 0]), .m (mK (.int 64))]))) (sRt (mK (.bl false))) (sNil)) <|
  sRt (mOp oEq [.m (mLc (iAny (mV 0)) (.n 1) (mNot (mT (mCall f__law_lo_is [mV 1, mK (.int 24)]))) (mV 1) [1]), .m (mLst [])])
def f__law_are_lots : List D → Rf := runD 2 m__law_are_lots
abbrev st__law_right : Stmt := topS 39
theorem sc__law_right : FnScope ["dice", "many", "one", "other", "lots", "pick", "told", "met", "near", "turn", "at", "value"] ["dice"] (defScope st__law_right) := ⟨rfl, rfl, rfl, by decide +kernel, rfl, by decide +kernel, by decide +kernel⟩
/-- slots: 0 dice 1 many 2 one 3 other 4 lots 5 pick 6 told 7 met 8 near 9 turn 10 at 11 value -/
def m__law_right : En → Rs :=
  sSeq (sSet 1 (mOp oAdd [.m (mK (.int 1)), .m (mCallR f__law_roll 0 [mK (.int 24)])])) <|
  sSeq (sAsg (.t [.n 2, .n 3]) (mTup [mCallR f__law_lo_any 0 [mV 1], mCallR f__law_lo_any 0 [mK (.int 24)]])) <|
  sSeq (sIf (mOr (mT (mOp oNe [.m (mCall f_lot_sum [mV 2, mV 3]), .m (mCall f__law_lo_sum [mV 2, mV 3])])) (mT (mOp oNe [.m (mCall f_does_meet_oddly [mV 2, mV 3]), .m (mCall f__law_lo_is_odd [mV 2, mV 3])]))) (sRt (mK (.bl false))) (sNil)) <|
  sSeq (sIf (mOr (mT (mOp oNe [.m (mCall f_lot_sum [mV 3, mV 2]), .m (mCall f_lot_sum [mV 2, mV 3])])) (mOr (mT (mOp oNe [.m (mCall f_lot_sum [mV 2, mV 2]), .m (mTup [])])) (mT (mOp oNe [.m (mCall f_lot_sum [mV 2, mTup []]), .s 2])))) (sRt (mK (.bl false))) (sNil)) <|
  sSeq (sSet 4 (mOp oTuple [.m (mLc (mIt iRange1 [mCallR f__law_roll 0 [mK (.int 12)]]) (.n 9) (tYs) (mCallR f__law_lo_any 0 [mOp oAdd [.m (mK (.int 1)), .m (mCallR f__law_roll 0 [mK (.int 24)])]]) [9])])) <|
  sSeq (sSet 5 (mOp oTuple [.m (mOp oSorted [.m (mSl (.m (mCallR f__law_mixed 0 [mOp (oRngL .lst) [.m (mOp oLen [.s 4])]])) none (some (mCallR f__law_roll 0 [mOp oAdd [.m (mOp oLen [.s 4]), .m (mK (.int 1))]])))])])) <|
  sSeq (sSet 6 (mCall f_sum_of_pick [mV 4, mV 5])) <|
  sSeq (sIf (mT (mOp oNe [.s 6, .m (mCall f__law_lo_total [mLc (iAny (mV 5)) (.n 10) (tYs) (mOp oIxx [.s 4, .s 10]) [10]])])) (sRt (mK (.bl false))) (sNil)) <|
  sSeq (sSet 7 (mLc (iAny (mV 5)) (.n 10) (mT (mCall f_does_meet_oddly [mOp oIxx [.s 4, .s 10], mV 2])) (mV 10) [10])) <|
  sSeq (sIf (mT (mOp oNe [.m (mCall f_does_meet_oddly [mV 6, mV 2]), .m (mOp oEq [.m (mOp oMod [.m (mOp oLen [.s 7]), .m (mK (.int 2))]), .m (mK (.int 1))])])) (sRt (mK (.bl false))) (sNil)) <|
  sSeq (sIf (mT (mOp oNe [.m (mLc (iAny (mCallR f__law_near 0 [mV 1, mV 2])) (.n 11) (mT (mOp oNe [.m (mCall f_is_lot_of [mV 1, mV 11]), .m (mCall f__law_lo_is [mV 11, mV 1])])) (mV 11) [11]), .m (mLst [])])) (sRt (mK (.bl false))) (sNil)) <|
  sSeq (sSet 8 (mLst [mV 4, mOp oList [.s 4], mOp oAdd [.s 4, .s 4], mOp oAdd [.s 4, .m (mTup [mK .non])], mOp oMul [.m (mTup [mV 2]), .m (mK (.int 64))], mOp oMul [.m (mTup [mV 2]), .m (mK (.int 65))], mOp oAdd [.s 4, .m (mTup [mTup [mK (.int 24)]])], mOp oAdd [.s 4, .m (mTup [mTup [mK (.int 1), mK (.int 0)]])], mTup [], mK .non, mK (.int 5), mK (.str ""), mK (.dik [])])) <|
  sSeq (sSet 8 (mOp oAdd [.s 8, .m (mLst [mTup [mOp oList [.s 2]], mTup [mTup [mK (.bl true)]], mTup [mTup [mTup [mK (.int 0)]]], mV 2])])) <|
  sRt (mOp oEq [.m (mLc (iAny (mV 8)) (.n 11) (mT (mOp oNe [.m (mCall f_are_lots [mV 11]), .m (mCall f__law_are_lots [mV 11])])) (mV 11) [11]), .m (mLst [])])
def f__law_right : D → List D → Rr := runR 11 m__law_right
abbrev st_law : Stmt := topS 40
theorem sc_law : FnScope ["script", "spot", "dice", "turn", "told", "judged"] ["script"] (defScope st_law) := ⟨rfl, rfl, rfl, by decide +kernel, rfl, by decide +kernel, by decide +kernel⟩
/-- slots: 0 script 1 spot 2 dice 3 turn 4 told 5 judged -/
def m_law : En → Rs :=
  sSeq (sFor (mIt iRange1 [mOp oMax2 [.m (mK (.int 1)), .m (mOp oMin2 [.m (mK (.int 3)), .m (mOp oLen [.s 0])])]]) (.n 1) (sSeq (sSetO 2 (mCall f__law_dice [mV 0, mV 1])) <|
  sFor (mIt iRange1 [mK (.int 6)]) (.n 3) (sIf (mNot (mT (mCallR f__law_right 2 []))) (sRt (mK (.bl false))) (sNil)))) <|
  sSeq (sSet 4 (mLst [mCall f_lot_sum [mTup [mK (.int 0), mK (.int 1), mK (.int 3)], mTup [mK (.int 0), mK (.int 2), mK (.int 4)]], mCall f_lot_sum [mTup [], mTup []], mCall f_sum_of_pick [mTup [mTup [mK (.int 0)], mTup [mK (.int 0), mK (.int 1)], mTup [mK (.int 1)]], mTup [mK (.int 0), mK (.int 1), mK (.int 2)]], mCall f_sum_of_pick [mTup [], mTup []]])) <|
  sSeq (sIf (mOr (mT (mOp oNe [.s 4, .m (mLst [mTup [mK (.int 1), mK (.int 2), mK (.int 3), mK (.int 4)], mTup [], mTup [], mTup []])])) (mOr (mT (mCall f_does_meet_oddly [mTup [mK (.int 0), mK (.int 1), mK (.int 2)], mTup [mK (.int 1), mK (.int 2), mK (.int 5)]])) (mNot (mT (mCall f_does_meet_oddly [mTup [mK (.int 23)], mTup [mK (.int 0), mK (.int 23)]]))))) (sRt (mK (.bl false))) (sNil)) <|
  sSeq (sSet 5 (mLst [mCall f_is_lot_of [mK (.int 3), mTup [mK (.int 0), mK (.int 2)]], mCall f_is_lot_of [mK (.int 3), mTup [mK (.int 0), mK (.int 3)]], mCall f_is_lot_of [mK (.int 24), mTup [mK (.int 23)]], mCall f_are_lots [mTup [mTup [mK (.int 0)], mTup [mK (.int 0)]]], mCall f_are_lots [mTup [mK (.int 0), mK (.int 1)]]])) <|
  sRt (mAndV (mOp oEq [.s 5, .m (mLst [mK (.bl true), mK (.bl false), mK (.bl true), mK (.bl true), mK (.bl false)])]) (mOp oEq [.m (mTup [mK (.int 24), mK (.int 64)]), .m (mTup [mK (.int 24), mK (.int 64)])]))
def f_law : List D → Rf := runD 6 m_law
end K00


namespace K00
open PySem PySem.Spec PyProof.Rows L2 PV
structure Md (K : PySem.W.Frag) (mg : Str → Option Value) where
  f__law_dice : Addr
  fd__law_dice : FuncData
  F__law_dice : Fun K "_law_dice" "_law_dice" st__law_dice f__law_dice fd__law_dice
  g__law_dice : mg "_law_dice" = some (.ref f__law_dice)
  b__law_dice : Binds K fd__law_dice ["script", "spot"] []
  f_is_whole : Addr
  fd_is_whole : FuncData
  F_is_whole : Fun K "is_whole" "is_whole" st_is_whole f_is_whole fd_is_whole
  g_is_whole : mg "is_whole" = some (.ref f_is_whole)
  b_is_whole : Binds K fd_is_whole ["value"] []
  f_is_below : Addr
  fd_is_below : FuncData
  F_is_below : Fun K "is_below" "is_below" st_is_below f_is_below fd_is_below
  g_is_below : mg "is_below" = some (.ref f_is_below)
  b_is_below : Binds K fd_is_below ["value", "many"] []
  f_is_rising : Addr
  fd_is_rising : FuncData
  F_is_rising : Fun K "is_rising" "is_rising" st_is_rising f_is_rising fd_is_rising
  g_is_rising : mg "is_rising" = some (.ref f_is_rising)
  b_is_rising : Binds K fd_is_rising ["value", "many"] []
  f_require_lot : Addr
  fd_require_lot : FuncData
  F_require_lot : Fun K "require_lot" "require_lot" st_require_lot f_require_lot fd_require_lot
  g_require_lot : mg "require_lot" = some (.ref f_require_lot)
  b_require_lot : Binds K fd_require_lot ["value"] []
  f_require_two : Addr
  fd_require_two : FuncData
  F_require_two : Fun K "require_two" "require_two" st_require_two f_require_two fd_require_two
  g_require_two : mg "require_two" = some (.ref f_require_two)
  b_require_two : Binds K fd_require_two ["one", "other"] []
  f_lot_of : Addr
  fd_lot_of : FuncData
  F_lot_of : Fun K "lot_of" "lot_of" st_lot_of f_lot_of fd_lot_of
  g_lot_of : mg "lot_of" = some (.ref f_lot_of)
  b_lot_of : Binds K fd_lot_of ["mask"] []
  f_mask_of : Addr
  fd_mask_of : FuncData
  F_mask_of : Fun K "mask_of" "mask_of" st_mask_of f_mask_of fd_mask_of
  g_mask_of : mg "mask_of" = some (.ref f_mask_of)
  b_mask_of : Binds K fd_mask_of ["lot"] []
  f_lot_sum : Addr
  fd_lot_sum : FuncData
  F_lot_sum : Fun K "lot_sum" "lot_sum" st_lot_sum f_lot_sum fd_lot_sum
  g_lot_sum : mg "lot_sum" = some (.ref f_lot_sum)
  b_lot_sum : Binds K fd_lot_sum ["one", "other"] []
  f_are_lots_in : Addr
  fd_are_lots_in : FuncData
  F_are_lots_in : Fun K "are_lots_in" "are_lots_in" st_are_lots_in f_are_lots_in fd_are_lots_in
  g_are_lots_in : mg "are_lots_in" = some (.ref f_are_lots_in)
  b_are_lots_in : Binds K fd_are_lots_in ["value"] []
  f_require_lots : Addr
  fd_require_lots : FuncData
  F_require_lots : Fun K "require_lots" "require_lots" st_require_lots f_require_lots fd_require_lots
  g_require_lots : mg "require_lots" = some (.ref f_require_lots)
  b_require_lots : Binds K fd_require_lots ["value"] []
  f_sum_of_masks : Addr
  fd_sum_of_masks : FuncData
  F_sum_of_masks : Fun K "sum_of_masks" "sum_of_masks" st_sum_of_masks f_sum_of_masks fd_sum_of_masks
  g_sum_of_masks : mg "sum_of_masks" = some (.ref f_sum_of_masks)
  b_sum_of_masks : Binds K fd_sum_of_masks ["masks", "pick"] []
  f_masks_of : Addr
  fd_masks_of : FuncData
  F_masks_of : Fun K "masks_of" "masks_of" st_masks_of f_masks_of fd_masks_of
  g_masks_of : mg "masks_of" = some (.ref f_masks_of)
  b_masks_of : Binds K fd_masks_of ["lots"] []
  f_sum_of_pick : Addr
  fd_sum_of_pick : FuncData
  F_sum_of_pick : Fun K "sum_of_pick" "sum_of_pick" st_sum_of_pick f_sum_of_pick fd_sum_of_pick
  g_sum_of_pick : mg "sum_of_pick" = some (.ref f_sum_of_pick)
  b_sum_of_pick : Binds K fd_sum_of_pick ["lots", "pick"] []
  f_size_of : Addr
  fd_size_of : FuncData
  F_size_of : Fun K "size_of" "size_of" st_size_of f_size_of fd_size_of
  g_size_of : mg "size_of" = some (.ref f_size_of)
  b_size_of : Binds K fd_size_of ["mask"] []
  f_is_odd : Addr
  fd_is_odd : FuncData
  F_is_odd : Fun K "is_odd" "is_odd" st_is_odd f_is_odd fd_is_odd
  g_is_odd : mg "is_odd" = some (.ref f_is_odd)
  b_is_odd : Binds K fd_is_odd ["mask"] []
  f_does_meet_oddly : Addr
  fd_does_meet_oddly : FuncData
  F_does_meet_oddly : Fun K "does_meet_oddly" "does_meet_oddly" st_does_meet_oddly f_does_meet_oddly fd_does_meet_oddly
  g_does_meet_oddly : mg "does_meet_oddly" = some (.ref f_does_meet_oddly)
  b_does_meet_oddly : Binds K fd_does_meet_oddly ["one", "other"] []
  f_require_many : Addr
  fd_require_many : FuncData
  F_require_many : Fun K "require_many" "require_many" st_require_many f_require_many fd_require_many
  g_require_many : mg "require_many" = some (.ref f_require_many)
  b_require_many : Binds K fd_require_many ["value"] []
  f_is_lot_of : Addr
  fd_is_lot_of : FuncData
  F_is_lot_of : Fun K "is_lot_of" "is_lot_of" st_is_lot_of f_is_lot_of fd_is_lot_of
  g_is_lot_of : mg "is_lot_of" = some (.ref f_is_lot_of)
  b_is_lot_of : Binds K fd_is_lot_of ["many", "value"] []
  f_are_lots : Addr
  fd_are_lots : FuncData
  F_are_lots : Fun K "are_lots" "are_lots" st_are_lots f_are_lots fd_are_lots
  g_are_lots : mg "are_lots" = some (.ref f_are_lots)
  b_are_lots : Binds K fd_are_lots ["value"] []
  f__law_roll : Addr
  fd__law_roll : FuncData
  F__law_roll : Fun K "_law_roll" "_law_roll" st__law_roll f__law_roll fd__law_roll
  g__law_roll : mg "_law_roll" = some (.ref f__law_roll)
  b__law_roll : Binds K fd__law_roll ["dice", "most"] []
  f__law_lo_any : Addr
  fd__law_lo_any : FuncData
  F__law_lo_any : Fun K "_law_lo_any" "_law_lo_any" st__law_lo_any f__law_lo_any fd__law_lo_any
  g__law_lo_any : mg "_law_lo_any" = some (.ref f__law_lo_any)
  b__law_lo_any : Binds K fd__law_lo_any ["dice", "many"] []
  f__law_lo_total : Addr
  fd__law_lo_total : FuncData
  F__law_lo_total : Fun K "_law_lo_total" "_law_lo_total" st__law_lo_total f__law_lo_total fd__law_lo_total
  g__law_lo_total : mg "_law_lo_total" = some (.ref f__law_lo_total)
  b__law_lo_total : Binds K fd__law_lo_total ["lots"] []
  f__law_lo_sum : Addr
  fd__law_lo_sum : FuncData
  F__law_lo_sum : Fun K "_law_lo_sum" "_law_lo_sum" st__law_lo_sum f__law_lo_sum fd__law_lo_sum
  g__law_lo_sum : mg "_law_lo_sum" = some (.ref f__law_lo_sum)
  b__law_lo_sum : Binds K fd__law_lo_sum ["one", "other"] []
  f__law_lo_is_odd : Addr
  fd__law_lo_is_odd : FuncData
  F__law_lo_is_odd : Fun K "_law_lo_is_odd" "_law_lo_is_odd" st__law_lo_is_odd f__law_lo_is_odd fd__law_lo_is_odd
  g__law_lo_is_odd : mg "_law_lo_is_odd" = some (.ref f__law_lo_is_odd)
  b__law_lo_is_odd : Binds K fd__law_lo_is_odd ["one", "other"] []
  f__law_mixed : Addr
  fd__law_mixed : FuncData
  F__law_mixed : Fun K "_law_mixed" "_law_mixed" st__law_mixed f__law_mixed fd__law_mixed
  g__law_mixed : mg "_law_mixed" = some (.ref f__law_mixed)
  b__law_mixed : Binds K fd__law_mixed ["dice", "items"] []
  f__law_near : Addr
  fd__law_near : FuncData
  F__law_near : Fun K "_law_near" "_law_near" st__law_near f__law_near fd__law_near
  g__law_near : mg "_law_near" = some (.ref f__law_near)
  b__law_near : Binds K fd__law_near ["dice", "many", "lot"] []
  f__law_lo_is : Addr
  fd__law_lo_is : FuncData
  F__law_lo_is : Fun K "_law_lo_is" "_law_lo_is" st__law_lo_is f__law_lo_is fd__law_lo_is
  g__law_lo_is : mg "_law_lo_is" = some (.ref f__law_lo_is)
  b__law_lo_is : Binds K fd__law_lo_is ["value", "many"] []
  f__law_are_lots : Addr
  fd__law_are_lots : FuncData
  F__law_are_lots : Fun K "_law_are_lots" "_law_are_lots" st__law_are_lots f__law_are_lots fd__law_are_lots
  g__law_are_lots : mg "_law_are_lots" = some (.ref f__law_are_lots)
  b__law_are_lots : Binds K fd__law_are_lots ["value"] []
  f__law_right : Addr
  fd__law_right : FuncData
  F__law_right : Fun K "_law_right" "_law_right" st__law_right f__law_right fd__law_right
  g__law_right : mg "_law_right" = some (.ref f__law_right)
  b__law_right : Binds K fd__law_right ["dice"] []
  f_law : Addr
  fd_law : FuncData
  F_law : Fun K "law" "law" st_law f_law fd_law
  g_law : mg "law" = some (.ref f_law)
  b_law : Binds K fd_law ["script"] []
  z_abs : mg "abs" = none
  z_all : mg "all" = none
  z_bool : mg "bool" = none
  z_int : mg "int" = none
  z_isinstance : mg "isinstance" = none
  z_len : mg "len" = none
  z_list : mg "list" = none
  z_max : mg "max" = none
  z_min : mg "min" = none
  z_range : mg "range" = none
  z_set : mg "set" = none
  z_sorted : mg "sorted" = none
  z_sum : mg "sum" = none
  z_tuple : mg "tuple" = none
  z_zip : mg "zip" = none
  c_MOST_LINES : ∃ t, mg "MOST_LINES" = some (.int 24 t)
  c_MOST_LOTS : ∃ t, mg "MOST_LOTS" = some (.int 64 t)
  c_PAIR : ∃ t, mg "PAIR" = some (.int 2 t)
section
variable {P : Program} {w : World} {K : PySem.W.Frag} {mg : Str → Option Value} {base : Heap}
theorem ok__law_dice (M : Md K mg) : FnOk P w K mg base (L2.CX P w) 1 M.f__law_dice M.fd__law_dice ["script", "spot"] (spD ⟨K, mg, []⟩ true 2 f__law_dice) :=
  okF M.F__law_dice sc__law_dice (by decide) fun cdv A outer s H E H0 F0 hr =>
  (rss_cons (rs_set sc__law_dice.nd rfl (by first | exact .inl rfl | exact .inr rfl) (re_if (rt_cmp op_lt oa_lt (pv 1) (re_cb call_lenX oa_len rfl M.z_len bt_len (ro_cons (pv 0) ro_nil)) (by first | exact nobehind _ (by decide) (by decide) | rfl)) (re_ct call_int1 oa_int rfl M.z_int bt_int (ro_cons (re_ixx rfl hr.units (pv 0) (pv 1) (fun _ _ => rfl) (fun _ _ => rfl)) ro_nil)) (re_op op_addX oa_add (re_op op_mulXX oa_mul re_int (pv 1)) re_int)))
  (rss_cons (rs_set sc__law_dice.nd rfl (by first | exact .inl rfl | exact .inr rfl) (re_op op_modN oa_mod (re_cb (call_max2 rfl) oa_max2 rfl M.z_max bt_max (ro_cons re_int (ro_cons (re_op op_sub oa_sub (re_cb call_abs oa_abs rfl M.z_abs bt_abs (ro_cons (pv 2) ro_nil)) (re_op op_pow oa_pow re_int re_int)) ro_nil))) (re_op op_mulXX oa_mul (re_op op_pow oa_pow re_int re_int) (re_op op_pow oa_pow re_int re_int))))
  (rss_one (rs_rtF (re_lst (ra_cons (re_var (pv 3)) (ra_cons (re_op op_addX oa_add (re_op op_addX oa_add (re_op op_addX oa_add (re_op op_mulXX oa_mul (re_op op_modN oa_mod (re_cb call_abs oa_abs rfl M.z_abs bt_abs (ro_cons (pv 2) ro_nil)) re_int) re_int) (re_op op_mulXX oa_mul re_int (pv 1))) (re_op op_mulXX oa_mul re_int (re_ct call_int1 oa_int rfl M.z_int bt_int (ro_cons (re_cmp op_lt oa_lt (pv 2) re_int (by first | exact nobehind _ (by decide) (by decide) | rfl)) ro_nil)))) re_int) (ra_cons re_int ra_nil))))))))
theorem ok_is_whole (M : Md K mg) : FnOk P w K mg base (L2.CX P w) 1 M.f_is_whole M.fd_is_whole ["value"] (spD ⟨K, mg, []⟩ false 1 f_is_whole) :=
  okD M.F_is_whole sc_is_whole (by decide) fun cdv A outer s H E H0 F0 hr =>
  (rss_one (rs_rt (re_and (re_isi rfl rfl M.z_isinstance bt_isinstance rfl M.z_int bt_int (re_var (pv 0))) (re_one (re_not (re_isi rfl rfl M.z_isinstance bt_isinstance rfl M.z_bool bt_bool (re_var (pv 0))))))))
theorem ok_is_below (M : Md K mg) : FnOk P w K mg base (L2.CX P w) 2 M.f_is_below M.fd_is_below ["value", "many"] (spD ⟨K, mg, []⟩ false 2 f_is_below) :=
  okD M.F_is_below sc_is_below (by decide) fun cdv A outer s H E H0 F0 hr =>
  (rss_one (rs_rt (re_and (re_call (ok_is_whole M) (hr.mono (by decide)) rfl M.g_is_whole M.F_is_whole.kp M.b_is_whole (takes_of rfl rfl rfl rfl) (ra_cons (re_var (pv 0)) ra_nil)) (re_one (re_chain op_le op_lt oa_le oa_lt re_int (re_var (pv 0)) (re_var (pv 1)))))))
theorem ok_is_rising (M : Md K mg) : FnOk P w K mg base (L2.CX P w) 3 M.f_is_rising M.fd_is_rising ["value", "many"] (spD ⟨K, mg, []⟩ false 2 f_is_rising) :=
  okD M.F_is_rising sc_is_rising (by decide) fun cdv A outer s H E H0 F0 hr =>
  (rss_cons (rs_if (PW.pt (rw_or (rt_not (rt_val (re_isi rfl rfl M.z_isinstance bt_isinstance rfl M.z_tuple bt_tuple (re_var (pv 0))))) (rw_or1 (rt_not (rt_val (re_cb (cr_all rfl) oa_all rfl M.z_all bt_all (ro_cons (re_fz (re_lc rfl sc_is_rising.nd (blkOk_by (own := [("one", 2)]) (by kernel_rfl)) (by decide) (ri_any rfl (re_var (pv 0))) (fun _ _ _ _ _ => PGx fun _ => (rg_name sc_is_rising.nd rfl (by first | exact .inl rfl | exact .inr rfl))) (fun _ _ _ _ _ => PTx0) (fun _ _ _ _ _ => PEx fun _ => (re_call (ok_is_below M) (hr.mono (by decide)) rfl M.g_is_below M.F_is_below.kp M.b_is_below tk0 (ra_cons (re_var (pv 2)) (ra_cons (re_var (pv 1)) ra_nil)))))) ro_nil))))))) (rss_one (rs_rt re_bl)) rss_nil)
  (rss_one (rs_rt (re_cb (cr_all rfl) oa_all rfl M.z_all bt_all (ro_cons (re_fz (re_lc rfl sc_is_rising.nd (blkOk_by (own := [("one", 2), ("other", 3)]) (by kernel_rfl)) (by decide) (ri_zip rfl rfl M.z_zip (re_var (pv 0)) (re_sl rfl (pv 0) (.some re_int) .none)) (fun _ _ _ _ _ => PGx fun _ => (rg_tup rfl rfl (rgs_cons (rg_name sc_is_rising.nd rfl (by first | exact .inl rfl | exact .inr rfl)) (rgs_cons (rg_name sc_is_rising.nd rfl (by first | exact .inl rfl | exact .inr rfl)) rgs_nil)))) (fun _ _ _ _ _ => PTx0) (fun _ _ _ _ _ => PEx fun _ => (re_cmp op_lt oa_lt (pv 2) (pv 3) (by first | exact nobehind _ (by decide) (by decide) | rfl))))) ro_nil)))))
theorem ok_require_lot (M : Md K mg) : FnOk P w K mg base (L2.CX P w) 4 M.f_require_lot M.fd_require_lot ["value"] (spD ⟨K, mg, []⟩ false 1 f_require_lot) :=
  okD M.F_require_lot sc_require_lot (by decide) fun cdv A outer s H E H0 F0 hr =>
  (rss_one (rs_if (rt_not (rt_val (re_call (ok_is_rising M) (hr.mono (by decide)) rfl M.g_is_rising M.F_is_rising.kp M.b_is_rising (takes_of rfl rfl rfl rfl) (ra_cons (re_var (pv 0)) (ra_cons (re_gint rfl M.c_MOST_LINES) ra_nil))))) (rss_one rs_no) rss_nil))
theorem ok_require_two (M : Md K mg) : FnOk P w K mg base (L2.CX P w) 5 M.f_require_two M.fd_require_two ["one", "other"] (spD ⟨K, mg, []⟩ false 2 f_require_two) :=
  okD M.F_require_two sc_require_two (by decide) fun cdv A outer s H E H0 F0 hr =>
  (rss_cons (rs_ex (re_call (ok_require_lot M) (hr.mono (by decide)) rfl M.g_require_lot M.F_require_lot.kp M.b_require_lot (takes_of rfl rfl rfl rfl) (ra_cons (re_var (pv 0)) ra_nil)))
  (rss_one (rs_ex (re_call (ok_require_lot M) (hr.mono (by decide)) rfl M.g_require_lot M.F_require_lot.kp M.b_require_lot (takes_of rfl rfl rfl rfl) (ra_cons (re_var (pv 1)) ra_nil)))))
theorem ok_lot_of (M : Md K mg) : FnOk P w K mg base (L2.CX P w) 1 M.f_lot_of M.fd_lot_of ["mask"] (spD ⟨K, mg, []⟩ false 1 f_lot_of) :=
  okD M.F_lot_of sc_lot_of (by decide) fun cdv A outer s H E H0 F0 hr =>
  (rss_cons (rs_par rfl sc_lot_of.nd rfl rfl (by decide) rfl rfl (re_lst ra_nil) (fun _ => (re_var (pv 0))))
  (rss_cons (rs_while (passes_of rfl) (rt_cmp (op_neD hr.units) oa_ne (pv 2) re_int (by first | exact nobehind _ (by decide) (by decide) | rfl)) (rss_cons (rs_set sc_lot_of.nd rfl (by first | exact .inl rfl | exact .inr rfl) (re_op op_and oa_and (pv 2) (re_un un_neg oa_neg (pv 2))))
  (rss_cons (rs_ex (re_append rfl (pv 1) (re_op op_sub oa_sub (re_bits (pv 3)) re_int)))
  (rss_one (rs_aug sc_lot_of.nd rfl (by first | exact .inl rfl | exact .inr rfl) iop_xor oa_xor (re_var (pv 3)))))))
  (rss_one (rs_rt (re_ct call_tuple_of oa_tuple rfl M.z_tuple bt_tuple (ro_cons (pv 1) ro_nil))))))
theorem ok_mask_of (M : Md K mg) : FnOk P w K mg base (L2.CX P w) 1 M.f_mask_of M.fd_mask_of ["lot"] (spD ⟨K, mg, []⟩ false 1 f_mask_of) :=
  okD M.F_mask_of sc_mask_of (by decide) fun cdv A outer s H E H0 F0 hr =>
  (rss_one (rs_rt (re_cb (cr_sum rfl) oa_sum rfl M.z_sum bt_sum (ro_cons (re_fz (re_lc rfl sc_mask_of.nd (blkOk_by (own := [("line", 1)]) (by kernel_rfl)) (by decide) (ri_any rfl (re_var (pv 0))) (fun _ _ _ _ _ => PGx fun _ => (rg_name sc_mask_of.nd rfl (by first | exact .inl rfl | exact .inr rfl))) (fun _ _ _ _ _ => PTx0) (fun _ _ _ _ _ => PEx fun _ => (re_op op_shl oa_shl re_int (pv 1))))) ro_nil))))
theorem ok_lot_sum (M : Md K mg) : FnOk P w K mg base (L2.CX P w) 6 M.f_lot_sum M.fd_lot_sum ["one", "other"] (spD ⟨K, mg, []⟩ false 2 f_lot_sum) :=
  okD M.F_lot_sum sc_lot_sum (by decide) fun cdv A outer s H E H0 F0 hr =>
  (rss_cons (rs_ex (re_call (ok_require_two M) (hr.mono (by decide)) rfl M.g_require_two M.F_require_two.kp M.b_require_two (takes_of rfl rfl rfl rfl) (ra_cons (re_var (pv 0)) (ra_cons (re_var (pv 1)) ra_nil))))
  (rss_one (rs_rt (re_call (ok_lot_of M) (hr.mono (by decide)) rfl M.g_lot_of M.F_lot_of.kp M.b_lot_of (takes_of rfl rfl rfl rfl) (ra_cons (re_op op_xor oa_xor (re_call (ok_mask_of M) (hr.mono (by decide)) rfl M.g_mask_of M.F_mask_of.kp M.b_mask_of (takes_of rfl rfl rfl rfl) (ra_cons (re_var (pv 0)) ra_nil)) (re_call (ok_mask_of M) (hr.mono (by decide)) rfl M.g_mask_of M.F_mask_of.kp M.b_mask_of (takes_of rfl rfl rfl rfl) (ra_cons (re_var (pv 1)) ra_nil))) ra_nil)))))
theorem ok_are_lots_in (M : Md K mg) : FnOk P w K mg base (L2.CX P w) 4 M.f_are_lots_in M.fd_are_lots_in ["value"] (spD ⟨K, mg, []⟩ false 1 f_are_lots_in) :=
  okD M.F_are_lots_in sc_are_lots_in (by decide) fun cdv A outer s H E H0 F0 hr =>
  (rss_one (rs_rt (re_and (re_isi rfl rfl M.z_isinstance bt_isinstance rfl M.z_tuple bt_tuple (re_var (pv 0))) (re_and (re_cmp op_le oa_le (re_cb call_lenX oa_len rfl M.z_len bt_len (ro_cons (pv 0) ro_nil)) (re_gint rfl M.c_MOST_LOTS) (by first | exact nobehind _ (by decide) (by decide) | rfl)) (re_one (re_cb (cr_all rfl) oa_all rfl M.z_all bt_all (ro_cons (re_fz (re_lc rfl sc_are_lots_in.nd (blkOk_by (own := [("lot", 1)]) (by kernel_rfl)) (by decide) (ri_any rfl (re_var (pv 0))) (fun _ _ _ _ _ => PGx fun _ => (rg_name sc_are_lots_in.nd rfl (by first | exact .inl rfl | exact .inr rfl))) (fun _ _ _ _ _ => PTx0) (fun _ _ _ _ _ => PEx fun _ => (re_call (ok_is_rising M) (hr.mono (by decide)) rfl M.g_is_rising M.F_is_rising.kp M.b_is_rising tk0 (ra_cons (re_var (pv 1)) (ra_cons (re_gint rfl M.c_MOST_LINES) ra_nil)))))) ro_nil)))))))
theorem ok_require_lots (M : Md K mg) : FnOk P w K mg base (L2.CX P w) 5 M.f_require_lots M.fd_require_lots ["value"] (spD ⟨K, mg, []⟩ false 1 f_require_lots) :=
  okD M.F_require_lots sc_require_lots (by decide) fun cdv A outer s H E H0 F0 hr =>
  (rss_one (rs_if (rt_not (rt_val (re_call (ok_are_lots_in M) (hr.mono (by decide)) rfl M.g_are_lots_in M.F_are_lots_in.kp M.b_are_lots_in (takes_of rfl rfl rfl rfl) (ra_cons (re_var (pv 0)) ra_nil)))) (rss_one rs_no) rss_nil))
theorem ok_sum_of_masks (M : Md K mg) : FnOk P w K mg base (L2.CX P w) 1 M.f_sum_of_masks M.fd_sum_of_masks ["masks", "pick"] (spD ⟨K, mg, []⟩ false 2 f_sum_of_masks) :=
  okD M.F_sum_of_masks sc_sum_of_masks (by decide) fun cdv A outer s H E H0 F0 hr =>
  (rss_cons (rs_set sc_sum_of_masks.nd rfl (by first | exact .inl rfl | exact .inr rfl) re_int)
  (rss_cons (rs_for (passes_of rfl) rfl (ri_any rfl (re_var (pv 1))) (rg_name sc_sum_of_masks.nd rfl (by first | exact .inl rfl | exact .inr rfl)) (rss_one (rs_aug sc_sum_of_masks.nd rfl (by first | exact .inl rfl | exact .inr rfl) iop_xor oa_xor (re_ixx rfl hr.units (pv 0) (pv 3) (fun _ _ => rfl) (fun _ _ => rfl)))))
  (rss_one (rs_rt (re_var (pv 2))))))
theorem ok_masks_of (M : Md K mg) : FnOk P w K mg base (L2.CX P w) 2 M.f_masks_of M.fd_masks_of ["lots"] (spD ⟨K, mg, []⟩ false 1 f_masks_of) :=
  okD M.F_masks_of sc_masks_of (by decide) fun cdv A outer s H E H0 F0 hr =>
  (rss_one (rs_rt (re_fz (re_lc rfl sc_masks_of.nd (blkOk_by (own := [("lot", 1)]) (by kernel_rfl)) (by decide) (ri_any rfl (re_var (pv 0))) (fun _ _ _ _ _ => PGx fun _ => (rg_name sc_masks_of.nd rfl (by first | exact .inl rfl | exact .inr rfl))) (fun _ _ _ _ _ => PTx0) (fun _ _ _ _ _ => PEx fun _ => (re_call (ok_mask_of M) (hr.mono (by decide)) rfl M.g_mask_of M.F_mask_of.kp M.b_mask_of tk0 (ra_cons (re_var (pv 1)) ra_nil)))))))
theorem ok_sum_of_pick (M : Md K mg) : FnOk P w K mg base (L2.CX P w) 6 M.f_sum_of_pick M.fd_sum_of_pick ["lots", "pick"] (spD ⟨K, mg, []⟩ false 2 f_sum_of_pick) :=
  okD M.F_sum_of_pick sc_sum_of_pick (by decide) fun cdv A outer s H E H0 F0 hr =>
  (rss_cons (rs_ex (re_call (ok_require_lots M) (hr.mono (by decide)) rfl M.g_require_lots M.F_require_lots.kp M.b_require_lots (takes_of rfl rfl rfl rfl) (ra_cons (re_var (pv 0)) ra_nil)))
  (rss_cons (rs_if (rt_not (rt_val (re_call (ok_is_rising M) (hr.mono (by decide)) rfl M.g_is_rising M.F_is_rising.kp M.b_is_rising (takes_of rfl rfl rfl rfl) (ra_cons (re_var (pv 1)) (ra_cons (re_cb call_lenX oa_len rfl M.z_len bt_len (ro_cons (pv 0) ro_nil)) ra_nil))))) (rss_one rs_no) rss_nil)
  (rss_one (rs_rt (re_call (ok_lot_of M) (hr.mono (by decide)) rfl M.g_lot_of M.F_lot_of.kp M.b_lot_of (takes_of rfl rfl rfl rfl) (ra_cons (re_call (ok_sum_of_masks M) (hr.mono (by decide)) rfl M.g_sum_of_masks M.F_sum_of_masks.kp M.b_sum_of_masks (takes_of rfl rfl rfl rfl) (ra_cons (re_call (ok_masks_of M) (hr.mono (by decide)) rfl M.g_masks_of M.F_masks_of.kp M.b_masks_of (takes_of rfl rfl rfl rfl) (ra_cons (re_var (pv 0)) ra_nil)) (ra_cons (re_var (pv 1)) ra_nil))) ra_nil))))))
theorem ok_size_of (M : Md K mg) : FnOk P w K mg base (L2.CX P w) 2 M.f_size_of M.fd_size_of ["mask"] (spD ⟨K, mg, []⟩ false 1 f_size_of) :=
  okD M.F_size_of sc_size_of (by decide) fun cdv A outer s H E H0 F0 hr =>
  (rss_one (rs_rt (re_cb call_lenX oa_len rfl M.z_len bt_len (ro_cons (re_call (ok_lot_of M) (hr.mono (by decide)) rfl M.g_lot_of M.F_lot_of.kp M.b_lot_of (takes_of rfl rfl rfl rfl) (ra_cons (re_var (pv 0)) ra_nil)) ro_nil))))
theorem ok_is_odd (M : Md K mg) : FnOk P w K mg base (L2.CX P w) 3 M.f_is_odd M.fd_is_odd ["mask"] (spD ⟨K, mg, []⟩ false 1 f_is_odd) :=
  okD M.F_is_odd sc_is_odd (by decide) fun cdv A outer s H E H0 F0 hr =>
  (rss_one (rs_rt (re_cmp (op_eqD hr.units) oa_eq (re_op op_modN oa_mod (re_call (ok_size_of M) (hr.mono (by decide)) rfl M.g_size_of M.F_size_of.kp M.b_size_of (takes_of rfl rfl rfl rfl) (ra_cons (re_var (pv 0)) ra_nil)) (re_gint rfl M.c_PAIR)) re_int (by first | exact nobehind _ (by decide) (by decide) | rfl))))
theorem ok_does_meet_oddly (M : Md K mg) : FnOk P w K mg base (L2.CX P w) 6 M.f_does_meet_oddly M.fd_does_meet_oddly ["one", "other"] (spD ⟨K, mg, []⟩ false 2 f_does_meet_oddly) :=
  okD M.F_does_meet_oddly sc_does_meet_oddly (by decide) fun cdv A outer s H E H0 F0 hr =>
  (rss_cons (rs_ex (re_call (ok_require_two M) (hr.mono (by decide)) rfl M.g_require_two M.F_require_two.kp M.b_require_two (takes_of rfl rfl rfl rfl) (ra_cons (re_var (pv 0)) (ra_cons (re_var (pv 1)) ra_nil))))
  (rss_one (rs_rt (re_call (ok_is_odd M) (hr.mono (by decide)) rfl M.g_is_odd M.F_is_odd.kp M.b_is_odd (takes_of rfl rfl rfl rfl) (ra_cons (re_op op_and oa_and (re_call (ok_mask_of M) (hr.mono (by decide)) rfl M.g_mask_of M.F_mask_of.kp M.b_mask_of (takes_of rfl rfl rfl rfl) (ra_cons (re_var (pv 0)) ra_nil)) (re_call (ok_mask_of M) (hr.mono (by decide)) rfl M.g_mask_of M.F_mask_of.kp M.b_mask_of (takes_of rfl rfl rfl rfl) (ra_cons (re_var (pv 1)) ra_nil))) ra_nil)))))
theorem ok_require_many (M : Md K mg) : FnOk P w K mg base (L2.CX P w) 2 M.f_require_many M.fd_require_many ["value"] (spD ⟨K, mg, []⟩ false 1 f_require_many) :=
  okD M.F_require_many sc_require_many (by decide) fun cdv A outer s H E H0 F0 hr =>
  (rss_one (rs_if (PW.pt (rw_or (rt_not (rt_val (re_call (ok_is_whole M) (hr.mono (by decide)) rfl M.g_is_whole M.F_is_whole.kp M.b_is_whole (takes_of rfl rfl rfl rfl) (ra_cons (re_var (pv 0)) ra_nil)))) (rw_or1 (rt_not (rt_chain op_le op_le oa_le oa_le re_int (re_var (pv 0)) (re_gint rfl M.c_MOST_LINES)))))) (rss_one rs_no) rss_nil))
theorem ok_is_lot_of (M : Md K mg) : FnOk P w K mg base (L2.CX P w) 4 M.f_is_lot_of M.fd_is_lot_of ["many", "value"] (spD ⟨K, mg, []⟩ false 2 f_is_lot_of) :=
  okD M.F_is_lot_of sc_is_lot_of (by decide) fun cdv A outer s H E H0 F0 hr =>
  (rss_cons (rs_ex (re_call (ok_require_many M) (hr.mono (by decide)) rfl M.g_require_many M.F_require_many.kp M.b_require_many (takes_of rfl rfl rfl rfl) (ra_cons (re_var (pv 0)) ra_nil)))
  (rss_one (rs_rt (re_call (ok_is_rising M) (hr.mono (by decide)) rfl M.g_is_rising M.F_is_rising.kp M.b_is_rising (takes_of rfl rfl rfl rfl) (ra_cons (re_var (pv 1)) (ra_cons (re_var (pv 0)) ra_nil))))))
theorem ok_are_lots (M : Md K mg) : FnOk P w K mg base (L2.CX P w) 5 M.f_are_lots M.fd_are_lots ["value"] (spD ⟨K, mg, []⟩ false 1 f_are_lots) :=
  okD M.F_are_lots sc_are_lots (by decide) fun cdv A outer s H E H0 F0 hr =>
  (rss_one (rs_rt (re_call (ok_are_lots_in M) (hr.mono (by decide)) rfl M.g_are_lots_in M.F_are_lots_in.kp M.b_are_lots_in (takes_of rfl rfl rfl rfl) (ra_cons (re_var (pv 0)) ra_nil))))
theorem ok__law_roll (M : Md K mg) : FnOk P w K mg base (L2.CX P w) 1 M.f__law_roll M.fd__law_roll ["dice", "most"] (spR ⟨K, mg, []⟩ false 1 f__law_roll) :=
  okR M.F__law_roll sc__law_roll rfl (by decide) fun cdv A outer s H E ra H0 F0 hr =>
  (rss_cons (rs_if (rt_cmp op_gt oa_gt (re_ixx rfl hr.units (pv 0) re_int (fun _ _ => rfl) (fun _ _ => rfl)) re_int (by first | exact nobehind _ (by decide) (by decide) | rfl)) (rss_cons (rs_set sc__law_roll.nd rfl (by first | exact .inl rfl | exact .inr rfl) (re_op op_modN oa_mod (re_ct call_int1 oa_int rfl M.z_int bt_int (ro_cons (re_ixx rfl hr.units (pv 0) re_int (fun _ _ => rfl) (fun _ _ => rfl)) ro_nil)) (pv 1)))
  (rss_cons (rs_sub hr.units (pv 0) re_int (re_op op_fdivW oa_fdiv (re_ixx rfl hr.units (pv 0) re_int (fun _ _ => rfl) (fun _ _ => rfl)) (pv 1)))
  (rss_one (rs_rt (re_var (pv 2)))))) rss_nil)
  (rss_cons (rs_sub hr.units (pv 0) re_int (re_op op_addX oa_add (re_ixx rfl hr.units (pv 0) re_int (fun _ _ => rfl) (fun _ _ => rfl)) re_int))
  (rss_cons (rs_set sc__law_roll.nd rfl (by first | exact .inl rfl | exact .inr rfl) (re_op op_modN oa_mod (re_ct call_int1 oa_int rfl M.z_int bt_int (ro_cons (re_op op_addX oa_add (re_ixx rfl hr.units (pv 0) re_int (fun _ _ => rfl) (fun _ _ => rfl)) (re_op op_mulXX oa_mul re_int (re_ixx rfl hr.units (pv 0) re_int (fun _ _ => rfl) (fun _ _ => rfl)))) ro_nil)) re_int))
  (rss_cons (rs_set sc__law_roll.nd rfl (by first | exact .inl rfl | exact .inr rfl) (re_op op_addX oa_add (re_op op_mulXX oa_mul (re_op op_modN oa_mod (re_ct call_int1 oa_int rfl M.z_int bt_int (ro_cons (re_op op_addX oa_add (re_op op_mulXX oa_mul (pv 3) (pv 3)) (re_op op_mulXX oa_mul re_int (re_ixx rfl hr.units (pv 0) re_int (fun _ _ => rfl) (fun _ _ => rfl)))) ro_nil)) re_int) re_int) (pv 3)))
  (rss_one (rs_rt (re_op op_modN oa_mod (re_ct call_int1 oa_int rfl M.z_int bt_int (ro_cons (re_op op_fdivW oa_fdiv (pv 4) re_int) ro_nil)) (pv 1))))))))
theorem ok__law_lo_any (M : Md K mg) : FnOk P w K mg base (L2.CX P w) 2 M.f__law_lo_any M.fd__law_lo_any ["dice", "many"] (spR ⟨K, mg, []⟩ false 1 f__law_lo_any) :=
  okR M.F__law_lo_any sc__law_lo_any rfl (by decide) fun cdv A outer s H E ra H0 F0 hr =>
  (rss_cons (rs_set sc__law_lo_any.nd rfl (by first | exact .inl rfl | exact .inr rfl) (re_op op_addX oa_add re_int (re_callR (ok__law_roll M) (hr.mono (by decide)) rfl M.g__law_roll M.F__law_roll.kp M.b__law_roll (takes_of rfl rfl rfl rfl) (pv 0) (ra_cons re_int ra_nil))))
  (rss_one (rs_rt (re_ct call_tuple_of oa_tuple rfl M.z_tuple bt_tuple (ro_cons (re_fz (re_lc rfl sc__law_lo_any.nd (blkOk_by (own := [("line", 3)]) (by kernel_rfl)) (by decide) (ri_range1 rfl M.z_range (re_var (pv 1))) (fun _ _ _ _ _ => PGx fun _ => (rg_name sc__law_lo_any.nd rfl (by first | exact .inl rfl | exact .inr rfl))) (fun _ _ _ _ _ => PTx1 fun _ => (rt_cmp op_lt oa_lt (re_callR (ok__law_roll M) (hr.mono (by decide)) rfl M.g__law_roll M.F__law_roll.kp M.b__law_roll tk0 (pv 0) (ra_cons re_int ra_nil)) (pv 2) (by first | exact nobehind _ (by decide) (by decide) | rfl))) (fun _ _ _ _ _ => PEx fun _ => (re_var (pv 3))))) ro_nil)))))
theorem ok__law_lo_total (M : Md K mg) : FnOk P w K mg base (L2.CX P w) 1 M.f__law_lo_total M.fd__law_lo_total ["lots"] (spD ⟨K, mg, []⟩ false 1 f__law_lo_total) :=
  okD M.F__law_lo_total sc__law_lo_total (by decide) fun cdv A outer s H E H0 F0 hr =>
  (rss_cons (rs_setO sc__law_lo_total.nd rfl (by first | exact .inl rfl | exact .inr rfl) re_dnew)
  (rss_cons (rs_for (passes_of rfl) rfl (ri_any rfl (re_var (pv 0))) (rg_name sc__law_lo_total.nd rfl (by first | exact .inl rfl | exact .inr rfl)) (rss_one (rs_for (passes_of rfl) rfl (ri_any rfl (re_var (pv 2))) (rg_name sc__law_lo_total.nd rfl (by first | exact .inl rfl | exact .inr rfl)) (rss_one (rs_sub hr.units (pv 1) (re_var (pv 3)) (re_op op_addX oa_add (re_get2 hr.units (pv 1) (re_var (pv 3)) re_int) re_int))))))
  (rss_fz (rss_one (rs_rt (re_ct call_tuple_of oa_tuple rfl M.z_tuple bt_tuple (ro_cons (re_fz (re_cbF cr_sortedI of_sorted rfl M.z_sorted bt_sorted (ro_cons (re_fz (re_lc rfl sc__law_lo_total.nd (blkOk_by (own := [("line", 3)]) (by kernel_rfl)) (by decide) (ri_any rfl (re_var (pv 1))) (fun _ _ _ _ _ => PGx fun _ => (rg_name sc__law_lo_total.nd rfl (by first | exact .inl rfl | exact .inr rfl))) (fun _ _ _ _ _ => PTx1 fun _ => (rt_cmp (op_eqD hr.units) oa_eq (re_op op_modN oa_mod (re_ixx rfl hr.units (pv 1) (pv 3) (fun _ _ => rfl) (fun _ _ => rfl)) re_int) re_int (by first | exact nobehind _ (by decide) (by decide) | rfl))) (fun _ _ _ _ _ => PEx fun _ => (re_var (pv 3))))) ro_nil))) ro_nil)))))))
theorem ok__law_lo_sum (M : Md K mg) : FnOk P w K mg base (L2.CX P w) 1 M.f__law_lo_sum M.fd__law_lo_sum ["one", "other"] (spD ⟨K, mg, []⟩ false 2 f__law_lo_sum) :=
  okD M.F__law_lo_sum sc__law_lo_sum (by decide) fun cdv A outer s H E H0 F0 hr =>
  (rss_one (rs_rt (re_ct call_tuple_of oa_tuple rfl M.z_tuple bt_tuple (ro_cons (re_fz (re_cbF cr_sortedI of_sorted rfl M.z_sorted bt_sorted (ro_cons (re_op op_addX oa_add (re_fz (re_lc rfl sc__law_lo_sum.nd (blkOk_by (own := [("line", 2)]) (by kernel_rfl)) (by decide) (ri_any rfl (re_var (pv 0))) (fun _ _ _ _ _ => PGx fun _ => (rg_name sc__law_lo_sum.nd rfl (by first | exact .inl rfl | exact .inr rfl))) (fun _ _ _ _ _ => PTx1 fun _ => (rt_cmp (op_notinX hr.units) (oa_inX true) (pv 2) (pv 1) (by first | exact nobehind _ (by decide) (by decide) | rfl))) (fun _ _ _ _ _ => PEx fun _ => (re_var (pv 2))))) (re_fz (re_lc rfl sc__law_lo_sum.nd (blkOk_by (own := [("line", 2)]) (by kernel_rfl)) (by decide) (ri_any rfl (re_var (pv 1))) (fun _ _ _ _ _ => PGx fun _ => (rg_name sc__law_lo_sum.nd rfl (by first | exact .inl rfl | exact .inr rfl))) (fun _ _ _ _ _ => PTx1 fun _ => (rt_cmp (op_notinX hr.units) (oa_inX true) (pv 2) (pv 0) (by first | exact nobehind _ (by decide) (by decide) | rfl))) (fun _ _ _ _ _ => PEx fun _ => (re_var (pv 2)))))) ro_nil))) ro_nil))))
theorem ok__law_lo_is_odd (M : Md K mg) : FnOk P w K mg base (L2.CX P w) 1 M.f__law_lo_is_odd M.fd__law_lo_is_odd ["one", "other"] (spD ⟨K, mg, []⟩ false 2 f__law_lo_is_odd) :=
  okD M.F__law_lo_is_odd sc__law_lo_is_odd (by decide) fun cdv A outer s H E H0 F0 hr =>
  (rss_one (rs_rt (re_cmp (op_eqD hr.units) oa_eq (re_op op_modN oa_mod (re_cb call_lenX oa_len rfl M.z_len bt_len (ro_cons (re_fz (re_lc rfl sc__law_lo_is_odd.nd (blkOk_by (own := [("line", 2)]) (by kernel_rfl)) (by decide) (ri_any rfl (re_var (pv 0))) (fun _ _ _ _ _ => PGx fun _ => (rg_name sc__law_lo_is_odd.nd rfl (by first | exact .inl rfl | exact .inr rfl))) (fun _ _ _ _ _ => PTx1 fun _ => (rt_cmp (op_inX hr.units) (oa_inX false) (pv 2) (pv 1) (by first | exact nobehind _ (by decide) (by decide) | rfl))) (fun _ _ _ _ _ => PEx fun _ => (re_var (pv 2))))) ro_nil)) re_int) re_int (by first | exact nobehind _ (by decide) (by decide) | rfl))))
theorem ok__law_mixed (M : Md K mg) : FnOk P w K mg base (L2.CX P w) 2 M.f__law_mixed M.fd__law_mixed ["dice", "items"] (spR ⟨K, mg, []⟩ false 1 f__law_mixed) :=
  okR M.F__law_mixed sc__law_mixed rfl (by decide) fun cdv A outer s H E ra H0 F0 hr =>
  (rss_cons (rs_par rfl sc__law_mixed.nd rfl rfl (by decide) rfl rfl (re_ctF call_list_of of_list rfl M.z_list bt_list (ro_cons (pv 1) ro_nil)) (fun _ => (re_lst ra_nil)))
  (rss_cons (rs_while (passes_of rfl) (rt_cmp (op_neD hr.units) oa_ne (pv 2) (re_fz (re_lst ra_nil)) (by first | exact nobehind _ (by decide) (by decide) | rfl)) (rss_one (rs_ex (re_append rfl (pv 3) (re_popAt rfl (pv 2) (re_callR (ok__law_roll M) (hr.mono (by decide)) rfl M.g__law_roll M.F__law_roll.kp M.b__law_roll (takes_of rfl rfl rfl rfl) (pv 0) (ra_cons (re_cb call_lenX oa_len rfl M.z_len bt_len (ro_cons (pv 2) ro_nil)) ra_nil)))))))
  (rss_fz (rss_one (rs_rt (re_var (pv 3)))))))
theorem ok__law_near (M : Md K mg) : FnOk P w K mg base (L2.CX P w) 1 M.f__law_near M.fd__law_near ["dice", "many", "lot"] (spR ⟨K, mg, []⟩ false 2 f__law_near) :=
  okR M.F__law_near sc__law_near rfl (by decide) fun cdv A outer s H E ra H0 F0 hr =>
  (rss_cons (rs_set sc__law_near.nd rfl (by first | exact .inl rfl | exact .inr rfl) (re_fz (re_lst (ra_cons (re_var (pv 2)) (ra_cons (re_fz (re_ctF call_list_of of_list rfl M.z_list bt_list (ro_cons (pv 2) ro_nil))) (ra_cons (re_rev rfl (pv 2)) (ra_cons (re_op op_addX oa_add (pv 2) (re_sl rfl (pv 2) (.some (re_un un_neg oa_neg re_int)) .none)) (ra_cons (re_op op_addX oa_add (pv 2) (re_tup (ra_cons (re_var (pv 1)) ra_nil))) (ra_cons (re_op op_addX oa_add (re_tup (ra_cons (re_un un_neg oa_neg re_int) ra_nil)) (pv 2)) (ra_cons re_non (ra_cons (re_tup ra_nil) (ra_cons re_int (ra_cons re_str (ra_cons (re_fz re_dnew) (ra_cons (re_tup (ra_cons re_bl ra_nil)) (ra_cons (re_tup (ra_cons re_non ra_nil)) (ra_cons (re_tup (ra_cons (re_tup (ra_cons re_int ra_nil)) ra_nil)) (ra_cons re_str ra_nil))))))))))))))))))
  (rss_one (rs_rt (re_op op_addX oa_add (pv 3) (re_fz (re_lst (ra_cons (re_ct call_tuple_of oa_tuple rfl M.z_tuple bt_tuple (ro_cons (re_fz (re_lc rfl sc__law_near.nd (blkOk_by (own := [("one", 4)]) (by kernel_rfl)) (by decide) (ri_any rfl (re_var (pv 2))) (fun _ _ _ _ _ => PGx fun _ => (rg_name sc__law_near.nd rfl (by first | exact .inl rfl | exact .inr rfl))) (fun _ _ _ _ _ => PTx0) (fun _ _ _ _ _ => PEx fun _ => (re_cmp (op_eqD hr.units) oa_eq (pv 4) re_int (by first | exact nobehind _ (by decide) (by decide) | rfl))))) ro_nil)) (ra_cons (re_sl rfl (pv 2) (.some re_int) .none) (ra_cons (re_tupRg rfl rfl M.z_tuple rfl M.z_range (re_var (pv 1))) (ra_cons (re_tup (ra_cons (re_op op_pow oa_pow re_int re_int) ra_nil)) (ra_cons (re_tup (ra_cons re_str ra_nil)) (ra_cons (re_op op_addX oa_add (pv 2) (re_tup (ra_cons re_int ra_nil))) (ra_cons (re_tup (ra_cons re_int (ra_cons re_int ra_nil))) (ra_cons (re_tup (ra_cons re_int (ra_cons re_int ra_nil))) ra_nil))))))))))))))
theorem ok__law_lo_is (M : Md K mg) : FnOk P w K mg base (L2.CX P w) 1 M.f__law_lo_is M.fd__law_lo_is ["value", "many"] (spD ⟨K, mg, []⟩ false 2 f__law_lo_is) :=
  okD M.F__law_lo_is sc__law_lo_is (by decide) fun cdv A outer s H E H0 F0 hr =>
  (rss_cons (rs_if (PW.pt (rw_or (rt_not (rt_val (re_isi rfl rfl M.z_isinstance bt_isinstance rfl M.z_tuple bt_tuple (re_var (pv 0))))) (rw_or1 (rt_cmp (op_neD hr.units) oa_ne (re_fz (re_lc rfl sc__law_lo_is.nd (blkOk_by (own := [("one", 2)]) (by kernel_rfl)) (by decide) (ri_any rfl (re_var (pv 0))) (fun _ _ _ _ _ => PGx fun _ => (rg_name sc__law_lo_is.nd rfl (by first | exact .inl rfl | exact .inr rfl))) (fun _ _ _ _ _ => PTx1 fun _ => (PW.pt (rw_or (rt_val (re_isi rfl rfl M.z_isinstance bt_isinstance rfl M.z_bool bt_bool (re_var (pv 2)))) (rw_or1 (rt_not (rt_val (re_isi rfl rfl M.z_isinstance bt_isinstance rfl M.z_int bt_int (re_var (pv 2))))))))) (fun _ _ _ _ _ => PEx fun _ => re_int))) (re_fz (re_lst ra_nil)) (by first | exact nobehind _ (by decide) (by decide) | rfl))))) (rss_one (rs_rt re_bl)) rss_nil)
  (rss_one (rs_rt (re_and (re_cmp (op_eqD hr.units) oa_eq (re_fz (re_ctF call_list_of of_list rfl M.z_list bt_list (ro_cons (pv 0) ro_nil))) (re_fz (re_srtSet rfl rfl rfl M.z_sorted rfl M.z_set (pv 0))) (by first | exact nobehind _ (by decide) (by decide) | rfl)) (re_one (re_cmp (op_eqD hr.units) oa_eq (re_fz (re_lc rfl sc__law_lo_is.nd (blkOk_by (own := [("one", 2)]) (by kernel_rfl)) (by decide) (ri_any rfl (re_var (pv 0))) (fun _ _ _ _ _ => PGx fun _ => (rg_name sc__law_lo_is.nd rfl (by first | exact .inl rfl | exact .inr rfl))) (fun _ _ _ _ _ => PTx1 fun _ => (rt_not (rt_chain op_le op_lt oa_le oa_lt re_int (re_var (pv 2)) (re_var (pv 1))))) (fun _ _ _ _ _ => PEx fun _ => (re_var (pv 2))))) (re_fz (re_lst ra_nil)) (by first | exact nobehind _ (by decide) (by decide) | rfl)))))))
theorem ok__law_are_lots (M : Md K mg) : FnOk P w K mg base (L2.CX P w) 2 M.f__law_are_lots M.fd__law_are_lots ["value"] (spD ⟨K, mg, []⟩ false 1 f__law_are_lots) :=
  okD M.F__law_are_lots sc__law_are_lots (by decide) fun cdv A outer s H E H0 F0 hr =>
  (rss_cons (rs_if (PW.pt (rw_or (rt_not (rt_val (re_isi rfl rfl M.z_isinstance bt_isinstance rfl M.z_tuple bt_tuple (re_var (pv 0))))) (rw_or1 (rt_cmp op_gt oa_gt (re_cb call_lenX oa_len rfl M.z_len bt_len (ro_cons (pv 0) ro_nil)) re_int (by first | exact nobehind _ (by decide) (by decide) | rfl))))) (rss_one (rs_rt re_bl)) rss_nil)
  (rss_one (rs_rt (re_cmp (op_eqD hr.units) oa_eq (re_fz (re_lc rfl sc__law_are_lots.nd (blkOk_by (own := [("lot", 1)]) (by kernel_rfl)) (by decide) (ri_any rfl (re_var (pv 0))) (fun _ _ _ _ _ => PGx fun _ => (rg_name sc__law_are_lots.nd rfl (by first | exact .inl rfl | exact .inr rfl))) (fun _ _ _ _ _ => PTx1 fun _ => (rt_not (rt_val (re_call (ok__law_lo_is M) (hr.mono (by decide)) rfl M.g__law_lo_is M.F__law_lo_is.kp M.b__law_lo_is tk0 (ra_cons (re_var (pv 1)) (ra_cons re_int ra_nil)))))) (fun _ _ _ _ _ => PEx fun _ => (re_var (pv 1))))) (re_fz (re_lst ra_nil)) (by first | exact nobehind _ (by decide) (by decide) | rfl)))))
theorem ok__law_right (M : Md K mg) : FnOk P w K mg base (L2.CX P w) 7 M.f__law_right M.fd__law_right ["dice"] (spR ⟨K, mg, []⟩ false 0 f__law_right) :=
  okR M.F__law_right sc__law_right rfl (by decide) fun cdv A outer s H E ra H0 F0 hr =>
  (rss_cons (rs_set sc__law_right.nd rfl (by first | exact .inl rfl | exact .inr rfl) (re_op op_addX oa_add re_int (re_callR (ok__law_roll M) (hr.mono (by decide)) rfl M.g__law_roll M.F__law_roll.kp M.b__law_roll (takes_of rfl rfl rfl rfl) (pv 0) (ra_cons re_int ra_nil))))
  (rss_cons (rs_asg (re_tup (ra_cons (re_callR (ok__law_lo_any M) (hr.mono (by decide)) rfl M.g__law_lo_any M.F__law_lo_any.kp M.b__law_lo_any (takes_of rfl rfl rfl rfl) (pv 0) (ra_cons (re_var (pv 1)) ra_nil)) (ra_cons (re_callR (ok__law_lo_any M) (hr.mono (by decide)) rfl M.g__law_lo_any M.F__law_lo_any.kp M.b__law_lo_any (takes_of rfl rfl rfl rfl) (pv 0) (ra_cons re_int ra_nil)) ra_nil))) (rg_tup rfl rfl (rgs_cons (rg_name sc__law_right.nd rfl (by first | exact .inl rfl | exact .inr rfl)) (rgs_cons (rg_name sc__law_right.nd rfl (by first | exact .inl rfl | exact .inr rfl)) rgs_nil))))
  (rss_cons (rs_if (PW.pt (rw_or (rt_cmp (op_neD hr.units) oa_ne (re_call (ok_lot_sum M) (hr.mono (by decide)) rfl M.g_lot_sum M.F_lot_sum.kp M.b_lot_sum (takes_of rfl rfl rfl rfl) (ra_cons (re_var (pv 2)) (ra_cons (re_var (pv 3)) ra_nil))) (re_call (ok__law_lo_sum M) (hr.mono (by decide)) rfl M.g__law_lo_sum M.F__law_lo_sum.kp M.b__law_lo_sum (takes_of rfl rfl rfl rfl) (ra_cons (re_var (pv 2)) (ra_cons (re_var (pv 3)) ra_nil))) (by first | exact nobehind _ (by decide) (by decide) | rfl)) (rw_or1 (rt_cmp (op_neD hr.units) oa_ne (re_call (ok_does_meet_oddly M) (hr.mono (by decide)) rfl M.g_does_meet_oddly M.F_does_meet_oddly.kp M.b_does_meet_oddly (takes_of rfl rfl rfl rfl) (ra_cons (re_var (pv 2)) (ra_cons (re_var (pv 3)) ra_nil))) (re_call (ok__law_lo_is_odd M) (hr.mono (by decide)) rfl M.g__law_lo_is_odd M.F__law_lo_is_odd.kp M.b__law_lo_is_odd (takes_of rfl rfl rfl rfl) (ra_cons (re_var (pv 2)) (ra_cons (re_var (pv 3)) ra_nil))) (by first | exact nobehind _ (by decide) (by decide) | rfl))))) (rss_one (rs_rt re_bl)) rss_nil)
  (rss_cons (rs_if (PW.pt (rw_or (rt_cmp (op_neD hr.units) oa_ne (re_call (ok_lot_sum M) (hr.mono (by decide)) rfl M.g_lot_sum M.F_lot_sum.kp M.b_lot_sum (takes_of rfl rfl rfl rfl) (ra_cons (re_var (pv 3)) (ra_cons (re_var (pv 2)) ra_nil))) (re_call (ok_lot_sum M) (hr.mono (by decide)) rfl M.g_lot_sum M.F_lot_sum.kp M.b_lot_sum (takes_of rfl rfl rfl rfl) (ra_cons (re_var (pv 2)) (ra_cons (re_var (pv 3)) ra_nil))) (by first | exact nobehind _ (by decide) (by decide) | rfl)) (rw_or (rt_cmp (op_neD hr.units) oa_ne (re_call (ok_lot_sum M) (hr.mono (by decide)) rfl M.g_lot_sum M.F_lot_sum.kp M.b_lot_sum (takes_of rfl rfl rfl rfl) (ra_cons (re_var (pv 2)) (ra_cons (re_var (pv 2)) ra_nil))) (re_tup ra_nil) (by first | exact nobehind _ (by decide) (by decide) | rfl)) (rw_or1 (rt_cmp (op_neD hr.units) oa_ne (re_call (ok_lot_sum M) (hr.mono (by decide)) rfl M.g_lot_sum M.F_lot_sum.kp M.b_lot_sum (takes_of rfl rfl rfl rfl) (ra_cons (re_var (pv 2)) (ra_cons (re_tup ra_nil) ra_nil))) (pv 2) (by first | exact nobehind _ (by decide) (by decide) | rfl)))))) (rss_one (rs_rt re_bl)) rss_nil)
  (rss_cons (rs_set sc__law_right.nd rfl (by first | exact .inl rfl | exact .inr rfl) (re_ct call_tuple_of oa_tuple rfl M.z_tuple bt_tuple (ro_cons (re_fz (re_lc rfl sc__law_right.nd (blkOk_by (own := [("turn", 9)]) (by kernel_rfl)) (by decide) (ri_range1 rfl M.z_range (re_callR (ok__law_roll M) (hr.mono (by decide)) rfl M.g__law_roll M.F__law_roll.kp M.b__law_roll (takes_of rfl rfl rfl rfl) (pv 0) (ra_cons re_int ra_nil))) (fun _ _ _ _ _ => PGx fun _ => (rg_name sc__law_right.nd rfl (by first | exact .inl rfl | exact .inr rfl))) (fun _ _ _ _ _ => PTx0) (fun _ _ _ _ _ => PEx fun _ => (re_callR (ok__law_lo_any M) (hr.mono (by decide)) rfl M.g__law_lo_any M.F__law_lo_any.kp M.b__law_lo_any tk0 (pv 0) (ra_cons (re_op op_addX oa_add re_int (re_callR (ok__law_roll M) (hr.mono (by decide)) rfl M.g__law_roll M.F__law_roll.kp M.b__law_roll tk0 (pv 0) (ra_cons re_int ra_nil))) ra_nil))))) ro_nil)))
  (rss_cons (rs_set sc__law_right.nd rfl (by first | exact .inl rfl | exact .inr rfl) (re_ct call_tuple_of oa_tuple rfl M.z_tuple bt_tuple (ro_cons (re_fz (re_cbF cr_sortedI of_sorted rfl M.z_sorted bt_sorted (ro_cons (re_sl rfl (re_callR (ok__law_mixed M) (hr.mono (by decide)) rfl M.g__law_mixed M.F__law_mixed.kp M.b__law_mixed (takes_of rfl rfl rfl rfl) (pv 0) (ra_cons (re_listRg rfl rfl M.z_list rfl M.z_range (re_cb call_lenX oa_len rfl M.z_len bt_len (ro_cons (pv 4) ro_nil))) ra_nil)) .none (.some (re_callR (ok__law_roll M) (hr.mono (by decide)) rfl M.g__law_roll M.F__law_roll.kp M.b__law_roll (takes_of rfl rfl rfl rfl) (pv 0) (ra_cons (re_op op_addX oa_add (re_cb call_lenX oa_len rfl M.z_len bt_len (ro_cons (pv 4) ro_nil)) re_int) ra_nil)))) ro_nil))) ro_nil)))
  (rss_cons (rs_set sc__law_right.nd rfl (by first | exact .inl rfl | exact .inr rfl) (re_call (ok_sum_of_pick M) (hr.mono (by decide)) rfl M.g_sum_of_pick M.F_sum_of_pick.kp M.b_sum_of_pick (takes_of rfl rfl rfl rfl) (ra_cons (re_var (pv 4)) (ra_cons (re_var (pv 5)) ra_nil))))
  (rss_cons (rs_if (rt_cmp (op_neD hr.units) oa_ne (pv 6) (re_call (ok__law_lo_total M) (hr.mono (by decide)) rfl M.g__law_lo_total M.F__law_lo_total.kp M.b__law_lo_total (takes_of rfl rfl rfl rfl) (ra_cons (re_fz (re_lc rfl sc__law_right.nd (blkOk_by (own := [("at", 10)]) (by kernel_rfl)) (by decide) (ri_any rfl (re_var (pv 5))) (fun _ _ _ _ _ => PGx fun _ => (rg_name sc__law_right.nd rfl (by first | exact .inl rfl | exact .inr rfl))) (fun _ _ _ _ _ => PTx0) (fun _ _ _ _ _ => PEx fun _ => (re_ixx rfl hr.units (pv 4) (pv 10) (fun _ _ => rfl) (fun _ _ => rfl))))) ra_nil)) (by first | exact nobehind _ (by decide) (by decide) | rfl)) (rss_one (rs_rt re_bl)) rss_nil)
  (rss_cons (rs_lcZ rfl sc__law_right.nd rfl rfl rfl (blkOk_by (own := [("at", 10)]) (by kernel_rfl)) (by decide) (ri_any rfl (re_var (pv 5))) (fun _ _ _ _ _ => PGx fun _ => (rg_name sc__law_right.nd rfl (by first | exact .inl rfl | exact .inr rfl))) (fun _ _ _ _ _ => PTx1 fun _ => (rt_val (re_call (ok_does_meet_oddly M) (hr.mono (by decide)) rfl M.g_does_meet_oddly M.F_does_meet_oddly.kp M.b_does_meet_oddly tk0 (ra_cons (re_ixx rfl hr.units (pv 4) (pv 10) (fun _ _ => rfl) (fun _ _ => rfl)) (ra_cons (re_var (pv 2)) ra_nil))))) (fun _ _ _ _ _ => PEx fun _ => (re_var (pv 10))))
  (rss_cons (rs_if (rt_cmp (op_neD hr.units) oa_ne (re_call (ok_does_meet_oddly M) (hr.mono (by decide)) rfl M.g_does_meet_oddly M.F_does_meet_oddly.kp M.b_does_meet_oddly (takes_of rfl rfl rfl rfl) (ra_cons (re_var (pv 6)) (ra_cons (re_var (pv 2)) ra_nil))) (re_cmp (op_eqD hr.units) oa_eq (re_op op_modN oa_mod (re_cb call_lenX oa_len rfl M.z_len bt_len (ro_cons (pv 7) ro_nil)) re_int) re_int (by first | exact nobehind _ (by decide) (by decide) | rfl)) (by first | exact nobehind _ (by decide) (by decide) | rfl)) (rss_one (rs_rt re_bl)) rss_nil)
  (rss_cons (rs_if (rt_cmp (op_neD hr.units) oa_ne (re_fz (re_lc rfl sc__law_right.nd (blkOk_by (own := [("value", 11)]) (by kernel_rfl)) (by decide) (ri_any rfl (re_callR (ok__law_near M) (hr.mono (by decide)) rfl M.g__law_near M.F__law_near.kp M.b__law_near (takes_of rfl rfl rfl rfl) (pv 0) (ra_cons (re_var (pv 1)) (ra_cons (re_var (pv 2)) ra_nil)))) (fun _ _ _ _ _ => PGx fun _ => (rg_name sc__law_right.nd rfl (by first | exact .inl rfl | exact .inr rfl))) (fun _ _ _ _ _ => PTx1 fun _ => (rt_cmp (op_neD hr.units) oa_ne (re_call (ok_is_lot_of M) (hr.mono (by decide)) rfl M.g_is_lot_of M.F_is_lot_of.kp M.b_is_lot_of tk0 (ra_cons (re_var (pv 1)) (ra_cons (re_var (pv 11)) ra_nil))) (re_call (ok__law_lo_is M) (hr.mono (by decide)) rfl M.g__law_lo_is M.F__law_lo_is.kp M.b__law_lo_is tk0 (ra_cons (re_var (pv 11)) (ra_cons (re_var (pv 1)) ra_nil))) (by first | exact nobehind _ (by decide) (by decide) | rfl))) (fun _ _ _ _ _ => PEx fun _ => (re_var (pv 11))))) (re_fz (re_lst ra_nil)) (by first | exact nobehind _ (by decide) (by decide) | rfl)) (rss_one (rs_rt re_bl)) rss_nil)
  (rss_cons (rs_set sc__law_right.nd rfl (by first | exact .inl rfl | exact .inr rfl) (re_fz (re_lst (ra_cons (re_var (pv 4)) (ra_cons (re_fz (re_ctF call_list_of of_list rfl M.z_list bt_list (ro_cons (pv 4) ro_nil))) (ra_cons (re_op op_addX oa_add (pv 4) (pv 4)) (ra_cons (re_op op_addX oa_add (pv 4) (re_tup (ra_cons re_non ra_nil))) (ra_cons (re_op op_mulXX oa_mul (re_tup (ra_cons (re_var (pv 2)) ra_nil)) re_int) (ra_cons (re_op op_mulXX oa_mul (re_tup (ra_cons (re_var (pv 2)) ra_nil)) re_int) (ra_cons (re_op op_addX oa_add (pv 4) (re_tup (ra_cons (re_tup (ra_cons re_int ra_nil)) ra_nil))) (ra_cons (re_op op_addX oa_add (pv 4) (re_tup (ra_cons (re_tup (ra_cons re_int (ra_cons re_int ra_nil))) ra_nil))) (ra_cons (re_tup ra_nil) (ra_cons re_non (ra_cons re_int (ra_cons re_str (ra_cons (re_fz re_dnew) ra_nil))))))))))))))))
  (rss_cons (rs_set sc__law_right.nd rfl (by first | exact .inl rfl | exact .inr rfl) (re_op op_addX oa_add (pv 8) (re_fz (re_lst (ra_cons (re_tup (ra_cons (re_fz (re_ctF call_list_of of_list rfl M.z_list bt_list (ro_cons (pv 2) ro_nil))) ra_nil)) (ra_cons (re_tup (ra_cons (re_tup (ra_cons re_bl ra_nil)) ra_nil)) (ra_cons (re_tup (ra_cons (re_tup (ra_cons (re_tup (ra_cons re_int ra_nil)) ra_nil)) ra_nil)) (ra_cons (re_var (pv 2)) ra_nil))))))))
  (rss_one (rs_rt (re_cmp (op_eqD hr.units) oa_eq (re_fz (re_lc rfl sc__law_right.nd (blkOk_by (own := [("value", 11)]) (by kernel_rfl)) (by decide) (ri_any rfl (re_var (pv 8))) (fun _ _ _ _ _ => PGx fun _ => (rg_name sc__law_right.nd rfl (by first | exact .inl rfl | exact .inr rfl))) (fun _ _ _ _ _ => PTx1 fun _ => (rt_cmp (op_neD hr.units) oa_ne (re_call (ok_are_lots M) (hr.mono (by decide)) rfl M.g_are_lots M.F_are_lots.kp M.b_are_lots tk0 (ra_cons (re_var (pv 11)) ra_nil)) (re_call (ok__law_are_lots M) (hr.mono (by decide)) rfl M.g__law_are_lots M.F__law_are_lots.kp M.b__law_are_lots tk0 (ra_cons (re_var (pv 11)) ra_nil)) (by first | exact nobehind _ (by decide) (by decide) | rfl))) (fun _ _ _ _ _ => PEx fun _ => (re_var (pv 11))))) (re_fz (re_lst ra_nil)) (by first | exact nobehind _ (by decide) (by decide) | rfl)))))))))))))))))
theorem ok_law (M : Md K mg) : FnOk P w K mg base (L2.CX P w) 8 M.f_law M.fd_law ["script"] (spD ⟨K, mg, []⟩ false 1 f_law) :=
  okD M.F_law sc_law (by decide) fun cdv A outer s H E H0 F0 hr =>
  (rss_cons (rs_for (passes_of rfl) rfl (ri_range1 rfl M.z_range (re_cb (call_max2 rfl) oa_max2 rfl M.z_max bt_max (ro_cons re_int (ro_cons (re_cb (call_min2 rfl) oa_min2 rfl M.z_min bt_min (ro_cons re_int (ro_cons (re_cb call_lenX oa_len rfl M.z_len bt_len (ro_cons (pv 0) ro_nil)) ro_nil))) ro_nil)))) (rg_name sc_law.nd rfl (by first | exact .inl rfl | exact .inr rfl)) (rss_cons (rs_setO sc_law.nd rfl (by first | exact .inl rfl | exact .inr rfl) (re_callF (ok__law_dice M) (hr.mono (by decide)) rfl M.g__law_dice M.F__law_dice.kp M.b__law_dice (takes_of rfl rfl rfl rfl) (ra_cons (re_var (pv 0)) (ra_cons (re_var (pv 1)) ra_nil))))
  (rss_one (rs_for (passes_of rfl) rfl (ri_range1 rfl M.z_range re_int) (rg_name sc_law.nd rfl (by first | exact .inl rfl | exact .inr rfl)) (rss_one (rs_if (rt_not (rt_val (re_callR (ok__law_right M) (hr.mono (by decide)) rfl M.g__law_right M.F__law_right.kp M.b__law_right (takes_of rfl rfl rfl rfl) (pv 2) ra_nil))) (rss_one (rs_rt re_bl)) rss_nil))))))
  (rss_cons (rs_set sc_law.nd rfl (by first | exact .inl rfl | exact .inr rfl) (re_fz (re_lst (ra_cons (re_call (ok_lot_sum M) (hr.mono (by decide)) rfl M.g_lot_sum M.F_lot_sum.kp M.b_lot_sum (takes_of rfl rfl rfl rfl) (ra_cons (re_tup (ra_cons re_int (ra_cons re_int (ra_cons re_int ra_nil)))) (ra_cons (re_tup (ra_cons re_int (ra_cons re_int (ra_cons re_int ra_nil)))) ra_nil))) (ra_cons (re_call (ok_lot_sum M) (hr.mono (by decide)) rfl M.g_lot_sum M.F_lot_sum.kp M.b_lot_sum (takes_of rfl rfl rfl rfl) (ra_cons (re_tup ra_nil) (ra_cons (re_tup ra_nil) ra_nil))) (ra_cons (re_call (ok_sum_of_pick M) (hr.mono (by decide)) rfl M.g_sum_of_pick M.F_sum_of_pick.kp M.b_sum_of_pick (takes_of rfl rfl rfl rfl) (ra_cons (re_tup (ra_cons (re_tup (ra_cons re_int ra_nil)) (ra_cons (re_tup (ra_cons re_int (ra_cons re_int ra_nil))) (ra_cons (re_tup (ra_cons re_int ra_nil)) ra_nil)))) (ra_cons (re_tup (ra_cons re_int (ra_cons re_int (ra_cons re_int ra_nil)))) ra_nil))) (ra_cons (re_call (ok_sum_of_pick M) (hr.mono (by decide)) rfl M.g_sum_of_pick M.F_sum_of_pick.kp M.b_sum_of_pick (takes_of rfl rfl rfl rfl) (ra_cons (re_tup ra_nil) (ra_cons (re_tup ra_nil) ra_nil))) ra_nil)))))))
  (rss_cons (rs_if (PW.pt (rw_or (rt_cmp (op_neD hr.units) oa_ne (pv 4) (re_fz (re_lst (ra_cons (re_tup (ra_cons re_int (ra_cons re_int (ra_cons re_int (ra_cons re_int ra_nil))))) (ra_cons (re_tup ra_nil) (ra_cons (re_tup ra_nil) (ra_cons (re_tup ra_nil) ra_nil)))))) (by first | exact nobehind _ (by decide) (by decide) | rfl)) (rw_or (rt_val (re_call (ok_does_meet_oddly M) (hr.mono (by decide)) rfl M.g_does_meet_oddly M.F_does_meet_oddly.kp M.b_does_meet_oddly (takes_of rfl rfl rfl rfl) (ra_cons (re_tup (ra_cons re_int (ra_cons re_int (ra_cons re_int ra_nil)))) (ra_cons (re_tup (ra_cons re_int (ra_cons re_int (ra_cons re_int ra_nil)))) ra_nil)))) (rw_or1 (rt_not (rt_val (re_call (ok_does_meet_oddly M) (hr.mono (by decide)) rfl M.g_does_meet_oddly M.F_does_meet_oddly.kp M.b_does_meet_oddly (takes_of rfl rfl rfl rfl) (ra_cons (re_tup (ra_cons re_int ra_nil)) (ra_cons (re_tup (ra_cons re_int (ra_cons re_int ra_nil))) ra_nil))))))))) (rss_one (rs_rt re_bl)) rss_nil)
  (rss_cons (rs_set sc_law.nd rfl (by first | exact .inl rfl | exact .inr rfl) (re_fz (re_lst (ra_cons (re_call (ok_is_lot_of M) (hr.mono (by decide)) rfl M.g_is_lot_of M.F_is_lot_of.kp M.b_is_lot_of (takes_of rfl rfl rfl rfl) (ra_cons re_int (ra_cons (re_tup (ra_cons re_int (ra_cons re_int ra_nil))) ra_nil))) (ra_cons (re_call (ok_is_lot_of M) (hr.mono (by decide)) rfl M.g_is_lot_of M.F_is_lot_of.kp M.b_is_lot_of (takes_of rfl rfl rfl rfl) (ra_cons re_int (ra_cons (re_tup (ra_cons re_int (ra_cons re_int ra_nil))) ra_nil))) (ra_cons (re_call (ok_is_lot_of M) (hr.mono (by decide)) rfl M.g_is_lot_of M.F_is_lot_of.kp M.b_is_lot_of (takes_of rfl rfl rfl rfl) (ra_cons re_int (ra_cons (re_tup (ra_cons re_int ra_nil)) ra_nil))) (ra_cons (re_call (ok_are_lots M) (hr.mono (by decide)) rfl M.g_are_lots M.F_are_lots.kp M.b_are_lots (takes_of rfl rfl rfl rfl) (ra_cons (re_tup (ra_cons (re_tup (ra_cons re_int ra_nil)) (ra_cons (re_tup (ra_cons re_int ra_nil)) ra_nil))) ra_nil)) (ra_cons (re_call (ok_are_lots M) (hr.mono (by decide)) rfl M.g_are_lots M.F_are_lots.kp M.b_are_lots (takes_of rfl rfl rfl rfl) (ra_cons (re_tup (ra_cons re_int (ra_cons re_int ra_nil))) ra_nil)) ra_nil))))))))
  (rss_one (rs_rt (re_and (re_cmp (op_eqD hr.units) oa_eq (pv 5) (re_fz (re_lst (ra_cons re_bl (ra_cons re_bl (ra_cons re_bl (ra_cons re_bl (ra_cons re_bl ra_nil))))))) (by first | exact nobehind _ (by decide) (by decide) | rfl)) (re_one (re_cmp (op_eqD hr.units) oa_eq (re_tup (ra_cons (re_gint rfl M.c_MOST_LINES) (ra_cons (re_gint rfl M.c_MOST_LOTS) ra_nil))) (re_tup (ra_cons re_int (ra_cons re_int ra_nil))) (by first | exact nobehind _ (by decide) (by decide) | rfl))))))))))
end
def md_of {K : PySem.W.Frag} {h : Heap} {mg : Str → Option Value} (X : K.In h) (G : h.Ns mainGlobals mg)
  {od0 an0 : Option Addr} {sl0 : Array (Option Value)} {oc0 kV0 dc0 pm0 cd0 ct0 : Value} {f0 : Addr}
  (a0 : PySem.W.nsIn K mainGlobals "_law_dice" = some (some (.ref f0))) (l0 : K.lookup f0 = some ⟨oc0, od0, .func (PySem.W.fnOf "_law_dice" "_law_dice" (defArgs st__law_dice) (defBody st__law_dice) (defScope st__law_dice) .none kV0 dc0 pm0 an0 cd0 ct0), sl0⟩) (c0 : PySem.W.codeIn K cd0 "_law_dice" = true) (k0 : PySem.W.keepIn K (.ref f0) = true)
  {od1 an1 : Option Addr} {sl1 : Array (Option Value)} {oc1 kV1 dc1 pm1 cd1 ct1 : Value} {f1 : Addr}
  (a1 : PySem.W.nsIn K mainGlobals "is_whole" = some (some (.ref f1))) (l1 : K.lookup f1 = some ⟨oc1, od1, .func (PySem.W.fnOf "is_whole" "is_whole" (defArgs st_is_whole) (defBody st_is_whole) (defScope st_is_whole) .none kV1 dc1 pm1 an1 cd1 ct1), sl1⟩) (c1 : PySem.W.codeIn K cd1 "is_whole" = true) (k1 : PySem.W.keepIn K (.ref f1) = true)
  {od2 an2 : Option Addr} {sl2 : Array (Option Value)} {oc2 kV2 dc2 pm2 cd2 ct2 : Value} {f2 : Addr}
  (a2 : PySem.W.nsIn K mainGlobals "is_below" = some (some (.ref f2))) (l2 : K.lookup f2 = some ⟨oc2, od2, .func (PySem.W.fnOf "is_below" "is_below" (defArgs st_is_below) (defBody st_is_below) (defScope st_is_below) .none kV2 dc2 pm2 an2 cd2 ct2), sl2⟩) (c2 : PySem.W.codeIn K cd2 "is_below" = true) (k2 : PySem.W.keepIn K (.ref f2) = true)
  {od3 an3 : Option Addr} {sl3 : Array (Option Value)} {oc3 kV3 dc3 pm3 cd3 ct3 : Value} {f3 : Addr}
  (a3 : PySem.W.nsIn K mainGlobals "is_rising" = some (some (.ref f3))) (l3 : K.lookup f3 = some ⟨oc3, od3, .func (PySem.W.fnOf "is_rising" "is_rising" (defArgs st_is_rising) (defBody st_is_rising) (defScope st_is_rising) .none kV3 dc3 pm3 an3 cd3 ct3), sl3⟩) (c3 : PySem.W.codeIn K cd3 "is_rising" = true) (k3 : PySem.W.keepIn K (.ref f3) = true)
  {od4 an4 : Option Addr} {sl4 : Array (Option Value)} {oc4 kV4 dc4 pm4 cd4 ct4 : Value} {f4 : Addr}
  (a4 : PySem.W.nsIn K mainGlobals "require_lot" = some (some (.ref f4))) (l4 : K.lookup f4 = some ⟨oc4, od4, .func (PySem.W.fnOf "require_lot" "require_lot" (defArgs st_require_lot) (defBody st_require_lot) (defScope st_require_lot) .none kV4 dc4 pm4 an4 cd4 ct4), sl4⟩) (c4 : PySem.W.codeIn K cd4 "require_lot" = true) (k4 : PySem.W.keepIn K (.ref f4) = true)
  {od5 an5 : Option Addr} {sl5 : Array (Option Value)} {oc5 kV5 dc5 pm5 cd5 ct5 : Value} {f5 : Addr}
  (a5 : PySem.W.nsIn K mainGlobals "require_two" = some (some (.ref f5))) (l5 : K.lookup f5 = some ⟨oc5, od5, .func (PySem.W.fnOf "require_two" "require_two" (defArgs st_require_two) (defBody st_require_two) (defScope st_require_two) .none kV5 dc5 pm5 an5 cd5 ct5), sl5⟩) (c5 : PySem.W.codeIn K cd5 "require_two" = true) (k5 : PySem.W.keepIn K (.ref f5) = true)
  {od6 an6 : Option Addr} {sl6 : Array (Option Value)} {oc6 kV6 dc6 pm6 cd6 ct6 : Value} {f6 : Addr}
  (a6 : PySem.W.nsIn K mainGlobals "lot_of" = some (some (.ref f6))) (l6 : K.lookup f6 = some ⟨oc6, od6, .func (PySem.W.fnOf "lot_of" "lot_of" (defArgs st_lot_of) (defBody st_lot_of) (defScope st_lot_of) .none kV6 dc6 pm6 an6 cd6 ct6), sl6⟩) (c6 : PySem.W.codeIn K cd6 "lot_of" = true) (k6 : PySem.W.keepIn K (.ref f6) = true)
  {od7 an7 : Option Addr} {sl7 : Array (Option Value)} {oc7 kV7 dc7 pm7 cd7 ct7 : Value} {f7 : Addr}
  (a7 : PySem.W.nsIn K mainGlobals "mask_of" = some (some (.ref f7))) (l7 : K.lookup f7 = some ⟨oc7, od7, .func (PySem.W.fnOf "mask_of" "mask_of" (defArgs st_mask_of) (defBody st_mask_of) (defScope st_mask_of) .none kV7 dc7 pm7 an7 cd7 ct7), sl7⟩) (c7 : PySem.W.codeIn K cd7 "mask_of" = true) (k7 : PySem.W.keepIn K (.ref f7) = true)
  {od8 an8 : Option Addr} {sl8 : Array (Option Value)} {oc8 kV8 dc8 pm8 cd8 ct8 : Value} {f8 : Addr}
  (a8 : PySem.W.nsIn K mainGlobals "lot_sum" = some (some (.ref f8))) (l8 : K.lookup f8 = some ⟨oc8, od8, .func (PySem.W.fnOf "lot_sum" "lot_sum" (defArgs st_lot_sum) (defBody st_lot_sum) (defScope st_lot_sum) .none kV8 dc8 pm8 an8 cd8 ct8), sl8⟩) (c8 : PySem.W.codeIn K cd8 "lot_sum" = true) (k8 : PySem.W.keepIn K (.ref f8) = true)
  {od9 an9 : Option Addr} {sl9 : Array (Option Value)} {oc9 kV9 dc9 pm9 cd9 ct9 : Value} {f9 : Addr}
  (a9 : PySem.W.nsIn K mainGlobals "are_lots_in" = some (some (.ref f9))) (l9 : K.lookup f9 = some ⟨oc9, od9, .func (PySem.W.fnOf "are_lots_in" "are_lots_in" (defArgs st_are_lots_in) (defBody st_are_lots_in) (defScope st_are_lots_in) .none kV9 dc9 pm9 an9 cd9 ct9), sl9⟩) (c9 : PySem.W.codeIn K cd9 "are_lots_in" = true) (k9 : PySem.W.keepIn K (.ref f9) = true)
  {od10 an10 : Option Addr} {sl10 : Array (Option Value)} {oc10 kV10 dc10 pm10 cd10 ct10 : Value} {f10 : Addr}
  (a10 : PySem.W.nsIn K mainGlobals "require_lots" = some (some (.ref f10))) (l10 : K.lookup f10 = some ⟨oc10, od10, .func (PySem.W.fnOf "require_lots" "require_lots" (defArgs st_require_lots) (defBody st_require_lots) (defScope st_require_lots) .none kV10 dc10 pm10 an10 cd10 ct10), sl10⟩) (c10 : PySem.W.codeIn K cd10 "require_lots" = true) (k10 : PySem.W.keepIn K (.ref f10) = true)
  {od11 an11 : Option Addr} {sl11 : Array (Option Value)} {oc11 kV11 dc11 pm11 cd11 ct11 : Value} {f11 : Addr}
  (a11 : PySem.W.nsIn K mainGlobals "sum_of_masks" = some (some (.ref f11))) (l11 : K.lookup f11 = some ⟨oc11, od11, .func (PySem.W.fnOf "sum_of_masks" "sum_of_masks" (defArgs st_sum_of_masks) (defBody st_sum_of_masks) (defScope st_sum_of_masks) .none kV11 dc11 pm11 an11 cd11 ct11), sl11⟩) (c11 : PySem.W.codeIn K cd11 "sum_of_masks" = true) (k11 : PySem.W.keepIn K (.ref f11) = true)
  {od12 an12 : Option Addr} {sl12 : Array (Option Value)} {oc12 kV12 dc12 pm12 cd12 ct12 : Value} {f12 : Addr}
  (a12 : PySem.W.nsIn K mainGlobals "masks_of" = some (some (.ref f12))) (l12 : K.lookup f12 = some ⟨oc12, od12, .func (PySem.W.fnOf "masks_of" "masks_of" (defArgs st_masks_of) (defBody st_masks_of) (defScope st_masks_of) .none kV12 dc12 pm12 an12 cd12 ct12), sl12⟩) (c12 : PySem.W.codeIn K cd12 "masks_of" = true) (k12 : PySem.W.keepIn K (.ref f12) = true)
  {od13 an13 : Option Addr} {sl13 : Array (Option Value)} {oc13 kV13 dc13 pm13 cd13 ct13 : Value} {f13 : Addr}
  (a13 : PySem.W.nsIn K mainGlobals "sum_of_pick" = some (some (.ref f13))) (l13 : K.lookup f13 = some ⟨oc13, od13, .func (PySem.W.fnOf "sum_of_pick" "sum_of_pick" (defArgs st_sum_of_pick) (defBody st_sum_of_pick) (defScope st_sum_of_pick) .none kV13 dc13 pm13 an13 cd13 ct13), sl13⟩) (c13 : PySem.W.codeIn K cd13 "sum_of_pick" = true) (k13 : PySem.W.keepIn K (.ref f13) = true)
  {od14 an14 : Option Addr} {sl14 : Array (Option Value)} {oc14 kV14 dc14 pm14 cd14 ct14 : Value} {f14 : Addr}
  (a14 : PySem.W.nsIn K mainGlobals "size_of" = some (some (.ref f14))) (l14 : K.lookup f14 = some ⟨oc14, od14, .func (PySem.W.fnOf "size_of" "size_of" (defArgs st_size_of) (defBody st_size_of) (defScope st_size_of) .none kV14 dc14 pm14 an14 cd14 ct14), sl14⟩) (c14 : PySem.W.codeIn K cd14 "size_of" = true) (k14 : PySem.W.keepIn K (.ref f14) = true)
  {od15 an15 : Option Addr} {sl15 : Array (Option Value)} {oc15 kV15 dc15 pm15 cd15 ct15 : Value} {f15 : Addr}
  (a15 : PySem.W.nsIn K mainGlobals "is_odd" = some (some (.ref f15))) (l15 : K.lookup f15 = some ⟨oc15, od15, .func (PySem.W.fnOf "is_odd" "is_odd" (defArgs st_is_odd) (defBody st_is_odd) (defScope st_is_odd) .none kV15 dc15 pm15 an15 cd15 ct15), sl15⟩) (c15 : PySem.W.codeIn K cd15 "is_odd" = true) (k15 : PySem.W.keepIn K (.ref f15) = true)
  {od16 an16 : Option Addr} {sl16 : Array (Option Value)} {oc16 kV16 dc16 pm16 cd16 ct16 : Value} {f16 : Addr}
  (a16 : PySem.W.nsIn K mainGlobals "does_meet_oddly" = some (some (.ref f16))) (l16 : K.lookup f16 = some ⟨oc16, od16, .func (PySem.W.fnOf "does_meet_oddly" "does_meet_oddly" (defArgs st_does_meet_oddly) (defBody st_does_meet_oddly) (defScope st_does_meet_oddly) .none kV16 dc16 pm16 an16 cd16 ct16), sl16⟩) (c16 : PySem.W.codeIn K cd16 "does_meet_oddly" = true) (k16 : PySem.W.keepIn K (.ref f16) = true)
  {od17 an17 : Option Addr} {sl17 : Array (Option Value)} {oc17 kV17 dc17 pm17 cd17 ct17 : Value} {f17 : Addr}
  (a17 : PySem.W.nsIn K mainGlobals "require_many" = some (some (.ref f17))) (l17 : K.lookup f17 = some ⟨oc17, od17, .func (PySem.W.fnOf "require_many" "require_many" (defArgs st_require_many) (defBody st_require_many) (defScope st_require_many) .none kV17 dc17 pm17 an17 cd17 ct17), sl17⟩) (c17 : PySem.W.codeIn K cd17 "require_many" = true) (k17 : PySem.W.keepIn K (.ref f17) = true)
  {od18 an18 : Option Addr} {sl18 : Array (Option Value)} {oc18 kV18 dc18 pm18 cd18 ct18 : Value} {f18 : Addr}
  (a18 : PySem.W.nsIn K mainGlobals "is_lot_of" = some (some (.ref f18))) (l18 : K.lookup f18 = some ⟨oc18, od18, .func (PySem.W.fnOf "is_lot_of" "is_lot_of" (defArgs st_is_lot_of) (defBody st_is_lot_of) (defScope st_is_lot_of) .none kV18 dc18 pm18 an18 cd18 ct18), sl18⟩) (c18 : PySem.W.codeIn K cd18 "is_lot_of" = true) (k18 : PySem.W.keepIn K (.ref f18) = true)
  {od19 an19 : Option Addr} {sl19 : Array (Option Value)} {oc19 kV19 dc19 pm19 cd19 ct19 : Value} {f19 : Addr}
  (a19 : PySem.W.nsIn K mainGlobals "are_lots" = some (some (.ref f19))) (l19 : K.lookup f19 = some ⟨oc19, od19, .func (PySem.W.fnOf "are_lots" "are_lots" (defArgs st_are_lots) (defBody st_are_lots) (defScope st_are_lots) .none kV19 dc19 pm19 an19 cd19 ct19), sl19⟩) (c19 : PySem.W.codeIn K cd19 "are_lots" = true) (k19 : PySem.W.keepIn K (.ref f19) = true)
  {od20 an20 : Option Addr} {sl20 : Array (Option Value)} {oc20 kV20 dc20 pm20 cd20 ct20 : Value} {f20 : Addr}
  (a20 : PySem.W.nsIn K mainGlobals "_law_roll" = some (some (.ref f20))) (l20 : K.lookup f20 = some ⟨oc20, od20, .func (PySem.W.fnOf "_law_roll" "_law_roll" (defArgs st__law_roll) (defBody st__law_roll) (defScope st__law_roll) .none kV20 dc20 pm20 an20 cd20 ct20), sl20⟩) (c20 : PySem.W.codeIn K cd20 "_law_roll" = true) (k20 : PySem.W.keepIn K (.ref f20) = true)
  {od21 an21 : Option Addr} {sl21 : Array (Option Value)} {oc21 kV21 dc21 pm21 cd21 ct21 : Value} {f21 : Addr}
  (a21 : PySem.W.nsIn K mainGlobals "_law_lo_any" = some (some (.ref f21))) (l21 : K.lookup f21 = some ⟨oc21, od21, .func (PySem.W.fnOf "_law_lo_any" "_law_lo_any" (defArgs st__law_lo_any) (defBody st__law_lo_any) (defScope st__law_lo_any) .none kV21 dc21 pm21 an21 cd21 ct21), sl21⟩) (c21 : PySem.W.codeIn K cd21 "_law_lo_any" = true) (k21 : PySem.W.keepIn K (.ref f21) = true)
  {od22 an22 : Option Addr} {sl22 : Array (Option Value)} {oc22 kV22 dc22 pm22 cd22 ct22 : Value} {f22 : Addr}
  (a22 : PySem.W.nsIn K mainGlobals "_law_lo_total" = some (some (.ref f22))) (l22 : K.lookup f22 = some ⟨oc22, od22, .func (PySem.W.fnOf "_law_lo_total" "_law_lo_total" (defArgs st__law_lo_total) (defBody st__law_lo_total) (defScope st__law_lo_total) .none kV22 dc22 pm22 an22 cd22 ct22), sl22⟩) (c22 : PySem.W.codeIn K cd22 "_law_lo_total" = true) (k22 : PySem.W.keepIn K (.ref f22) = true)
  {od23 an23 : Option Addr} {sl23 : Array (Option Value)} {oc23 kV23 dc23 pm23 cd23 ct23 : Value} {f23 : Addr}
  (a23 : PySem.W.nsIn K mainGlobals "_law_lo_sum" = some (some (.ref f23))) (l23 : K.lookup f23 = some ⟨oc23, od23, .func (PySem.W.fnOf "_law_lo_sum" "_law_lo_sum" (defArgs st__law_lo_sum) (defBody st__law_lo_sum) (defScope st__law_lo_sum) .none kV23 dc23 pm23 an23 cd23 ct23), sl23⟩) (c23 : PySem.W.codeIn K cd23 "_law_lo_sum" = true) (k23 : PySem.W.keepIn K (.ref f23) = true)
  {od24 an24 : Option Addr} {sl24 : Array (Option Value)} {oc24 kV24 dc24 pm24 cd24 ct24 : Value} {f24 : Addr}
  (a24 : PySem.W.nsIn K mainGlobals "_law_lo_is_odd" = some (some (.ref f24))) (l24 : K.lookup f24 = some ⟨oc24, od24, .func (PySem.W.fnOf "_law_lo_is_odd" "_law_lo_is_odd" (defArgs st__law_lo_is_odd) (defBody st__law_lo_is_odd) (defScope st__law_lo_is_odd) .none kV24 dc24 pm24 an24 cd24 ct24), sl24⟩) (c24 : PySem.W.codeIn K cd24 "_law_lo_is_odd" = true) (k24 : PySem.W.keepIn K (.ref f24) = true)
  {od25 an25 : Option Addr} {sl25 : Array (Option Value)} {oc25 kV25 dc25 pm25 cd25 ct25 : Value} {f25 : Addr}
  (a25 : PySem.W.nsIn K mainGlobals "_law_mixed" = some (some (.ref f25))) (l25 : K.lookup f25 = some ⟨oc25, od25, .func (PySem.W.fnOf "_law_mixed" "_law_mixed" (defArgs st__law_mixed) (defBody st__law_mixed) (defScope st__law_mixed) .none kV25 dc25 pm25 an25 cd25 ct25), sl25⟩) (c25 : PySem.W.codeIn K cd25 "_law_mixed" = true) (k25 : PySem.W.keepIn K (.ref f25) = true)
  {od26 an26 : Option Addr} {sl26 : Array (Option Value)} {oc26 kV26 dc26 pm26 cd26 ct26 : Value} {f26 : Addr}
  (a26 : PySem.W.nsIn K mainGlobals "_law_near" = some (some (.ref f26))) (l26 : K.lookup f26 = some ⟨oc26, od26, .func (PySem.W.fnOf "_law_near" "_law_near" (defArgs st__law_near) (defBody st__law_near) (defScope st__law_near) .none kV26 dc26 pm26 an26 cd26 ct26), sl26⟩) (c26 : PySem.W.codeIn K cd26 "_law_near" = true) (k26 : PySem.W.keepIn K (.ref f26) = true)
  {od27 an27 : Option Addr} {sl27 : Array (Option Value)} {oc27 kV27 dc27 pm27 cd27 ct27 : Value} {f27 : Addr}
  (a27 : PySem.W.nsIn K mainGlobals "_law_lo_is" = some (some (.ref f27))) (l27 : K.lookup f27 = some ⟨oc27, od27, .func (PySem.W.fnOf "_law_lo_is" "_law_lo_is" (defArgs st__law_lo_is) (defBody st__law_lo_is) (defScope st__law_lo_is) .none kV27 dc27 pm27 an27 cd27 ct27), sl27⟩) (c27 : PySem.W.codeIn K cd27 "_law_lo_is" = true) (k27 : PySem.W.keepIn K (.ref f27) = true)
  {od28 an28 : Option Addr} {sl28 : Array (Option Value)} {oc28 kV28 dc28 pm28 cd28 ct28 : Value} {f28 : Addr}
  (a28 : PySem.W.nsIn K mainGlobals "_law_are_lots" = some (some (.ref f28))) (l28 : K.lookup f28 = some ⟨oc28, od28, .func (PySem.W.fnOf "_law_are_lots" "_law_are_lots" (defArgs st__law_are_lots) (defBody st__law_are_lots) (defScope st__law_are_lots) .none kV28 dc28 pm28 an28 cd28 ct28), sl28⟩) (c28 : PySem.W.codeIn K cd28 "_law_are_lots" = true) (k28 : PySem.W.keepIn K (.ref f28) = true)
  {od29 an29 : Option Addr} {sl29 : Array (Option Value)} {oc29 kV29 dc29 pm29 cd29 ct29 : Value} {f29 : Addr}
  (a29 : PySem.W.nsIn K mainGlobals "_law_right" = some (some (.ref f29))) (l29 : K.lookup f29 = some ⟨oc29, od29, .func (PySem.W.fnOf "_law_right" "_law_right" (defArgs st__law_right) (defBody st__law_right) (defScope st__law_right) .none kV29 dc29 pm29 an29 cd29 ct29), sl29⟩) (c29 : PySem.W.codeIn K cd29 "_law_right" = true) (k29 : PySem.W.keepIn K (.ref f29) = true)
  {od30 an30 : Option Addr} {sl30 : Array (Option Value)} {oc30 kV30 dc30 pm30 cd30 ct30 : Value} {f30 : Addr}
  (a30 : PySem.W.nsIn K mainGlobals "law" = some (some (.ref f30))) (l30 : K.lookup f30 = some ⟨oc30, od30, .func (PySem.W.fnOf "law" "law" (defArgs st_law) (defBody st_law) (defScope st_law) .none kV30 dc30 pm30 an30 cd30 ct30), sl30⟩) (c30 : PySem.W.codeIn K cd30 "law" = true) (k30 : PySem.W.keepIn K (.ref f30) = true)
  (z0 : PySem.W.nsIn K mainGlobals "abs" = some none)
  (z1 : PySem.W.nsIn K mainGlobals "all" = some none)
  (z2 : PySem.W.nsIn K mainGlobals "bool" = some none)
  (z3 : PySem.W.nsIn K mainGlobals "int" = some none)
  (z4 : PySem.W.nsIn K mainGlobals "isinstance" = some none)
  (z5 : PySem.W.nsIn K mainGlobals "len" = some none)
  (z6 : PySem.W.nsIn K mainGlobals "list" = some none)
  (z7 : PySem.W.nsIn K mainGlobals "max" = some none)
  (z8 : PySem.W.nsIn K mainGlobals "min" = some none)
  (z9 : PySem.W.nsIn K mainGlobals "range" = some none)
  (z10 : PySem.W.nsIn K mainGlobals "set" = some none)
  (z11 : PySem.W.nsIn K mainGlobals "sorted" = some none)
  (z12 : PySem.W.nsIn K mainGlobals "sum" = some none)
  (z13 : PySem.W.nsIn K mainGlobals "tuple" = some none)
  (z14 : PySem.W.nsIn K mainGlobals "zip" = some none)
  {t0 : Tok} (v0 : PySem.W.nsIn K mainGlobals "MOST_LINES" = some (some (.int 24 t0)))
  {t1 : Tok} (v1 : PySem.W.nsIn K mainGlobals "MOST_LOTS" = some (some (.int 64 t1)))
  {t2 : Tok} (v2 : PySem.W.nsIn K mainGlobals "PAIR" = some (some (.int 2 t2))) : Md K mg where
  f__law_dice := f0
  fd__law_dice := _
  F__law_dice := fun_mk (st := st__law_dice) l0 c0 k0
  g__law_dice := PySem.W.mg_of X G a0
  b__law_dice := (fun_mk (st := st__law_dice) l0 c0 k0).binds (ps := ["script", "spot"]) fun _ _ _ _ _ _ us hl => match us, hl with | [_, _], _ => rfl
  f_is_whole := f1
  fd_is_whole := _
  F_is_whole := fun_mk (st := st_is_whole) l1 c1 k1
  g_is_whole := PySem.W.mg_of X G a1
  b_is_whole := (fun_mk (st := st_is_whole) l1 c1 k1).binds (ps := ["value"]) fun _ _ _ _ _ _ us hl => match us, hl with | [_], _ => rfl
  f_is_below := f2
  fd_is_below := _
  F_is_below := fun_mk (st := st_is_below) l2 c2 k2
  g_is_below := PySem.W.mg_of X G a2
  b_is_below := (fun_mk (st := st_is_below) l2 c2 k2).binds (ps := ["value", "many"]) fun _ _ _ _ _ _ us hl => match us, hl with | [_, _], _ => rfl
  f_is_rising := f3
  fd_is_rising := _
  F_is_rising := fun_mk (st := st_is_rising) l3 c3 k3
  g_is_rising := PySem.W.mg_of X G a3
  b_is_rising := (fun_mk (st := st_is_rising) l3 c3 k3).binds (ps := ["value", "many"]) fun _ _ _ _ _ _ us hl => match us, hl with | [_, _], _ => rfl
  f_require_lot := f4
  fd_require_lot := _
  F_require_lot := fun_mk (st := st_require_lot) l4 c4 k4
  g_require_lot := PySem.W.mg_of X G a4
  b_require_lot := (fun_mk (st := st_require_lot) l4 c4 k4).binds (ps := ["value"]) fun _ _ _ _ _ _ us hl => match us, hl with | [_], _ => rfl
  f_require_two := f5
  fd_require_two := _
  F_require_two := fun_mk (st := st_require_two) l5 c5 k5
  g_require_two := PySem.W.mg_of X G a5
  b_require_two := (fun_mk (st := st_require_two) l5 c5 k5).binds (ps := ["one", "other"]) fun _ _ _ _ _ _ us hl => match us, hl with | [_, _], _ => rfl
  f_lot_of := f6
  fd_lot_of := _
  F_lot_of := fun_mk (st := st_lot_of) l6 c6 k6
  g_lot_of := PySem.W.mg_of X G a6
  b_lot_of := (fun_mk (st := st_lot_of) l6 c6 k6).binds (ps := ["mask"]) fun _ _ _ _ _ _ us hl => match us, hl with | [_], _ => rfl
  f_mask_of := f7
  fd_mask_of := _
  F_mask_of := fun_mk (st := st_mask_of) l7 c7 k7
  g_mask_of := PySem.W.mg_of X G a7
  b_mask_of := (fun_mk (st := st_mask_of) l7 c7 k7).binds (ps := ["lot"]) fun _ _ _ _ _ _ us hl => match us, hl with | [_], _ => rfl
  f_lot_sum := f8
  fd_lot_sum := _
  F_lot_sum := fun_mk (st := st_lot_sum) l8 c8 k8
  g_lot_sum := PySem.W.mg_of X G a8
  b_lot_sum := (fun_mk (st := st_lot_sum) l8 c8 k8).binds (ps := ["one", "other"]) fun _ _ _ _ _ _ us hl => match us, hl with | [_, _], _ => rfl
  f_are_lots_in := f9
  fd_are_lots_in := _
  F_are_lots_in := fun_mk (st := st_are_lots_in) l9 c9 k9
  g_are_lots_in := PySem.W.mg_of X G a9
  b_are_lots_in := (fun_mk (st := st_are_lots_in) l9 c9 k9).binds (ps := ["value"]) fun _ _ _ _ _ _ us hl => match us, hl with | [_], _ => rfl
  f_require_lots := f10
  fd_require_lots := _
  F_require_lots := fun_mk (st := st_require_lots) l10 c10 k10
  g_require_lots := PySem.W.mg_of X G a10
  b_require_lots := (fun_mk (st := st_require_lots) l10 c10 k10).binds (ps := ["value"]) fun _ _ _ _ _ _ us hl => match us, hl with | [_], _ => rfl
  f_sum_of_masks := f11
  fd_sum_of_masks := _
  F_sum_of_masks := fun_mk (st := st_sum_of_masks) l11 c11 k11
  g_sum_of_masks := PySem.W.mg_of X G a11
  b_sum_of_masks := (fun_mk (st := st_sum_of_masks) l11 c11 k11).binds (ps := ["masks", "pick"]) fun _ _ _ _ _ _ us hl => match us, hl with | [_, _], _ => rfl
  f_masks_of := f12
  fd_masks_of := _
  F_masks_of := fun_mk (st := st_masks_of) l12 c12 k12
  g_masks_of := PySem.W.mg_of X G a12
  b_masks_of := (fun_mk (st := st_masks_of) l12 c12 k12).binds (ps := ["lots"]) fun _ _ _ _ _ _ us hl => match us, hl with | [_], _ => rfl
  f_sum_of_pick := f13
  fd_sum_of_pick := _
  F_sum_of_pick := fun_mk (st := st_sum_of_pick) l13 c13 k13
  g_sum_of_pick := PySem.W.mg_of X G a13
  b_sum_of_pick := (fun_mk (st := st_sum_of_pick) l13 c13 k13).binds (ps := ["lots", "pick"]) fun _ _ _ _ _ _ us hl => match us, hl with | [_, _], _ => rfl
  f_size_of := f14
  fd_size_of := _
  F_size_of := fun_mk (st := st_size_of) l14 c14 k14
  g_size_of := PySem.W.mg_of X G a14
  b_size_of := (fun_mk (st := st_size_of) l14 c14 k14).binds (ps := ["mask"]) fun _ _ _ _ _ _ us hl => match us, hl with | [_], _ => rfl
  f_is_odd := f15
  fd_is_odd := _
  F_is_odd := fun_mk (st := st_is_odd) l15 c15 k15
  g_is_odd := PySem.W.mg_of X G a15
  b_is_odd := (fun_mk (st := st_is_odd) l15 c15 k15).binds (ps := ["mask"]) fun _ _ _ _ _ _ us hl => match us, hl with | [_], _ => rfl
  f_does_meet_oddly := f16
  fd_does_meet_oddly := _
  F_does_meet_oddly := fun_mk (st := st_does_meet_oddly) l16 c16 k16
  g_does_meet_oddly := PySem.W.mg_of X G a16
  b_does_meet_oddly := (fun_mk (st := st_does_meet_oddly) l16 c16 k16).binds (ps := ["one", "other"]) fun _ _ _ _ _ _ us hl => match us, hl with | [_, _], _ => rfl
  f_require_many := f17
  fd_require_many := _
  F_require_many := fun_mk (st := st_require_many) l17 c17 k17
  g_require_many := PySem.W.mg_of X G a17
  b_require_many := (fun_mk (st := st_require_many) l17 c17 k17).binds (ps := ["value"]) fun _ _ _ _ _ _ us hl => match us, hl with | [_], _ => rfl
  f_is_lot_of := f18
  fd_is_lot_of := _
  F_is_lot_of := fun_mk (st := st_is_lot_of) l18 c18 k18
  g_is_lot_of := PySem.W.mg_of X G a18
  b_is_lot_of := (fun_mk (st := st_is_lot_of) l18 c18 k18).binds (ps := ["many", "value"]) fun _ _ _ _ _ _ us hl => match us, hl with | [_, _], _ => rfl
  f_are_lots := f19
  fd_are_lots := _
  F_are_lots := fun_mk (st := st_are_lots) l19 c19 k19
  g_are_lots := PySem.W.mg_of X G a19
  b_are_lots := (fun_mk (st := st_are_lots) l19 c19 k19).binds (ps := ["value"]) fun _ _ _ _ _ _ us hl => match us, hl with | [_], _ => rfl
  f__law_roll := f20
  fd__law_roll := _
  F__law_roll := fun_mk (st := st__law_roll) l20 c20 k20
  g__law_roll := PySem.W.mg_of X G a20
  b__law_roll := (fun_mk (st := st__law_roll) l20 c20 k20).binds (ps := ["dice", "most"]) fun _ _ _ _ _ _ us hl => match us, hl with | [_, _], _ => rfl
  f__law_lo_any := f21
  fd__law_lo_any := _
  F__law_lo_any := fun_mk (st := st__law_lo_any) l21 c21 k21
  g__law_lo_any := PySem.W.mg_of X G a21
  b__law_lo_any := (fun_mk (st := st__law_lo_any) l21 c21 k21).binds (ps := ["dice", "many"]) fun _ _ _ _ _ _ us hl => match us, hl with | [_, _], _ => rfl
  f__law_lo_total := f22
  fd__law_lo_total := _
  F__law_lo_total := fun_mk (st := st__law_lo_total) l22 c22 k22
  g__law_lo_total := PySem.W.mg_of X G a22
  b__law_lo_total := (fun_mk (st := st__law_lo_total) l22 c22 k22).binds (ps := ["lots"]) fun _ _ _ _ _ _ us hl => match us, hl with | [_], _ => rfl
  f__law_lo_sum := f23
  fd__law_lo_sum := _
  F__law_lo_sum := fun_mk (st := st__law_lo_sum) l23 c23 k23
  g__law_lo_sum := PySem.W.mg_of X G a23
  b__law_lo_sum := (fun_mk (st := st__law_lo_sum) l23 c23 k23).binds (ps := ["one", "other"]) fun _ _ _ _ _ _ us hl => match us, hl with | [_, _], _ => rfl
  f__law_lo_is_odd := f24
  fd__law_lo_is_odd := _
  F__law_lo_is_odd := fun_mk (st := st__law_lo_is_odd) l24 c24 k24
  g__law_lo_is_odd := PySem.W.mg_of X G a24
  b__law_lo_is_odd := (fun_mk (st := st__law_lo_is_odd) l24 c24 k24).binds (ps := ["one", "other"]) fun _ _ _ _ _ _ us hl => match us, hl with | [_, _], _ => rfl
  f__law_mixed := f25
  fd__law_mixed := _
  F__law_mixed := fun_mk (st := st__law_mixed) l25 c25 k25
  g__law_mixed := PySem.W.mg_of X G a25
  b__law_mixed := (fun_mk (st := st__law_mixed) l25 c25 k25).binds (ps := ["dice", "items"]) fun _ _ _ _ _ _ us hl => match us, hl with | [_, _], _ => rfl
  f__law_near := f26
  fd__law_near := _
  F__law_near := fun_mk (st := st__law_near) l26 c26 k26
  g__law_near := PySem.W.mg_of X G a26
  b__law_near := (fun_mk (st := st__law_near) l26 c26 k26).binds (ps := ["dice", "many", "lot"]) fun _ _ _ _ _ _ us hl => match us, hl with | [_, _, _], _ => rfl
  f__law_lo_is := f27
  fd__law_lo_is := _
  F__law_lo_is := fun_mk (st := st__law_lo_is) l27 c27 k27
  g__law_lo_is := PySem.W.mg_of X G a27
  b__law_lo_is := (fun_mk (st := st__law_lo_is) l27 c27 k27).binds (ps := ["value", "many"]) fun _ _ _ _ _ _ us hl => match us, hl with | [_, _], _ => rfl
  f__law_are_lots := f28
  fd__law_are_lots := _
  F__law_are_lots := fun_mk (st := st__law_are_lots) l28 c28 k28
  g__law_are_lots := PySem.W.mg_of X G a28
  b__law_are_lots := (fun_mk (st := st__law_are_lots) l28 c28 k28).binds (ps := ["value"]) fun _ _ _ _ _ _ us hl => match us, hl with | [_], _ => rfl
  f__law_right := f29
  fd__law_right := _
  F__law_right := fun_mk (st := st__law_right) l29 c29 k29
  g__law_right := PySem.W.mg_of X G a29
  b__law_right := (fun_mk (st := st__law_right) l29 c29 k29).binds (ps := ["dice"]) fun _ _ _ _ _ _ us hl => match us, hl with | [_], _ => rfl
  f_law := f30
  fd_law := _
  F_law := fun_mk (st := st_law) l30 c30 k30
  g_law := PySem.W.mg_of X G a30
  b_law := (fun_mk (st := st_law) l30 c30 k30).binds (ps := ["script"]) fun _ _ _ _ _ _ us hl => match us, hl with | [_], _ => rfl
  z_abs := PySem.W.mg_none_of X G z0
  z_all := PySem.W.mg_none_of X G z1
  z_bool := PySem.W.mg_none_of X G z2
  z_int := PySem.W.mg_none_of X G z3
  z_isinstance := PySem.W.mg_none_of X G z4
  z_len := PySem.W.mg_none_of X G z5
  z_list := PySem.W.mg_none_of X G z6
  z_max := PySem.W.mg_none_of X G z7
  z_min := PySem.W.mg_none_of X G z8
  z_range := PySem.W.mg_none_of X G z9
  z_set := PySem.W.mg_none_of X G z10
  z_sorted := PySem.W.mg_none_of X G z11
  z_sum := PySem.W.mg_none_of X G z12
  z_tuple := PySem.W.mg_none_of X G z13
  z_zip := PySem.W.mg_none_of X G z14
  c_MOST_LINES := ⟨_, PySem.W.mg_of X G v0⟩
  c_MOST_LOTS := ⟨_, PySem.W.mg_of X G v1⟩
  c_PAIR := ⟨_, PySem.W.mg_of X G v2⟩
theorem all_mk {l : PySem.W.OpenLaw} {w : World} {K : PySem.W.Frag} {h : Heap} {mg : Str → Option Value} {fa : Addr} (X : K.In h) (G : h.Ns mainGlobals mg) (hfa : mg "law" = some (.ref fa)) (hf : ∀ ns : List Int, ns.length ≤ 63 → f_law [.ro (ns.map D.int)] = .ok (.bl true))
  {od0 an0 : Option Addr} {sl0 : Array (Option Value)} {oc0 kV0 dc0 pm0 cd0 ct0 : Value} {f0 : Addr}
  (a0 : PySem.W.nsIn K mainGlobals "_law_dice" = some (some (.ref f0))) (l0 : K.lookup f0 = some ⟨oc0, od0, .func (PySem.W.fnOf "_law_dice" "_law_dice" (defArgs st__law_dice) (defBody st__law_dice) (defScope st__law_dice) .none kV0 dc0 pm0 an0 cd0 ct0), sl0⟩) (c0 : PySem.W.codeIn K cd0 "_law_dice" = true) (k0 : PySem.W.keepIn K (.ref f0) = true)
  {od1 an1 : Option Addr} {sl1 : Array (Option Value)} {oc1 kV1 dc1 pm1 cd1 ct1 : Value} {f1 : Addr}
  (a1 : PySem.W.nsIn K mainGlobals "is_whole" = some (some (.ref f1))) (l1 : K.lookup f1 = some ⟨oc1, od1, .func (PySem.W.fnOf "is_whole" "is_whole" (defArgs st_is_whole) (defBody st_is_whole) (defScope st_is_whole) .none kV1 dc1 pm1 an1 cd1 ct1), sl1⟩) (c1 : PySem.W.codeIn K cd1 "is_whole" = true) (k1 : PySem.W.keepIn K (.ref f1) = true)
  {od2 an2 : Option Addr} {sl2 : Array (Option Value)} {oc2 kV2 dc2 pm2 cd2 ct2 : Value} {f2 : Addr}
  (a2 : PySem.W.nsIn K mainGlobals "is_below" = some (some (.ref f2))) (l2 : K.lookup f2 = some ⟨oc2, od2, .func (PySem.W.fnOf "is_below" "is_below" (defArgs st_is_below) (defBody st_is_below) (defScope st_is_below) .none kV2 dc2 pm2 an2 cd2 ct2), sl2⟩) (c2 : PySem.W.codeIn K cd2 "is_below" = true) (k2 : PySem.W.keepIn K (.ref f2) = true)
  {od3 an3 : Option Addr} {sl3 : Array (Option Value)} {oc3 kV3 dc3 pm3 cd3 ct3 : Value} {f3 : Addr}
  (a3 : PySem.W.nsIn K mainGlobals "is_rising" = some (some (.ref f3))) (l3 : K.lookup f3 = some ⟨oc3, od3, .func (PySem.W.fnOf "is_rising" "is_rising" (defArgs st_is_rising) (defBody st_is_rising) (defScope st_is_rising) .none kV3 dc3 pm3 an3 cd3 ct3), sl3⟩) (c3 : PySem.W.codeIn K cd3 "is_rising" = true) (k3 : PySem.W.keepIn K (.ref f3) = true)
  {od4 an4 : Option Addr} {sl4 : Array (Option Value)} {oc4 kV4 dc4 pm4 cd4 ct4 : Value} {f4 : Addr}
  (a4 : PySem.W.nsIn K mainGlobals "require_lot" = some (some (.ref f4))) (l4 : K.lookup f4 = some ⟨oc4, od4, .func (PySem.W.fnOf "require_lot" "require_lot" (defArgs st_require_lot) (defBody st_require_lot) (defScope st_require_lot) .none kV4 dc4 pm4 an4 cd4 ct4), sl4⟩) (c4 : PySem.W.codeIn K cd4 "require_lot" = true) (k4 : PySem.W.keepIn K (.ref f4) = true)
  {od5 an5 : Option Addr} {sl5 : Array (Option Value)} {oc5 kV5 dc5 pm5 cd5 ct5 : Value} {f5 : Addr}
  (a5 : PySem.W.nsIn K mainGlobals "require_two" = some (some (.ref f5))) (l5 : K.lookup f5 = some ⟨oc5, od5, .func (PySem.W.fnOf "require_two" "require_two" (defArgs st_require_two) (defBody st_require_two) (defScope st_require_two) .none kV5 dc5 pm5 an5 cd5 ct5), sl5⟩) (c5 : PySem.W.codeIn K cd5 "require_two" = true) (k5 : PySem.W.keepIn K (.ref f5) = true)
  {od6 an6 : Option Addr} {sl6 : Array (Option Value)} {oc6 kV6 dc6 pm6 cd6 ct6 : Value} {f6 : Addr}
  (a6 : PySem.W.nsIn K mainGlobals "lot_of" = some (some (.ref f6))) (l6 : K.lookup f6 = some ⟨oc6, od6, .func (PySem.W.fnOf "lot_of" "lot_of" (defArgs st_lot_of) (defBody st_lot_of) (defScope st_lot_of) .none kV6 dc6 pm6 an6 cd6 ct6), sl6⟩) (c6 : PySem.W.codeIn K cd6 "lot_of" = true) (k6 : PySem.W.keepIn K (.ref f6) = true)
  {od7 an7 : Option Addr} {sl7 : Array (Option Value)} {oc7 kV7 dc7 pm7 cd7 ct7 : Value} {f7 : Addr}
  (a7 : PySem.W.nsIn K mainGlobals "mask_of" = some (some (.ref f7))) (l7 : K.lookup f7 = some ⟨oc7, od7, .func (PySem.W.fnOf "mask_of" "mask_of" (defArgs st_mask_of) (defBody st_mask_of) (defScope st_mask_of) .none kV7 dc7 pm7 an7 cd7 ct7), sl7⟩) (c7 : PySem.W.codeIn K cd7 "mask_of" = true) (k7 : PySem.W.keepIn K (.ref f7) = true)
  {od8 an8 : Option Addr} {sl8 : Array (Option Value)} {oc8 kV8 dc8 pm8 cd8 ct8 : Value} {f8 : Addr}
  (a8 : PySem.W.nsIn K mainGlobals "lot_sum" = some (some (.ref f8))) (l8 : K.lookup f8 = some ⟨oc8, od8, .func (PySem.W.fnOf "lot_sum" "lot_sum" (defArgs st_lot_sum) (defBody st_lot_sum) (defScope st_lot_sum) .none kV8 dc8 pm8 an8 cd8 ct8), sl8⟩) (c8 : PySem.W.codeIn K cd8 "lot_sum" = true) (k8 : PySem.W.keepIn K (.ref f8) = true)
  {od9 an9 : Option Addr} {sl9 : Array (Option Value)} {oc9 kV9 dc9 pm9 cd9 ct9 : Value} {f9 : Addr}
  (a9 : PySem.W.nsIn K mainGlobals "are_lots_in" = some (some (.ref f9))) (l9 : K.lookup f9 = some ⟨oc9, od9, .func (PySem.W.fnOf "are_lots_in" "are_lots_in" (defArgs st_are_lots_in) (defBody st_are_lots_in) (defScope st_are_lots_in) .none kV9 dc9 pm9 an9 cd9 ct9), sl9⟩) (c9 : PySem.W.codeIn K cd9 "are_lots_in" = true) (k9 : PySem.W.keepIn K (.ref f9) = true)
  {od10 an10 : Option Addr} {sl10 : Array (Option Value)} {oc10 kV10 dc10 pm10 cd10 ct10 : Value} {f10 : Addr}
  (a10 : PySem.W.nsIn K mainGlobals "require_lots" = some (some (.ref f10))) (l10 : K.lookup f10 = some ⟨oc10, od10, .func (PySem.W.fnOf "require_lots" "require_lots" (defArgs st_require_lots) (defBody st_require_lots) (defScope st_require_lots) .none kV10 dc10 pm10 an10 cd10 ct10), sl10⟩) (c10 : PySem.W.codeIn K cd10 "require_lots" = true) (k10 : PySem.W.keepIn K (.ref f10) = true)
  {od11 an11 : Option Addr} {sl11 : Array (Option Value)} {oc11 kV11 dc11 pm11 cd11 ct11 : Value} {f11 : Addr}
  (a11 : PySem.W.nsIn K mainGlobals "sum_of_masks" = some (some (.ref f11))) (l11 : K.lookup f11 = some ⟨oc11, od11, .func (PySem.W.fnOf "sum_of_masks" "sum_of_masks" (defArgs st_sum_of_masks) (defBody st_sum_of_masks) (defScope st_sum_of_masks) .none kV11 dc11 pm11 an11 cd11 ct11), sl11⟩) (c11 : PySem.W.codeIn K cd11 "sum_of_masks" = true) (k11 : PySem.W.keepIn K (.ref f11) = true)
  {od12 an12 : Option Addr} {sl12 : Array (Option Value)} {oc12 kV12 dc12 pm12 cd12 ct12 : Value} {f12 : Addr}
  (a12 : PySem.W.nsIn K mainGlobals "masks_of" = some (some (.ref f12))) (l12 : K.lookup f12 = some ⟨oc12, od12, .func (PySem.W.fnOf "masks_of" "masks_of" (defArgs st_masks_of) (defBody st_masks_of) (defScope st_masks_of) .none kV12 dc12 pm12 an12 cd12 ct12), sl12⟩) (c12 : PySem.W.codeIn K cd12 "masks_of" = true) (k12 : PySem.W.keepIn K (.ref f12) = true)
  {od13 an13 : Option Addr} {sl13 : Array (Option Value)} {oc13 kV13 dc13 pm13 cd13 ct13 : Value} {f13 : Addr}
  (a13 : PySem.W.nsIn K mainGlobals "sum_of_pick" = some (some (.ref f13))) (l13 : K.lookup f13 = some ⟨oc13, od13, .func (PySem.W.fnOf "sum_of_pick" "sum_of_pick" (defArgs st_sum_of_pick) (defBody st_sum_of_pick) (defScope st_sum_of_pick) .none kV13 dc13 pm13 an13 cd13 ct13), sl13⟩) (c13 : PySem.W.codeIn K cd13 "sum_of_pick" = true) (k13 : PySem.W.keepIn K (.ref f13) = true)
  {od14 an14 : Option Addr} {sl14 : Array (Option Value)} {oc14 kV14 dc14 pm14 cd14 ct14 : Value} {f14 : Addr}
  (a14 : PySem.W.nsIn K mainGlobals "size_of" = some (some (.ref f14))) (l14 : K.lookup f14 = some ⟨oc14, od14, .func (PySem.W.fnOf "size_of" "size_of" (defArgs st_size_of) (defBody st_size_of) (defScope st_size_of) .none kV14 dc14 pm14 an14 cd14 ct14), sl14⟩) (c14 : PySem.W.codeIn K cd14 "size_of" = true) (k14 : PySem.W.keepIn K (.ref f14) = true)
  {od15 an15 : Option Addr} {sl15 : Array (Option Value)} {oc15 kV15 dc15 pm15 cd15 ct15 : Value} {f15 : Addr}
  (a15 : PySem.W.nsIn K mainGlobals "is_odd" = some (some (.ref f15))) (l15 : K.lookup f15 = some ⟨oc15, od15, .func (PySem.W.fnOf "is_odd" "is_odd" (defArgs st_is_odd) (defBody st_is_odd) (defScope st_is_odd) .none kV15 dc15 pm15 an15 cd15 ct15), sl15⟩) (c15 : PySem.W.codeIn K cd15 "is_odd" = true) (k15 : PySem.W.keepIn K (.ref f15) = true)
  {od16 an16 : Option Addr} {sl16 : Array (Option Value)} {oc16 kV16 dc16 pm16 cd16 ct16 : Value} {f16 : Addr}
  (a16 : PySem.W.nsIn K mainGlobals "does_meet_oddly" = some (some (.ref f16))) (l16 : K.lookup f16 = some ⟨oc16, od16, .func (PySem.W.fnOf "does_meet_oddly" "does_meet_oddly" (defArgs st_does_meet_oddly) (defBody st_does_meet_oddly) (defScope st_does_meet_oddly) .none kV16 dc16 pm16 an16 cd16 ct16), sl16⟩) (c16 : PySem.W.codeIn K cd16 "does_meet_oddly" = true) (k16 : PySem.W.keepIn K (.ref f16) = true)
  {od17 an17 : Option Addr} {sl17 : Array (Option Value)} {oc17 kV17 dc17 pm17 cd17 ct17 : Value} {f17 : Addr}
  (a17 : PySem.W.nsIn K mainGlobals "require_many" = some (some (.ref f17))) (l17 : K.lookup f17 = some ⟨oc17, od17, .func (PySem.W.fnOf "require_many" "require_many" (defArgs st_require_many) (defBody st_require_many) (defScope st_require_many) .none kV17 dc17 pm17 an17 cd17 ct17), sl17⟩) (c17 : PySem.W.codeIn K cd17 "require_many" = true) (k17 : PySem.W.keepIn K (.ref f17) = true)
  {od18 an18 : Option Addr} {sl18 : Array (Option Value)} {oc18 kV18 dc18 pm18 cd18 ct18 : Value} {f18 : Addr}
  (a18 : PySem.W.nsIn K mainGlobals "is_lot_of" = some (some (.ref f18))) (l18 : K.lookup f18 = some ⟨oc18, od18, .func (PySem.W.fnOf "is_lot_of" "is_lot_of" (defArgs st_is_lot_of) (defBody st_is_lot_of) (defScope st_is_lot_of) .none kV18 dc18 pm18 an18 cd18 ct18), sl18⟩) (c18 : PySem.W.codeIn K cd18 "is_lot_of" = true) (k18 : PySem.W.keepIn K (.ref f18) = true)
  {od19 an19 : Option Addr} {sl19 : Array (Option Value)} {oc19 kV19 dc19 pm19 cd19 ct19 : Value} {f19 : Addr}
  (a19 : PySem.W.nsIn K mainGlobals "are_lots" = some (some (.ref f19))) (l19 : K.lookup f19 = some ⟨oc19, od19, .func (PySem.W.fnOf "are_lots" "are_lots" (defArgs st_are_lots) (defBody st_are_lots) (defScope st_are_lots) .none kV19 dc19 pm19 an19 cd19 ct19), sl19⟩) (c19 : PySem.W.codeIn K cd19 "are_lots" = true) (k19 : PySem.W.keepIn K (.ref f19) = true)
  {od20 an20 : Option Addr} {sl20 : Array (Option Value)} {oc20 kV20 dc20 pm20 cd20 ct20 : Value} {f20 : Addr}
  (a20 : PySem.W.nsIn K mainGlobals "_law_roll" = some (some (.ref f20))) (l20 : K.lookup f20 = some ⟨oc20, od20, .func (PySem.W.fnOf "_law_roll" "_law_roll" (defArgs st__law_roll) (defBody st__law_roll) (defScope st__law_roll) .none kV20 dc20 pm20 an20 cd20 ct20), sl20⟩) (c20 : PySem.W.codeIn K cd20 "_law_roll" = true) (k20 : PySem.W.keepIn K (.ref f20) = true)
  {od21 an21 : Option Addr} {sl21 : Array (Option Value)} {oc21 kV21 dc21 pm21 cd21 ct21 : Value} {f21 : Addr}
  (a21 : PySem.W.nsIn K mainGlobals "_law_lo_any" = some (some (.ref f21))) (l21 : K.lookup f21 = some ⟨oc21, od21, .func (PySem.W.fnOf "_law_lo_any" "_law_lo_any" (defArgs st__law_lo_any) (defBody st__law_lo_any) (defScope st__law_lo_any) .none kV21 dc21 pm21 an21 cd21 ct21), sl21⟩) (c21 : PySem.W.codeIn K cd21 "_law_lo_any" = true) (k21 : PySem.W.keepIn K (.ref f21) = true)
  {od22 an22 : Option Addr} {sl22 : Array (Option Value)} {oc22 kV22 dc22 pm22 cd22 ct22 : Value} {f22 : Addr}
  (a22 : PySem.W.nsIn K mainGlobals "_law_lo_total" = some (some (.ref f22))) (l22 : K.lookup f22 = some ⟨oc22, od22, .func (PySem.W.fnOf "_law_lo_total" "_law_lo_total" (defArgs st__law_lo_total) (defBody st__law_lo_total) (defScope st__law_lo_total) .none kV22 dc22 pm22 an22 cd22 ct22), sl22⟩) (c22 : PySem.W.codeIn K cd22 "_law_lo_total" = true) (k22 : PySem.W.keepIn K (.ref f22) = true)
  {od23 an23 : Option Addr} {sl23 : Array (Option Value)} {oc23 kV23 dc23 pm23 cd23 ct23 : Value} {f23 : Addr}
  (a23 : PySem.W.nsIn K mainGlobals "_law_lo_sum" = some (some (.ref f23))) (l23 : K.lookup f23 = some ⟨oc23, od23, .func (PySem.W.fnOf "_law_lo_sum" "_law_lo_sum" (defArgs st__law_lo_sum) (defBody st__law_lo_sum) (defScope st__law_lo_sum) .none kV23 dc23 pm23 an23 cd23 ct23), sl23⟩) (c23 : PySem.W.codeIn K cd23 "_law_lo_sum" = true) (k23 : PySem.W.keepIn K (.ref f23) = true)
  {od24 an24 : Option Addr} {sl24 : Array (Option Value)} {oc24 kV24 dc24 pm24 cd24 ct24 : Value} {f24 : Addr}
  (a24 : PySem.W.nsIn K mainGlobals "_law_lo_is_odd" = some (some (.ref f24))) (l24 : K.lookup f24 = some ⟨oc24, od24, .func (PySem.W.fnOf "_law_lo_is_odd" "_law_lo_is_odd" (defArgs st__law_lo_is_odd) (defBody st__law_lo_is_odd) (defScope st__law_lo_is_odd) .none kV24 dc24 pm24 an24 cd24 ct24), sl24⟩) (c24 : PySem.W.codeIn K cd24 "_law_lo_is_odd" = true) (k24 : PySem.W.keepIn K (.ref f24) = true)
  {od25 an25 : Option Addr} {sl25 : Array (Option Value)} {oc25 kV25 dc25 pm25 cd25 ct25 : Value} {f25 : Addr}
  (a25 : PySem.W.nsIn K mainGlobals "_law_mixed" = some (some (.ref f25))) (l25 : K.lookup f25 = some ⟨oc25, od25, .func (PySem.W.fnOf "_law_mixed" "_law_mixed" (defArgs st__law_mixed) (defBody st__law_mixed) (defScope st__law_mixed) .none kV25 dc25 pm25 an25 cd25 ct25), sl25⟩) (c25 : PySem.W.codeIn K cd25 "_law_mixed" = true) (k25 : PySem.W.keepIn K (.ref f25) = true)
  {od26 an26 : Option Addr} {sl26 : Array (Option Value)} {oc26 kV26 dc26 pm26 cd26 ct26 : Value} {f26 : Addr}
  (a26 : PySem.W.nsIn K mainGlobals "_law_near" = some (some (.ref f26))) (l26 : K.lookup f26 = some ⟨oc26, od26, .func (PySem.W.fnOf "_law_near" "_law_near" (defArgs st__law_near) (defBody st__law_near) (defScope st__law_near) .none kV26 dc26 pm26 an26 cd26 ct26), sl26⟩) (c26 : PySem.W.codeIn K cd26 "_law_near" = true) (k26 : PySem.W.keepIn K (.ref f26) = true)
  {od27 an27 : Option Addr} {sl27 : Array (Option Value)} {oc27 kV27 dc27 pm27 cd27 ct27 : Value} {f27 : Addr}
  (a27 : PySem.W.nsIn K mainGlobals "_law_lo_is" = some (some (.ref f27))) (l27 : K.lookup f27 = some ⟨oc27, od27, .func (PySem.W.fnOf "_law_lo_is" "_law_lo_is" (defArgs st__law_lo_is) (defBody st__law_lo_is) (defScope st__law_lo_is) .none kV27 dc27 pm27 an27 cd27 ct27), sl27⟩) (c27 : PySem.W.codeIn K cd27 "_law_lo_is" = true) (k27 : PySem.W.keepIn K (.ref f27) = true)
  {od28 an28 : Option Addr} {sl28 : Array (Option Value)} {oc28 kV28 dc28 pm28 cd28 ct28 : Value} {f28 : Addr}
  (a28 : PySem.W.nsIn K mainGlobals "_law_are_lots" = some (some (.ref f28))) (l28 : K.lookup f28 = some ⟨oc28, od28, .func (PySem.W.fnOf "_law_are_lots" "_law_are_lots" (defArgs st__law_are_lots) (defBody st__law_are_lots) (defScope st__law_are_lots) .none kV28 dc28 pm28 an28 cd28 ct28), sl28⟩) (c28 : PySem.W.codeIn K cd28 "_law_are_lots" = true) (k28 : PySem.W.keepIn K (.ref f28) = true)
  {od29 an29 : Option Addr} {sl29 : Array (Option Value)} {oc29 kV29 dc29 pm29 cd29 ct29 : Value} {f29 : Addr}
  (a29 : PySem.W.nsIn K mainGlobals "_law_right" = some (some (.ref f29))) (l29 : K.lookup f29 = some ⟨oc29, od29, .func (PySem.W.fnOf "_law_right" "_law_right" (defArgs st__law_right) (defBody st__law_right) (defScope st__law_right) .none kV29 dc29 pm29 an29 cd29 ct29), sl29⟩) (c29 : PySem.W.codeIn K cd29 "_law_right" = true) (k29 : PySem.W.keepIn K (.ref f29) = true)
  {od30 an30 : Option Addr} {sl30 : Array (Option Value)} {oc30 kV30 dc30 pm30 cd30 ct30 : Value} {f30 : Addr}
  (a30 : PySem.W.nsIn K mainGlobals "law" = some (some (.ref f30))) (l30 : K.lookup f30 = some ⟨oc30, od30, .func (PySem.W.fnOf "law" "law" (defArgs st_law) (defBody st_law) (defScope st_law) .none kV30 dc30 pm30 an30 cd30 ct30), sl30⟩) (c30 : PySem.W.codeIn K cd30 "law" = true) (k30 : PySem.W.keepIn K (.ref f30) = true)
  (z0 : PySem.W.nsIn K mainGlobals "abs" = some none)
  (z1 : PySem.W.nsIn K mainGlobals "all" = some none)
  (z2 : PySem.W.nsIn K mainGlobals "bool" = some none)
  (z3 : PySem.W.nsIn K mainGlobals "int" = some none)
  (z4 : PySem.W.nsIn K mainGlobals "isinstance" = some none)
  (z5 : PySem.W.nsIn K mainGlobals "len" = some none)
  (z6 : PySem.W.nsIn K mainGlobals "list" = some none)
  (z7 : PySem.W.nsIn K mainGlobals "max" = some none)
  (z8 : PySem.W.nsIn K mainGlobals "min" = some none)
  (z9 : PySem.W.nsIn K mainGlobals "range" = some none)
  (z10 : PySem.W.nsIn K mainGlobals "set" = some none)
  (z11 : PySem.W.nsIn K mainGlobals "sorted" = some none)
  (z12 : PySem.W.nsIn K mainGlobals "sum" = some none)
  (z13 : PySem.W.nsIn K mainGlobals "tuple" = some none)
  (z14 : PySem.W.nsIn K mainGlobals "zip" = some none)
  {t0 : Tok} (v0 : PySem.W.nsIn K mainGlobals "MOST_LINES" = some (some (.int 24 t0)))
  {t1 : Tok} (v1 : PySem.W.nsIn K mainGlobals "MOST_LOTS" = some (some (.int 64 t1)))
  {t2 : Tok} (v2 : PySem.W.nsIn K mainGlobals "PAIR" = some (some (.int 2 t2))) :
  ∃ fd : FuncData, (∀ (s : Shared) (v : Value), BindsTo s fd ⟨[v], []⟩ [("script", v)]) ∧ ∀ base : Heap, K.In base → base.Ns mainGlobals mg → FnOk l.prog w K mg base (L2.CX l.prog w) 8 fa fd ["script"] (spLaw K) := by
  have e := hfa.symm.trans (PySem.W.mg_of X G a30)
  cases e
  have M := md_of X G a0 l0 c0 k0 a1 l1 c1 k1 a2 l2 c2 k2 a3 l3 c3 k3 a4 l4 c4 k4 a5 l5 c5 k5 a6 l6 c6 k6 a7 l7 c7 k7 a8 l8 c8 k8 a9 l9 c9 k9 a10 l10 c10 k10 a11 l11 c11 k11 a12 l12 c12 k12 a13 l13 c13 k13 a14 l14 c14 k14 a15 l15 c15 k15 a16 l16 c16 k16 a17 l17 c17 k17 a18 l18 c18 k18 a19 l19 c19 k19 a20 l20 c20 k20 a21 l21 c21 k21 a22 l22 c22 k22 a23 l23 c23 k23 a24 l24 c24 k24 a25 l25 c25 k25 a26 l26 c26 k26 a27 l27 c27 k27 a28 l28 c28 k28 a29 l29 c29 k29 a30 l30 c30 k30 z0 z1 z2 z3 z4 z5 z6 z7 z8 z9 z10 z11 z12 z13 z14 v0 v1 v2
  exact ⟨_, fun s v => .of_eq rfl, fun base _ _ => (ok_law (md_of X G a0 l0 c0 k0 a1 l1 c1 k1 a2 l2 c2 k2 a3 l3 c3 k3 a4 l4 c4 k4 a5 l5 c5 k5 a6 l6 c6 k6 a7 l7 c7 k7 a8 l8 c8 k8 a9 l9 c9 k9 a10 l10 c10 k10 a11 l11 c11 k11 a12 l12 c12 k12 a13 l13 c13 k13 a14 l14 c14 k14 a15 l15 c15 k15 a16 l16 c16 k16 a17 l17 c17 k17 a18 l18 c18 k18 a19 l19 c19 k19 a20 l20 c20 k20 a21 l21 c21 k21 a22 l22 c22 k22 a23 l23 c23 k23 a24 l24 c24 k24 a25 l25 c25 k25 a26 l26 c26 k26 a27 l27 c27 k27 a28 l28 c28 k28 a29 l29 c29 k29 a30 l30 c30 k30 z0 z1 z2 z3 z4 z5 z6 z7 z8 z9 z10 z11 z12 z13 z14 v0 v1 v2)).imp (law_of hf)⟩
end K00

namespace K00
open PySem L2 PV BM
/-! ### lots -/
abbrev nD (l : List Nat) : List D := l.map fun (i : Nat) => D.int i
abbrev lotD (l : List Nat) : D := .tup (nD l)
theorem intsD_pow (l : List Nat) : intsD (l.map fun i => D.int (2 ^ i : Int)) = some (l.map fun i => (2 ^ i : Int)) := by
  have := intsD_map (l.map fun i => (2 ^ i : Int))
  rw [List.map_map] at this
  exact this
theorem mask_of_ok {l : List Nat} (hl : l.length ≤ 1000) (hb : ∀ i ∈ l, i < 1000) : f_mask_of [lotD l] = .ok (.int (mask l)) := by
  have h : lcL (.n 1) tYs (mOp oShl [.m (mK (.int 1)), .s 1]) [1] (l.map fun (i : Nat) => D.int i) [.fz (lotD l), .no] = .ok (l.map fun i => D.int (2 ^ i : Int)) [.fz (lotD l), .no] := by
    refine lcL_all _ _ fun i hi => ⟨_, [.fz (lotD l), .fz (.int i)], rfl, ?_, rfl⟩
    have h1 : cPow 1 (i : Int) = true := by
      have := hb i hi
      unfold cPow
      simp
      omega
    simp [runD, runF, runR, runRF, startE, rf0, sSeq, sNil, sPass, sEx, sRt, sRtN, sIf, sSet, sSetO, sPar, sAug, sSub, sAsg, sFz, sFor, mOp, evA, evP, fill, evS, mTup, mLst, mV, mK, mT, mNot, mAnd, mOr, mAndV, mOrV, mNotV, mIf, mChain, mCall, mCallL, mCallR, mIsi, mIt, iAny, mSl, evO, mGet, mOwn, PV.val, ownV, setV, free, bindT, bindTs, wipeE, backE, R.bind, R.bs, Rs.bind, Oe.ev, Oe.sl, tYs, isLst, List.map_cons, List.map_nil, List.length_cons, List.length_nil, List.replicate, List.cons_append, List.nil_append, List.append_nil, List.getElem?_cons_zero, List.getElem?_cons_succ, List.getElem?_nil, List.set_cons_zero, List.set_cons_succ, Option.some.injEq, if_true, if_false, Bool.false_eq_true, Nat.sub_self, Nat.reduceSub, Nat.reduceAdd, Nat.reduceLT, reduceCtorEq, ite_true, ite_false, Bool.not_true, Bool.not_false, Option.bind_some, Option.map_some, ne_eq, not_false_eq_true, and_self, and_true, true_and, Nat.succ_ne_self, List.contains_cons, List.contains_nil, String.reduceBEq, Bool.or_true, Bool.true_or, Bool.or_false, Bool.false_or, Bool.and_true, Bool.and_false, Bool.false_and, Bool.true_and, beq_self_eq_true, subN, tyN, Nat.reduceEqDiff, o2I, h1]
  have hl2 : l.length ≤ lim := Nat.le_trans hl (by decide)
  simp [f_mask_of, m_mask_of, mLc, runD, runF, runR, runRF, startE, rf0, sSeq, sNil, sPass, sEx, sRt, sRtN, sIf, sSet, sSetO, sPar, sAug, sSub, sAsg, sFz, sFor, mOp, evA, evP, fill, evS, mTup, mLst, mV, mK, mT, mNot, mAnd, mOr, mAndV, mOrV, mNotV, mIf, mChain, mCall, mCallL, mCallR, mIsi, mIt, iAny, mSl, evO, mGet, mOwn, PV.val, ownV, setV, free, bindT, bindTs, wipeE, backE, R.bind, R.bs, Rs.bind, Oe.ev, Oe.sl, tYs, isLst, List.map_cons, List.map_nil, List.length_cons, List.length_nil, List.replicate, List.cons_append, List.nil_append, List.append_nil, List.getElem?_cons_zero, List.getElem?_cons_succ, List.getElem?_nil, List.set_cons_zero, List.set_cons_succ, Option.some.injEq, if_true, if_false, Bool.false_eq_true, Nat.sub_self, Nat.reduceSub, Nat.reduceAdd, Nat.reduceLT, reduceCtorEq, ite_true, ite_false, Bool.not_true, Bool.not_false, Option.bind_some, Option.map_some, ne_eq, not_false_eq_true, and_self, and_true, true_and, Nat.succ_ne_self, List.contains_cons, List.contains_nil, String.reduceBEq, Bool.or_true, Bool.true_or, Bool.or_false, Bool.false_or, Bool.and_true, Bool.and_false, Bool.false_and, Bool.true_and, beq_self_eq_true, subN, tyN, Nat.reduceEqDiff, itD, seqD, h, hl2, oSum, lstD, intsD_pow, mask_sum]
theorem lot_of_ok {n : Nat} (h : n < 2 ^ 64) : f_lot_of [.int n] = .ok (lotD (bits n)) := by
  have lp : ∃ e', whileN fuel (mT (mOp oNe [.s 2, .m (mK (.int 0))])) (sSeq (sSet 3 (mOp oAnd [.s 2, .m (mOp oNeg [.s 2])])) (sSeq (sEx (mOwn 1 (mOp oSub [.m (mOp oBits [.s 3]), .m (mK (.int 1))]) kAppend)) (sAug 2 oXor (mV 3)))) [.fz (.int n), .ow (.lst []), .fz (.int n), .no] = .nx e' ∧
      ∃ x y, e' = [.fz (.int n), .ow (.lst (nD (bits n))), x, y] := by
    refine whileN_inv (fun k e => ∃ (m : Nat) (acc : List Nat) (x : Sl), e = [.fz (.int n), .ow (.lst (nD acc)), .fz (.int m), x] ∧ (x = .no ∨ ∃ d, x = .fz d) ∧ k = (bits m).length ∧ m < 2 ^ 64 ∧ bits n = acc ++ bits m ∧ acc.length ≤ 64) _ ?_ ?_ (bits n).length fuel _ ⟨n, [], .no, rfl, .inl rfl, rfl, h, rfl, Nat.zero_le _⟩ (Nat.lt_of_le_of_lt (bits_len n) (by decide))
    · rintro e ⟨m, acc, x, rfl, hx, hk, hm, hb, ha⟩
      have hm0 : m = 0 := bits_nil hm (List.eq_nil_of_length_eq_zero hk.symm)
      subst hm0
      rw [bits_zero, List.append_nil] at hb
      rw [hb]
      exact ⟨[.fz (.int n), .ow (.lst (nD acc)), .fz (.int (0 : Nat)), x], by simp [runD, runF, runR, runRF, startE, rf0, sSeq, sNil, sPass, sEx, sRt, sRtN, sIf, sSet, sSetO, sPar, sAug, sSub, sAsg, sFz, sFor, mOp, evA, evP, fill, evS, mTup, mLst, mV, mK, mT, mNot, mAnd, mOr, mAndV, mOrV, mNotV, mIf, mChain, mCall, mCallL, mCallR, mIsi, mIt, iAny, mSl, evO, mGet, mOwn, PV.val, ownV, setV, free, bindT, bindTs, wipeE, backE, R.bind, R.bs, Rs.bind, Oe.ev, Oe.sl, tYs, isLst, List.map_cons, List.map_nil, List.length_cons, List.length_nil, List.replicate, List.cons_append, List.nil_append, List.append_nil, List.getElem?_cons_zero, List.getElem?_cons_succ, List.getElem?_nil, List.set_cons_zero, List.set_cons_succ, Option.some.injEq, if_true, if_false, Bool.false_eq_true, Nat.sub_self, Nat.reduceSub, Nat.reduceAdd, Nat.reduceLT, reduceCtorEq, ite_true, ite_false, Bool.not_true, Bool.not_false, Option.bind_some, Option.map_some, ne_eq, not_false_eq_true, and_self, and_true, true_and, Nat.succ_ne_self, List.contains_cons, List.contains_nil, String.reduceBEq, Bool.or_true, Bool.true_or, Bool.or_false, Bool.false_or, Bool.and_true, Bool.and_false, Bool.false_and, Bool.true_and, beq_self_eq_true, subN, tyN, Nat.reduceEqDiff, oNe, eqD_int], _, _, rfl⟩
    · rintro k e ⟨m, acc, x, rfl, hx, hk, hm, hb, ha⟩
      have h0 : 0 < m := by
        rcases Nat.eq_zero_or_pos m with z | z
        · subst z
          rw [bits_zero] at hk
          cases hk
        · exact z
      obtain ⟨j, q, rfl⟩ := low_ex m h0
      have hlow := low_bit j q
      have hrest := low_rest j q
      have hbits := bits_low hm
      have hxor := bxor (2 ^ (j + 1) * q + 2 ^ j) (2 ^ j)
      rw [hrest] at hxor
      have hp := bits_pow j
      have hm2 : 2 ^ (j + 1) * q < 2 ^ 64 := Nat.lt_of_le_of_lt (Nat.le_add_right _ _) hm
      rw [hbits] at hk hb
      generalize hM : 2 ^ (j + 1) * q + 2 ^ j = M at *
      generalize hM2 : 2 ^ (j + 1) * q = M2 at *
      have ne : ¬ M = 0 := by omega
      have hal : acc.length < lim := Nat.lt_of_le_of_lt ha (by decide)
      refine ⟨[.fz (.int n), .ow (.lst (nD acc)), .fz (.int M), x], [.fz (.int n), .ow (.lst (nD (acc ++ [j]))), .fz (.int M2), .fz (.int ((2 ^ j : Nat) : Int))], by simp [runD, runF, runR, runRF, startE, rf0, sSeq, sNil, sPass, sEx, sRt, sRtN, sIf, sSet, sSetO, sPar, sAug, sSub, sAsg, sFz, sFor, mOp, evA, evP, fill, evS, mTup, mLst, mV, mK, mT, mNot, mAnd, mOr, mAndV, mOrV, mNotV, mIf, mChain, mCall, mCallL, mCallR, mIsi, mIt, iAny, mSl, evO, mGet, mOwn, PV.val, ownV, setV, free, bindT, bindTs, wipeE, backE, R.bind, R.bs, Rs.bind, Oe.ev, Oe.sl, tYs, isLst, List.map_cons, List.map_nil, List.length_cons, List.length_nil, List.replicate, List.cons_append, List.nil_append, List.append_nil, List.getElem?_cons_zero, List.getElem?_cons_succ, List.getElem?_nil, List.set_cons_zero, List.set_cons_succ, Option.some.injEq, if_true, if_false, Bool.false_eq_true, Nat.sub_self, Nat.reduceSub, Nat.reduceAdd, Nat.reduceLT, reduceCtorEq, ite_true, ite_false, Bool.not_true, Bool.not_false, Option.bind_some, Option.map_some, ne_eq, not_false_eq_true, and_self, and_true, true_and, Nat.succ_ne_self, List.contains_cons, List.contains_nil, String.reduceBEq, Bool.or_true, Bool.true_or, Bool.or_false, Bool.false_or, Bool.and_true, Bool.and_false, Bool.false_and, Bool.true_and, beq_self_eq_true, subN, tyN, Nat.reduceEqDiff, oNe, eqD_int, ne], .inl ?_, M2, acc ++ [j], _, rfl, .inr ⟨_, rfl⟩, ?_, hm2, ?_, ?_⟩
      · rcases hx with rfl | ⟨d, rfl⟩ <;> simp [runD, runF, runR, runRF, startE, rf0, sSeq, sNil, sPass, sEx, sRt, sRtN, sIf, sSet, sSetO, sPar, sAug, sSub, sAsg, sFz, sFor, mOp, evA, evP, fill, evS, mTup, mLst, mV, mK, mT, mNot, mAnd, mOr, mAndV, mOrV, mNotV, mIf, mChain, mCall, mCallL, mCallR, mIsi, mIt, iAny, mSl, evO, mGet, mOwn, PV.val, ownV, setV, free, bindT, bindTs, wipeE, backE, R.bind, R.bs, Rs.bind, Oe.ev, Oe.sl, tYs, isLst, List.map_cons, List.map_nil, List.length_cons, List.length_nil, List.replicate, List.cons_append, List.nil_append, List.append_nil, List.getElem?_cons_zero, List.getElem?_cons_succ, List.getElem?_nil, List.set_cons_zero, List.set_cons_succ, Option.some.injEq, if_true, if_false, Bool.false_eq_true, Nat.sub_self, Nat.reduceSub, Nat.reduceAdd, Nat.reduceLT, reduceCtorEq, ite_true, ite_false, Bool.not_true, Bool.not_false, Option.bind_some, Option.map_some, ne_eq, not_false_eq_true, and_self, and_true, true_and, Nat.succ_ne_self, List.contains_cons, List.contains_nil, String.reduceBEq, Bool.or_true, Bool.true_or, Bool.or_false, Bool.false_or, Bool.and_true, Bool.and_false, Bool.false_and, Bool.true_and, beq_self_eq_true, subN, tyN, Nat.reduceEqDiff, o2I, o1I, hlow, oBits, hp, kAppend, hal, hxor, -Int.natCast_pow]
      · have := hk
        simp at this
        exact this
      · rw [hb, List.append_assoc]
        rfl
      · have := bits_len n
        rw [hb] at this
        simp at this ⊢
        omega
  obtain ⟨e', h1, x, y, rfl⟩ := lp
  simp [f_lot_of, m_lot_of, sWhile, runD, runF, runR, runRF, startE, rf0, sSeq, sNil, sPass, sEx, sRt, sRtN, sIf, sSet, sSetO, sPar, sAug, sSub, sAsg, sFz, sFor, mOp, evA, evP, fill, evS, mTup, mLst, mV, mK, mT, mNot, mAnd, mOr, mAndV, mOrV, mNotV, mIf, mChain, mCall, mCallL, mCallR, mIsi, mIt, iAny, mSl, evO, mGet, mOwn, PV.val, ownV, setV, free, bindT, bindTs, wipeE, backE, R.bind, R.bs, Rs.bind, Oe.ev, Oe.sl, tYs, isLst, List.map_cons, List.map_nil, List.length_cons, List.length_nil, List.replicate, List.cons_append, List.nil_append, List.append_nil, List.getElem?_cons_zero, List.getElem?_cons_succ, List.getElem?_nil, List.set_cons_zero, List.set_cons_succ, Option.some.injEq, if_true, if_false, Bool.false_eq_true, Nat.sub_self, Nat.reduceSub, Nat.reduceAdd, Nat.reduceLT, reduceCtorEq, ite_true, ite_false, Bool.not_true, Bool.not_false, Option.bind_some, Option.map_some, ne_eq, not_false_eq_true, and_self, and_true, true_and, Nat.succ_ne_self, List.contains_cons, List.contains_nil, String.reduceBEq, Bool.or_true, Bool.true_or, Bool.or_false, Bool.false_or, Bool.and_true, Bool.and_false, Bool.false_and, Bool.true_and, beq_self_eq_true, subN, tyN, Nat.reduceEqDiff, h1, oTuple, seqD]
end K00
namespace K00
open PySem L2 PV BM
/-! ### is_rising, and the law's own test -/
def belowD (many : Int) : D → Bool
  | .int i => decide (0 ≤ i) && decide (i < many)
  | _ => false
theorem is_whole_ok {d : D} (h : tyN d ≠ none) : f_is_whole [d] = .ok (.bl (match d with | .int _ => true | _ => false)) := by
  cases d <;> first | (exact absurd rfl h) | simp [f_is_whole, m_is_whole, runD, runF, runR, runRF, startE, rf0, sSeq, sNil, sPass, sEx, sRt, sRtN, sIf, sSet, sSetO, sPar, sAug, sSub, sAsg, sFz, sFor, mOp, evA, evP, fill, evS, mTup, mLst, mV, mK, mT, mNot, mAnd, mOr, mAndV, mOrV, mNotV, mIf, mChain, mCall, mCallL, mCallR, mIsi, mIt, iAny, mSl, evO, mGet, mOwn, PV.val, ownV, setV, free, bindT, bindTs, wipeE, backE, R.bind, R.bs, Rs.bind, Oe.ev, Oe.sl, tYs, isLst, List.map_cons, List.map_nil, List.length_cons, List.length_nil, List.replicate, List.cons_append, List.nil_append, List.append_nil, List.getElem?_cons_zero, List.getElem?_cons_succ, List.getElem?_nil, List.set_cons_zero, List.set_cons_succ, Option.some.injEq, if_true, if_false, Bool.false_eq_true, Nat.sub_self, Nat.reduceSub, Nat.reduceAdd, Nat.reduceLT, reduceCtorEq, ite_true, ite_false, Bool.not_true, Bool.not_false, Option.bind_some, Option.map_some, ne_eq, not_false_eq_true, and_self, and_true, true_and, Nat.succ_ne_self, List.contains_cons, List.contains_nil, String.reduceBEq, Bool.or_true, Bool.true_or, Bool.or_false, Bool.false_or, Bool.and_true, Bool.and_false, Bool.false_and, Bool.true_and, beq_self_eq_true, subN, tyN, Nat.reduceEqDiff, tyN, subN]
theorem is_below_ok {d : D} {many : Int} (h : tyN d ≠ none) : f_is_below [d, .int many] = .ok (.bl (belowD many d)) := by
  have hw := is_whole_ok h
  cases d with
  | int i =>
    simp only at hw
    by_cases h0 : 0 ≤ i
    · simp [f_is_below, m_is_below, runD, runF, runR, runRF, startE, rf0, sSeq, sNil, sPass, sEx, sRt, sRtN, sIf, sSet, sSetO, sPar, sAug, sSub, sAsg, sFz, sFor, mOp, evA, evP, fill, evS, mTup, mLst, mV, mK, mT, mNot, mAnd, mOr, mAndV, mOrV, mNotV, mIf, mChain, mCall, mCallL, mCallR, mIsi, mIt, iAny, mSl, evO, mGet, mOwn, PV.val, ownV, setV, free, bindT, bindTs, wipeE, backE, R.bind, R.bs, Rs.bind, Oe.ev, Oe.sl, tYs, isLst, List.map_cons, List.map_nil, List.length_cons, List.length_nil, List.replicate, List.cons_append, List.nil_append, List.append_nil, List.getElem?_cons_zero, List.getElem?_cons_succ, List.getElem?_nil, List.set_cons_zero, List.set_cons_succ, Option.some.injEq, if_true, if_false, Bool.false_eq_true, Nat.sub_self, Nat.reduceSub, Nat.reduceAdd, Nat.reduceLT, reduceCtorEq, ite_true, ite_false, Bool.not_true, Bool.not_false, Option.bind_some, Option.map_some, ne_eq, not_false_eq_true, and_self, and_true, true_and, Nat.succ_ne_self, List.contains_cons, List.contains_nil, String.reduceBEq, Bool.or_true, Bool.true_or, Bool.or_false, Bool.false_or, Bool.and_true, Bool.and_false, Bool.false_and, Bool.true_and, beq_self_eq_true, subN, tyN, Nat.reduceEqDiff, hw, belowD, o2I, h0]
    · simp [f_is_below, m_is_below, runD, runF, runR, runRF, startE, rf0, sSeq, sNil, sPass, sEx, sRt, sRtN, sIf, sSet, sSetO, sPar, sAug, sSub, sAsg, sFz, sFor, mOp, evA, evP, fill, evS, mTup, mLst, mV, mK, mT, mNot, mAnd, mOr, mAndV, mOrV, mNotV, mIf, mChain, mCall, mCallL, mCallR, mIsi, mIt, iAny, mSl, evO, mGet, mOwn, PV.val, ownV, setV, free, bindT, bindTs, wipeE, backE, R.bind, R.bs, Rs.bind, Oe.ev, Oe.sl, tYs, isLst, List.map_cons, List.map_nil, List.length_cons, List.length_nil, List.replicate, List.cons_append, List.nil_append, List.append_nil, List.getElem?_cons_zero, List.getElem?_cons_succ, List.getElem?_nil, List.set_cons_zero, List.set_cons_succ, Option.some.injEq, if_true, if_false, Bool.false_eq_true, Nat.sub_self, Nat.reduceSub, Nat.reduceAdd, Nat.reduceLT, reduceCtorEq, ite_true, ite_false, Bool.not_true, Bool.not_false, Option.bind_some, Option.map_some, ne_eq, not_false_eq_true, and_self, and_true, true_and, Nat.succ_ne_self, List.contains_cons, List.contains_nil, String.reduceBEq, Bool.or_true, Bool.true_or, Bool.or_false, Bool.false_or, Bool.and_true, Bool.and_false, Bool.false_and, Bool.true_and, beq_self_eq_true, subN, tyN, Nat.reduceEqDiff, hw, belowD, o2I, h0]
  | _ => first | (exact absurd rfl h) | (simp only at hw; simp [f_is_below, m_is_below, runD, runF, runR, runRF, startE, rf0, sSeq, sNil, sPass, sEx, sRt, sRtN, sIf, sSet, sSetO, sPar, sAug, sSub, sAsg, sFz, sFor, mOp, evA, evP, fill, evS, mTup, mLst, mV, mK, mT, mNot, mAnd, mOr, mAndV, mOrV, mNotV, mIf, mChain, mCall, mCallL, mCallR, mIsi, mIt, iAny, mSl, evO, mGet, mOwn, PV.val, ownV, setV, free, bindT, bindTs, wipeE, backE, R.bind, R.bs, Rs.bind, Oe.ev, Oe.sl, tYs, isLst, List.map_cons, List.map_nil, List.length_cons, List.length_nil, List.replicate, List.cons_append, List.nil_append, List.append_nil, List.getElem?_cons_zero, List.getElem?_cons_succ, List.getElem?_nil, List.set_cons_zero, List.set_cons_succ, Option.some.injEq, if_true, if_false, Bool.false_eq_true, Nat.sub_self, Nat.reduceSub, Nat.reduceAdd, Nat.reduceLT, reduceCtorEq, ite_true, ite_false, Bool.not_true, Bool.not_false, Option.bind_some, Option.map_some, ne_eq, not_false_eq_true, and_self, and_true, true_and, Nat.succ_ne_self, List.contains_cons, List.contains_nil, String.reduceBEq, Bool.or_true, Bool.true_or, Bool.or_false, Bool.false_or, Bool.and_true, Bool.and_false, Bool.false_and, Bool.true_and, beq_self_eq_true, subN, tyN, Nat.reduceEqDiff, hw, belowD])
def asc (l : List Int) : Bool := (l.zip (l.drop 1)).all fun p => decide (p.1 < p.2)
def riseI (many : Int) (ns : List Int) : Bool := (ns.all fun i => decide (0 ≤ i) && decide (i < many)) && asc ns
/-- what both tests say -/
def rise (many : Int) : D → Bool
  | .tup xs => (match intsD xs with
    | some ns => riseI many ns
    | none => false)
  | _ => false
theorem intsD_some : ∀ {xs : List D} {ns : List Int}, intsD xs = some ns → xs = ns.map D.int
  | [], ns, h => by
    cases h
    rfl
  | .int i :: r, ns, h => by
    unfold intsD at h
    cases q : intsD r with
    | none =>
      rw [q] at h
      cases h
    | some ms =>
      rw [q] at h
      cases h
      rw [intsD_some q]
      rfl
  | .non :: r, ns, h => by cases h
  | .bl _ :: r, ns, h => by cases h
  | .str _ :: r, ns, h => by cases h
  | .tup _ :: r, ns, h => by cases h
  | .lst _ :: r, ns, h => by cases h
  | .dik _ :: r, ns, h => by cases h
  | .dit _ :: r, ns, h => by cases h
  | .ins _ _ :: r, ns, h => by cases h
  | .fn _ :: r, ns, h => by cases h
  | .ro _ :: r, ns, h => by cases h
theorem rise_none {xs : List D} (many : Int) (h : intsD xs = none) : rise many (.tup xs) = false := by
  show (match intsD xs with | some ns => riseI many ns | none => false) = false
  rw [h]
theorem rise_some (many : Int) (ns : List Int) : rise many (.tup (ns.map D.int)) = riseI many ns := by
  show (match intsD (ns.map D.int) with | some ns => riseI many ns | none => false) = _
  rw [intsD_map]
theorem all_ints : ∀ {xs : List D} {many : Int}, xs.all (belowD many) = true → ∃ ns, intsD xs = some ns ∧ (ns.all fun i => decide (0 ≤ i) && decide (i < many)) = true
  | [], many, _ => ⟨[], rfl, rfl⟩
  | d :: r, many, h => by
    rw [List.all_cons, Bool.and_eq_true] at h
    obtain ⟨ns, h1, h2⟩ := all_ints h.2
    cases d with
    | int i =>
      refine ⟨i :: ns, ?_, ?_⟩
      · unfold intsD
        rw [h1]
        rfl
      · rw [List.all_cons, h2, Bool.and_true]
        exact h.1
    | _ => cases h.1
theorem zip_ints : ∀ (a b : List Int), zipD (a.map D.int) (b.map D.int) = (a.zip b).map fun p => .tup [.int p.1, .int p.2]
  | [], _ => rfl
  | _ :: _, [] => rfl
  | x :: a, y :: b => by
    show D.tup [.int x, .int y] :: zipD (a.map D.int) (b.map D.int) = _
    rw [zip_ints a b]
    rfl
theorem cut1 (xs : List D) : cutD xs (some 1) none = xs.drop 1 := by
  unfold cutD
  rw [show HT.sIx xs.length 0 (some 1) = min 1 xs.length from HT.sIx_nat xs.length 0 1, HT.sIx_none]
  cases xs with
  | nil => rfl
  | cons x r =>
    rw [show min 1 (x :: r).length = 1 by
      rw [List.length_cons]
      omega]
    show (List.take ((x :: r).length - 1) r) = r
    rw [List.length_cons, Nat.add_sub_cancel]
    exact List.take_length
theorem is_rising_ok {v : D} {many : Int} (h : tyN v ≠ none) (hx : ∀ xs, v = .tup xs → (∀ x ∈ xs, tyN x ≠ none) ∧ xs.length ≤ 1000) : f_is_rising [v, .int many] = .ok (.bl (rise many v)) := by
  cases v with
  | tup xs =>
    obtain ⟨hx, hl⟩ := hx xs rfl
    have hl2 : xs.length ≤ lim := Nat.le_trans hl (by decide)
    have c1 : lcL (.n 2) tYs (mCall f_is_below [mV 2, mV 1]) [2] xs [.fz (.tup xs), .fz (.int many), .no, .no] = .ok (xs.map fun d => .bl (belowD many d)) [.fz (.tup xs), .fz (.int many), .no, .no] := by
      have := lcL_all (T := .n 2) (m := mCall f_is_below [mV 2, mV 1]) (vs := [2]) (e := [.fz (.tup xs), .fz (.int many), .no, .no]) (fun d => d) (fun d => .bl (belowD many d)) (ds := xs) fun d hd =>
        ⟨_, [.fz (.tup xs), .fz (.int many), .fz d, .no], rfl, by simp [runD, runF, runR, runRF, startE, rf0, sSeq, sNil, sPass, sEx, sRt, sRtN, sIf, sSet, sSetO, sPar, sAug, sSub, sAsg, sFz, sFor, mOp, evA, evP, fill, evS, mTup, mLst, mV, mK, mT, mNot, mAnd, mOr, mAndV, mOrV, mNotV, mIf, mChain, mCall, mCallL, mCallR, mIsi, mIt, iAny, mSl, evO, mGet, mOwn, PV.val, ownV, setV, free, bindT, bindTs, wipeE, backE, R.bind, R.bs, Rs.bind, Oe.ev, Oe.sl, tYs, isLst, List.map_cons, List.map_nil, List.length_cons, List.length_nil, List.replicate, List.cons_append, List.nil_append, List.append_nil, List.getElem?_cons_zero, List.getElem?_cons_succ, List.getElem?_nil, List.set_cons_zero, List.set_cons_succ, Option.some.injEq, if_true, if_false, Bool.false_eq_true, Nat.sub_self, Nat.reduceSub, Nat.reduceAdd, Nat.reduceLT, reduceCtorEq, ite_true, ite_false, Bool.not_true, Bool.not_false, Option.bind_some, Option.map_some, ne_eq, not_false_eq_true, and_self, and_true, true_and, Nat.succ_ne_self, List.contains_cons, List.contains_nil, String.reduceBEq, Bool.or_true, Bool.true_or, Bool.or_false, Bool.false_or, Bool.and_true, Bool.and_false, Bool.false_and, Bool.true_and, beq_self_eq_true, subN, tyN, Nat.reduceEqDiff, is_below_ok (hx d hd)], rfl⟩
      rw [List.map_id'] at this
      exact this
    have b1 : blsD (xs.map fun d => D.bl (belowD many d)) = some (xs.map (belowD many)) := by
      have := blsD_map (xs.map (belowD many))
      rw [List.map_map] at this
      exact this
    cases q : xs.all (belowD many) with
    | false =>
      have e : rise many (.tup xs) = false := by
        cases z : intsD xs with
        | none => exact rise_none many z
        | some ns =>
          have e := intsD_some z
          subst e
          rw [rise_some]
          unfold riseI
          have : (ns.all fun i => decide (0 ≤ i) && decide (i < many)) = false := by
            rw [← q, List.all_map]
            rfl
          rw [this]
          rfl
      have q' : (xs.map (belowD many)).all id = false := by
        rw [List.all_map]
        exact q
      have o1 : oAll [.lst (xs.map fun d => .bl (belowD many d))] = some (.bl false) := by
        simp only [oAll, lstD, Option.bind_some, b1, Option.map_some, q']
      simp [f_is_rising, m_is_rising, mLc, runD, runF, runR, runRF, startE, rf0, sSeq, sNil, sPass, sEx, sRt, sRtN, sIf, sSet, sSetO, sPar, sAug, sSub, sAsg, sFz, sFor, mOp, evA, evP, fill, evS, mTup, mLst, mV, mK, mT, mNot, mAnd, mOr, mAndV, mOrV, mNotV, mIf, mChain, mCall, mCallL, mCallR, mIsi, mIt, iAny, mSl, evO, mGet, mOwn, PV.val, ownV, setV, free, bindT, bindTs, wipeE, backE, R.bind, R.bs, Rs.bind, Oe.ev, Oe.sl, tYs, isLst, List.map_cons, List.map_nil, List.length_cons, List.length_nil, List.replicate, List.cons_append, List.nil_append, List.append_nil, List.getElem?_cons_zero, List.getElem?_cons_succ, List.getElem?_nil, List.set_cons_zero, List.set_cons_succ, Option.some.injEq, if_true, if_false, Bool.false_eq_true, Nat.sub_self, Nat.reduceSub, Nat.reduceAdd, Nat.reduceLT, reduceCtorEq, ite_true, ite_false, Bool.not_true, Bool.not_false, Option.bind_some, Option.map_some, ne_eq, not_false_eq_true, and_self, and_true, true_and, Nat.succ_ne_self, List.contains_cons, List.contains_nil, String.reduceBEq, Bool.or_true, Bool.true_or, Bool.or_false, Bool.false_or, Bool.and_true, Bool.and_false, Bool.false_and, Bool.true_and, beq_self_eq_true, subN, tyN, Nat.reduceEqDiff, tyN, subN, itD, seqD, c1, hl2, o1, e]
    | true =>
      obtain ⟨ns, z, hb⟩ := all_ints q
      have e := intsD_some z
      subst e
      have q' : ((ns.map D.int).map (belowD many)).all id = true := by
        rw [List.all_map]
        exact q
      have e : rise many (.tup (ns.map D.int)) = asc ns := by
        rw [rise_some]
        unfold riseI
        rw [hb]
        rfl
      have o1 : oAll [.lst ((ns.map D.int).map fun d => .bl (belowD many d))] = some (.bl true) := by
        simp only [oAll, lstD, Option.bind_some, b1, Option.map_some, q']
      have c2 : lcL (.t [.n 2, .n 3]) tYs (mOp oLt [.s 2, .s 3]) [2, 3] ((ns.zip (ns.drop 1)).map fun p => .tup [.int p.1, .int p.2]) [.fz (.tup (ns.map D.int)), .fz (.int many), .no, .no] = .ok ((ns.zip (ns.drop 1)).map fun p => .bl (decide (p.1 < p.2))) [.fz (.tup (ns.map D.int)), .fz (.int many), .no, .no] :=
        lcL_all _ _ fun p hp => ⟨[.fz (.tup (ns.map D.int)), .fz (.int many), .fz (.int p.1), .fz (.int p.2)], [.fz (.tup (ns.map D.int)), .fz (.int many), .fz (.int p.1), .fz (.int p.2)], by simp [runD, runF, runR, runRF, startE, rf0, sSeq, sNil, sPass, sEx, sRt, sRtN, sIf, sSet, sSetO, sPar, sAug, sSub, sAsg, sFz, sFor, mOp, evA, evP, fill, evS, mTup, mLst, mV, mK, mT, mNot, mAnd, mOr, mAndV, mOrV, mNotV, mIf, mChain, mCall, mCallL, mCallR, mIsi, mIt, iAny, mSl, evO, mGet, mOwn, PV.val, ownV, setV, free, bindT, bindTs, wipeE, backE, R.bind, R.bs, Rs.bind, Oe.ev, Oe.sl, tYs, isLst, List.map_cons, List.map_nil, List.length_cons, List.length_nil, List.replicate, List.cons_append, List.nil_append, List.append_nil, List.getElem?_cons_zero, List.getElem?_cons_succ, List.getElem?_nil, List.set_cons_zero, List.set_cons_succ, Option.some.injEq, if_true, if_false, Bool.false_eq_true, Nat.sub_self, Nat.reduceSub, Nat.reduceAdd, Nat.reduceLT, reduceCtorEq, ite_true, ite_false, Bool.not_true, Bool.not_false, Option.bind_some, Option.map_some, ne_eq, not_false_eq_true, and_self, and_true, true_and, Nat.succ_ne_self, List.contains_cons, List.contains_nil, String.reduceBEq, Bool.or_true, Bool.true_or, Bool.or_false, Bool.false_or, Bool.and_true, Bool.and_false, Bool.false_and, Bool.true_and, beq_self_eq_true, subN, tyN, Nat.reduceEqDiff], by simp [runD, runF, runR, runRF, startE, rf0, sSeq, sNil, sPass, sEx, sRt, sRtN, sIf, sSet, sSetO, sPar, sAug, sSub, sAsg, sFz, sFor, mOp, evA, evP, fill, evS, mTup, mLst, mV, mK, mT, mNot, mAnd, mOr, mAndV, mOrV, mNotV, mIf, mChain, mCall, mCallL, mCallR, mIsi, mIt, iAny, mSl, evO, mGet, mOwn, PV.val, ownV, setV, free, bindT, bindTs, wipeE, backE, R.bind, R.bs, Rs.bind, Oe.ev, Oe.sl, tYs, isLst, List.map_cons, List.map_nil, List.length_cons, List.length_nil, List.replicate, List.cons_append, List.nil_append, List.append_nil, List.getElem?_cons_zero, List.getElem?_cons_succ, List.getElem?_nil, List.set_cons_zero, List.set_cons_succ, Option.some.injEq, if_true, if_false, Bool.false_eq_true, Nat.sub_self, Nat.reduceSub, Nat.reduceAdd, Nat.reduceLT, reduceCtorEq, ite_true, ite_false, Bool.not_true, Bool.not_false, Option.bind_some, Option.map_some, ne_eq, not_false_eq_true, and_self, and_true, true_and, Nat.succ_ne_self, List.contains_cons, List.contains_nil, String.reduceBEq, Bool.or_true, Bool.true_or, Bool.or_false, Bool.false_or, Bool.and_true, Bool.and_false, Bool.false_and, Bool.true_and, beq_self_eq_true, subN, tyN, Nat.reduceEqDiff, o2I], rfl⟩
      have b2 : blsD ((ns.zip (ns.drop 1)).map fun p => D.bl (decide (p.1 < p.2))) = some ((ns.zip (ns.drop 1)).map fun p => decide (p.1 < p.2)) := by
        have := blsD_map ((ns.zip (ns.drop 1)).map fun p => decide (p.1 < p.2))
        rw [List.map_map] at this
        exact this
      have o2 : oAll [.lst ((ns.zip (ns.drop 1)).map fun p => D.bl (decide (p.1 < p.2)))] = some (.bl (asc ns)) := by
        simp only [oAll, lstD, Option.bind_some, b2, Option.map_some, List.all_map]
        rfl
      have z2 : iZip2 [.tup (ns.map D.int), .tup (cutD (ns.map D.int) (some 1) none)] = some ((ns.zip (ns.drop 1)).map fun p => .tup [.int p.1, .int p.2]) := by
        rw [cut1, ← List.map_drop]
        exact congrArg some (zip_ints _ _)
      have l2 : ((ns.zip (ns.drop 1)).map fun p => D.tup [.int p.1, .int p.2]).length ≤ lim := by
        rw [List.length_map, List.length_zip]
        rw [List.length_map] at hl2
        exact Nat.le_trans (Nat.min_le_left _ _) hl2
      have sl : oSl (some 1) none (.tup (ns.map D.int)) = some (.tup (cutD (ns.map D.int) (some 1) none)) := rfl
      simp only [f_is_rising, m_is_rising, mLc, runD, runF, runR, runRF, startE, rf0, sSeq, sNil, sPass, sEx, sRt, sRtN, sIf, sSet, sSetO, sPar, sAug, sSub, sAsg, sFz, sFor, mOp, evA, evP, fill, evS, mTup, mLst, mV, mK, mT, mNot, mAnd, mOr, mAndV, mOrV, mNotV, mIf, mChain, mCall, mCallL, mCallR, mIsi, mIt, iAny, mSl, evO, mGet, mOwn, PV.val, ownV, setV, free, bindT, bindTs, wipeE, backE, R.bind, R.bs, Rs.bind, Oe.ev, Oe.sl, tYs, isLst, List.map_cons, List.map_nil, List.length_cons, List.length_nil, List.replicate, List.cons_append, List.nil_append, List.append_nil, List.getElem?_cons_zero, List.getElem?_cons_succ, List.getElem?_nil, List.set_cons_zero, List.set_cons_succ, Option.some.injEq, if_true, if_false, Bool.false_eq_true, Nat.sub_self, Nat.reduceSub, Nat.reduceAdd, Nat.reduceLT, reduceCtorEq, ite_true, ite_false, Bool.not_true, Bool.not_false, Option.bind_some, Option.map_some, ne_eq, not_false_eq_true, and_self, and_true, true_and, Nat.succ_ne_self, List.contains_cons, List.contains_nil, String.reduceBEq, Bool.or_true, Bool.true_or, Bool.or_false, Bool.false_or, Bool.and_true, Bool.and_false, Bool.false_and, Bool.true_and, beq_self_eq_true, subN, tyN, Nat.reduceEqDiff, tyN, subN, itD, seqD, c1, hl2, o1, e, sl, z2, l2, c2, o2]
  | _ => first | (exact absurd rfl h) | simp [f_is_rising, m_is_rising, runD, runF, runR, runRF, startE, rf0, sSeq, sNil, sPass, sEx, sRt, sRtN, sIf, sSet, sSetO, sPar, sAug, sSub, sAsg, sFz, sFor, mOp, evA, evP, fill, evS, mTup, mLst, mV, mK, mT, mNot, mAnd, mOr, mAndV, mOrV, mNotV, mIf, mChain, mCall, mCallL, mCallR, mIsi, mIt, iAny, mSl, evO, mGet, mOwn, PV.val, ownV, setV, free, bindT, bindTs, wipeE, backE, R.bind, R.bs, Rs.bind, Oe.ev, Oe.sl, tYs, isLst, List.map_cons, List.map_nil, List.length_cons, List.length_nil, List.replicate, List.cons_append, List.nil_append, List.append_nil, List.getElem?_cons_zero, List.getElem?_cons_succ, List.getElem?_nil, List.set_cons_zero, List.set_cons_succ, Option.some.injEq, if_true, if_false, Bool.false_eq_true, Nat.sub_self, Nat.reduceSub, Nat.reduceAdd, Nat.reduceLT, reduceCtorEq, ite_true, ite_false, Bool.not_true, Bool.not_false, Option.bind_some, Option.map_some, ne_eq, not_false_eq_true, and_self, and_true, true_and, Nat.succ_ne_self, List.contains_cons, List.contains_nil, String.reduceBEq, Bool.or_true, Bool.true_or, Bool.or_false, Bool.false_or, Bool.and_true, Bool.and_false, Bool.false_and, Bool.true_and, beq_self_eq_true, subN, tyN, Nat.reduceEqDiff, tyN, subN, rise]
end K00
namespace K00
open PySem L2 PV BM
theorem asc_iff : ∀ l : List Int, asc l = true ↔ l.Pairwise (· < ·)
  | [] => ⟨fun _ => .nil, fun _ => rfl⟩
  | [x] => ⟨fun _ => by simp, fun _ => rfl⟩
  | x :: y :: r => by
    have ih := asc_iff (y :: r)
    have e : asc (x :: y :: r) = (decide (x < y) && asc (y :: r)) := rfl
    rw [e, Bool.and_eq_true, ih, decide_eq_true_iff, List.pairwise_cons (a := x)]
    constructor
    · rintro ⟨h1, h2⟩
      refine ⟨fun z hz => ?_, h2⟩
      rcases List.mem_cons.mp hz with rfl | hz
      · exact h1
      · rw [List.pairwise_cons] at h2
        exact Int.lt_trans h1 (h2.1 z hz)
    · rintro ⟨h1, h2⟩
      exact ⟨h1 y (List.mem_cons_self ..), h2⟩
def noInt : D → Bool
  | .int _ => false
  | _ => true
theorem noInt_none : ∀ {xs : List D}, xs.filter noInt ≠ [] → intsD xs = none
  | [], h => absurd rfl h
  | d :: r, h => by
    cases d with
    | int i =>
      have := noInt_none (xs := r) h
      show (intsD r).map (i :: ·) = none
      rw [this]
      rfl
    | _ => rfl
theorem noInt_some : ∀ {xs : List D}, xs.filter noInt = [] → ∃ ns, intsD xs = some ns
  | [], h => ⟨[], rfl⟩
  | d :: r, h => by
    cases d with
    | int i =>
      obtain ⟨ns, hn⟩ := noInt_some (xs := r) h
      refine ⟨i :: ns, ?_⟩
      show (intsD r).map (i :: ·) = _
      rw [hn]
      rfl
    | _ => cases h
theorem lo_is_ok {v : D} {many : Int} (h : tyN v ≠ none) (hx : ∀ xs, v = .tup xs → (∀ x ∈ xs, tyN x ≠ none) ∧ xs.length < 64) : f__law_lo_is [v, .int many] = .ok (.bl (rise many v)) := by
  cases v with
  | tup xs =>
    obtain ⟨hx, hl⟩ := hx xs rfl
    have hl2 : xs.length ≤ lim := Nat.le_trans (Nat.le_of_lt hl) (by decide)
    have c1 : lcL (.n 2) (mOr (mT (mIsi "bool" (mV 2))) (mNot (mT (mIsi "int" (mV 2))))) (mK (.int 1)) [2] xs [.fz (.tup xs), .fz (.int many), .no] = .ok ((((xs.filter noInt).map fun _ => (1 : Int))).map D.int) [.fz (.tup xs), .fz (.int many), .no] := by
      have := lcL_pure (T := .n 2) (t := mOr (mT (mIsi "bool" (mV 2))) (mNot (mT (mIsi "int" (mV 2))))) (m := mK (.int 1)) (vs := [2]) (e := [.fz (.tup xs), .fz (.int many), .no]) (fun d => d) noInt (fun _ => .int 1) (ds := xs) fun d hd => by
        refine ⟨[.fz (.tup xs), .fz (.int many), .fz d], [.fz (.tup xs), .fz (.int many), .fz d], rfl, ?_, fun _ => rfl, fun _ => ⟨_, rfl, rfl⟩⟩
        have := hx d hd
        cases d <;> first | (exact absurd rfl this) | simp only [runD, runF, runR, runRF, startE, rf0, sSeq, sNil, sPass, sEx, sRt, sRtN, sIf, sSet, sSetO, sPar, sAug, sSub, sAsg, sFz, sFor, mOp, evA, evP, fill, evS, mTup, mLst, mV, mK, mT, mNot, mAnd, mOr, mAndV, mOrV, mNotV, mIf, mChain, mCall, mCallL, mCallR, mIsi, mIt, iAny, mSl, evO, mGet, mOwn, PV.val, ownV, setV, free, bindT, bindTs, wipeE, backE, R.bind, R.bs, Rs.bind, Oe.ev, Oe.sl, tYs, isLst, List.map_cons, List.map_nil, List.length_cons, List.length_nil, List.replicate, List.cons_append, List.nil_append, List.append_nil, List.getElem?_cons_zero, List.getElem?_cons_succ, List.getElem?_nil, List.set_cons_zero, List.set_cons_succ, Option.some.injEq, if_true, if_false, Bool.false_eq_true, Nat.sub_self, Nat.reduceSub, Nat.reduceAdd, Nat.reduceLT, reduceCtorEq, ite_true, ite_false, Bool.not_true, Bool.not_false, Option.bind_some, Option.map_some, ne_eq, not_false_eq_true, and_self, and_true, true_and, Nat.succ_ne_self, List.contains_cons, List.contains_nil, String.reduceBEq, Bool.or_true, Bool.true_or, Bool.or_false, Bool.false_or, Bool.and_true, Bool.and_false, Bool.false_and, Bool.true_and, beq_self_eq_true, subN, tyN, Nat.reduceEqDiff, noInt]
      rw [List.map_id'] at this
      rw [this, List.map_map]
      rfl
    by_cases q : xs.filter noInt = []
    · obtain ⟨ns, z⟩ := noInt_some q
      have e := intsD_some z
      subst e
      rw [List.length_map] at hl
      rw [q, List.map_nil, List.map_nil] at c1
      have o1 : oNe [.lst [], .lst []] = some (.bl false) := by
        simp only [oNe, eqD_l00, Option.map_some, Bool.not_true]
      have o2 : oSrtSet [.tup (ns.map D.int)] = some (.lst ((srtU ns).map D.int)) := by
        simp only [oSrtSet, intsD_map, Option.bind_some, hl, if_true]
      have o3 : oEq [.lst (ns.map D.int), .lst ((srtU ns).map D.int)] = some (.bl (decide (ns = srtU ns))) := by
        simp only [oEq, eqD_li, Option.map_some]
      have c2 : lcL (.n 2) (mNot (mT (mChain oLe oLt (mK (.int 0)) (mV 2) (mV 1)))) (mV 2) [2] (ns.map D.int) [.fz (.tup (ns.map D.int)), .fz (.int many), .no] = .ok ((ns.filter fun i => !(decide (0 ≤ i) && decide (i < many))).map D.int) [.fz (.tup (ns.map D.int)), .fz (.int many), .no] :=
        lcL_pure D.int _ D.int fun i hi => by
          refine ⟨[.fz (.tup (ns.map D.int)), .fz (.int many), .fz (.int i)], [.fz (.tup (ns.map D.int)), .fz (.int many), .fz (.int i)], rfl, ?_, fun _ => rfl, fun _ => ⟨[.fz (.tup (ns.map D.int)), .fz (.int many), .fz (.int i)], rfl, rfl⟩⟩
          by_cases h0 : 0 ≤ i
          · simp only [runD, runF, runR, runRF, startE, rf0, sSeq, sNil, sPass, sEx, sRt, sRtN, sIf, sSet, sSetO, sPar, sAug, sSub, sAsg, sFz, sFor, mOp, evA, evP, fill, evS, mTup, mLst, mV, mK, mT, mNot, mAnd, mOr, mAndV, mOrV, mNotV, mIf, mChain, mCall, mCallL, mCallR, mIsi, mIt, iAny, mSl, evO, mGet, mOwn, PV.val, ownV, setV, free, bindT, bindTs, wipeE, backE, R.bind, R.bs, Rs.bind, Oe.ev, Oe.sl, tYs, isLst, List.map_cons, List.map_nil, List.length_cons, List.length_nil, List.replicate, List.cons_append, List.nil_append, List.append_nil, List.getElem?_cons_zero, List.getElem?_cons_succ, List.getElem?_nil, List.set_cons_zero, List.set_cons_succ, Option.some.injEq, if_true, if_false, Bool.false_eq_true, Nat.sub_self, Nat.reduceSub, Nat.reduceAdd, Nat.reduceLT, reduceCtorEq, ite_true, ite_false, Bool.not_true, Bool.not_false, Option.bind_some, Option.map_some, ne_eq, not_false_eq_true, and_self, and_true, true_and, Nat.succ_ne_self, List.contains_cons, List.contains_nil, String.reduceBEq, Bool.or_true, Bool.true_or, Bool.or_false, Bool.false_or, Bool.and_true, Bool.and_false, Bool.false_and, Bool.true_and, beq_self_eq_true, subN, tyN, Nat.reduceEqDiff, o2I, h0, decide_true]
          · simp only [runD, runF, runR, runRF, startE, rf0, sSeq, sNil, sPass, sEx, sRt, sRtN, sIf, sSet, sSetO, sPar, sAug, sSub, sAsg, sFz, sFor, mOp, evA, evP, fill, evS, mTup, mLst, mV, mK, mT, mNot, mAnd, mOr, mAndV, mOrV, mNotV, mIf, mChain, mCall, mCallL, mCallR, mIsi, mIt, iAny, mSl, evO, mGet, mOwn, PV.val, ownV, setV, free, bindT, bindTs, wipeE, backE, R.bind, R.bs, Rs.bind, Oe.ev, Oe.sl, tYs, isLst, List.map_cons, List.map_nil, List.length_cons, List.length_nil, List.replicate, List.cons_append, List.nil_append, List.append_nil, List.getElem?_cons_zero, List.getElem?_cons_succ, List.getElem?_nil, List.set_cons_zero, List.set_cons_succ, Option.some.injEq, if_true, if_false, Bool.false_eq_true, Nat.sub_self, Nat.reduceSub, Nat.reduceAdd, Nat.reduceLT, reduceCtorEq, ite_true, ite_false, Bool.not_true, Bool.not_false, Option.bind_some, Option.map_some, ne_eq, not_false_eq_true, and_self, and_true, true_and, Nat.succ_ne_self, List.contains_cons, List.contains_nil, String.reduceBEq, Bool.or_true, Bool.true_or, Bool.or_false, Bool.false_or, Bool.and_true, Bool.and_false, Bool.false_and, Bool.true_and, beq_self_eq_true, subN, tyN, Nat.reduceEqDiff, o2I, h0, decide_false]
      have o4 : oEq [.lst ((ns.filter fun i => !(decide (0 ≤ i) && decide (i < many))).map D.int), .lst []] = some (.bl (decide ((ns.filter fun i => !(decide (0 ≤ i) && decide (i < many))) = []))) := by
        simp only [oEq, eqD_li0, Option.map_some]
      have o5 : oList [.tup (ns.map D.int)] = some (.lst (ns.map D.int)) := rfl
      have fin : rise many (.tup (ns.map D.int)) = (decide (ns = srtU ns) && decide ((ns.filter fun i => !(decide (0 ≤ i) && decide (i < many))) = [])) := by
        rw [rise_some]
        unfold riseI
        have e1 : asc ns = decide (ns = srtU ns) := by
          rw [Bool.eq_iff_iff, asc_iff, decide_eq_true_iff, ← srtU_self]
          exact ⟨fun h => h.symm, fun h => h.symm⟩
        have e2 : (ns.all fun i => decide (0 ≤ i) && decide (i < many)) = decide ((ns.filter fun i => !(decide (0 ≤ i) && decide (i < many))) = []) := by
          rw [Bool.eq_iff_iff, decide_eq_true_iff, List.filter_eq_nil_iff, List.all_eq_true]
          simp
        rw [e1, e2, Bool.and_comm]
      have hl3 : (ns.map D.int).length ≤ lim := hl2
      cases q5 : decide (ns = srtU ns) with
      | false =>
        rw [q5] at o3 fin
        simp only [f__law_lo_is, m__law_lo_is, mLc, runD, runF, runR, runRF, startE, rf0, sSeq, sNil, sPass, sEx, sRt, sRtN, sIf, sSet, sSetO, sPar, sAug, sSub, sAsg, sFz, sFor, mOp, evA, evP, fill, evS, mTup, mLst, mV, mK, mT, mNot, mAnd, mOr, mAndV, mOrV, mNotV, mIf, mChain, mCall, mCallL, mCallR, mIsi, mIt, iAny, mSl, evO, mGet, mOwn, PV.val, ownV, setV, free, bindT, bindTs, wipeE, backE, R.bind, R.bs, Rs.bind, Oe.ev, Oe.sl, tYs, isLst, List.map_cons, List.map_nil, List.length_cons, List.length_nil, List.replicate, List.cons_append, List.nil_append, List.append_nil, List.getElem?_cons_zero, List.getElem?_cons_succ, List.getElem?_nil, List.set_cons_zero, List.set_cons_succ, Option.some.injEq, if_true, if_false, Bool.false_eq_true, Nat.sub_self, Nat.reduceSub, Nat.reduceAdd, Nat.reduceLT, reduceCtorEq, ite_true, ite_false, Bool.not_true, Bool.not_false, Option.bind_some, Option.map_some, ne_eq, not_false_eq_true, and_self, and_true, true_and, Nat.succ_ne_self, List.contains_cons, List.contains_nil, String.reduceBEq, Bool.or_true, Bool.true_or, Bool.or_false, Bool.false_or, Bool.and_true, Bool.and_false, Bool.false_and, Bool.true_and, beq_self_eq_true, subN, tyN, Nat.reduceEqDiff, itD, seqD, c1, hl3, o1, o5, o2, o3, fin]
      | true =>
        rw [q5] at o3 fin
        simp only [f__law_lo_is, m__law_lo_is, mLc, runD, runF, runR, runRF, startE, rf0, sSeq, sNil, sPass, sEx, sRt, sRtN, sIf, sSet, sSetO, sPar, sAug, sSub, sAsg, sFz, sFor, mOp, evA, evP, fill, evS, mTup, mLst, mV, mK, mT, mNot, mAnd, mOr, mAndV, mOrV, mNotV, mIf, mChain, mCall, mCallL, mCallR, mIsi, mIt, iAny, mSl, evO, mGet, mOwn, PV.val, ownV, setV, free, bindT, bindTs, wipeE, backE, R.bind, R.bs, Rs.bind, Oe.ev, Oe.sl, tYs, isLst, List.map_cons, List.map_nil, List.length_cons, List.length_nil, List.replicate, List.cons_append, List.nil_append, List.append_nil, List.getElem?_cons_zero, List.getElem?_cons_succ, List.getElem?_nil, List.set_cons_zero, List.set_cons_succ, Option.some.injEq, if_true, if_false, Bool.false_eq_true, Nat.sub_self, Nat.reduceSub, Nat.reduceAdd, Nat.reduceLT, reduceCtorEq, ite_true, ite_false, Bool.not_true, Bool.not_false, Option.bind_some, Option.map_some, ne_eq, not_false_eq_true, and_self, and_true, true_and, Nat.succ_ne_self, List.contains_cons, List.contains_nil, String.reduceBEq, Bool.or_true, Bool.true_or, Bool.or_false, Bool.false_or, Bool.and_true, Bool.and_false, Bool.false_and, Bool.true_and, beq_self_eq_true, subN, tyN, Nat.reduceEqDiff, itD, seqD, c1, hl3, o1, o5, o2, o3, fin, c2, o4]
    · have e := rise_none many (noInt_none q)
      have o1 : oNe [.lst (((xs.filter noInt).map fun _ => (1 : Int)).map D.int), .lst []] = some (.bl true) := by
        have : ¬ ((xs.filter noInt).map fun _ => (1 : Int)) = [] := fun z => q (List.map_eq_nil_iff.mp z)
        simp only [oNe, eqD_li0, Option.map_some, this, decide_false, Bool.not_false]
      simp only [f__law_lo_is, m__law_lo_is, mLc, runD, runF, runR, runRF, startE, rf0, sSeq, sNil, sPass, sEx, sRt, sRtN, sIf, sSet, sSetO, sPar, sAug, sSub, sAsg, sFz, sFor, mOp, evA, evP, fill, evS, mTup, mLst, mV, mK, mT, mNot, mAnd, mOr, mAndV, mOrV, mNotV, mIf, mChain, mCall, mCallL, mCallR, mIsi, mIt, iAny, mSl, evO, mGet, mOwn, PV.val, ownV, setV, free, bindT, bindTs, wipeE, backE, R.bind, R.bs, Rs.bind, Oe.ev, Oe.sl, tYs, isLst, List.map_cons, List.map_nil, List.length_cons, List.length_nil, List.replicate, List.cons_append, List.nil_append, List.append_nil, List.getElem?_cons_zero, List.getElem?_cons_succ, List.getElem?_nil, List.set_cons_zero, List.set_cons_succ, Option.some.injEq, if_true, if_false, Bool.false_eq_true, Nat.sub_self, Nat.reduceSub, Nat.reduceAdd, Nat.reduceLT, reduceCtorEq, ite_true, ite_false, Bool.not_true, Bool.not_false, Option.bind_some, Option.map_some, ne_eq, not_false_eq_true, and_self, and_true, true_and, Nat.succ_ne_self, List.contains_cons, List.contains_nil, String.reduceBEq, Bool.or_true, Bool.true_or, Bool.or_false, Bool.false_or, Bool.and_true, Bool.and_false, Bool.false_and, Bool.true_and, beq_self_eq_true, subN, tyN, Nat.reduceEqDiff, itD, seqD, c1, hl2, o1, e]
  | _ => first | (exact absurd rfl h) | simp [f__law_lo_is, m__law_lo_is, runD, runF, runR, runRF, startE, rf0, sSeq, sNil, sPass, sEx, sRt, sRtN, sIf, sSet, sSetO, sPar, sAug, sSub, sAsg, sFz, sFor, mOp, evA, evP, fill, evS, mTup, mLst, mV, mK, mT, mNot, mAnd, mOr, mAndV, mOrV, mNotV, mIf, mChain, mCall, mCallL, mCallR, mIsi, mIt, iAny, mSl, evO, mGet, mOwn, PV.val, ownV, setV, free, bindT, bindTs, wipeE, backE, R.bind, R.bs, Rs.bind, Oe.ev, Oe.sl, tYs, isLst, List.map_cons, List.map_nil, List.length_cons, List.length_nil, List.replicate, List.cons_append, List.nil_append, List.append_nil, List.getElem?_cons_zero, List.getElem?_cons_succ, List.getElem?_nil, List.set_cons_zero, List.set_cons_succ, Option.some.injEq, if_true, if_false, Bool.false_eq_true, Nat.sub_self, Nat.reduceSub, Nat.reduceAdd, Nat.reduceLT, reduceCtorEq, ite_true, ite_false, Bool.not_true, Bool.not_false, Option.bind_some, Option.map_some, ne_eq, not_false_eq_true, and_self, and_true, true_and, Nat.succ_ne_self, List.contains_cons, List.contains_nil, String.reduceBEq, Bool.or_true, Bool.true_or, Bool.or_false, Bool.false_or, Bool.and_true, Bool.and_false, Bool.false_and, Bool.true_and, beq_self_eq_true, subN, tyN, Nat.reduceEqDiff, rise]
end K00

namespace K00
open PySem L2 PV BM
/-! ### dice -/
def GD (n : Nat) (d : D) : Prop := ∃ a b c : Int, d = .lst [.int a, .int b, .int c] ∧ 0 ≤ c ∧ c ≤ n
theorem GD.mono {n m : Nat} {d : D} (h : GD n d) (hm : n ≤ m) : GD m d := by
  obtain ⟨a, b, c, e, h1, h2⟩ := h
  exact ⟨a, b, c, e, h1, by omega⟩
theorem log2_le {x : Int} {k : Nat} (h0 : 0 ≤ x) (h : x < 2 ^ (k + 1)) : x.natAbs.log2 ≤ k := by
  rcases Nat.eq_zero_or_pos x.natAbs with z | z
  · rw [z]
    exact Nat.zero_le _
  · refine Nat.le_of_lt_succ ((Nat.log2_lt (by omega)).mpr ?_)
    have : ((x.natAbs : Nat) : Int) = x := by omega
    exact Int.ofNat_lt.mp (by rw [this]; push_cast; exact h)
theorem roll_ok {n : Nat} {d : D} {m : Int} (hd : GD n d) (hn : n ≤ 1000000) (h0 : 0 < m) (h1 : m ≤ 1000000) : ∃ (k : Int) (d' : D), f__law_roll d [.int m] = .ok (.int k) d' ∧ 0 ≤ k ∧ k < m ∧ GD (n + 1) d' := by
  obtain ⟨a, b, c, rfl, hc0, hc⟩ := hd
  have hm0 : m ≠ 0 := by omega
  have hmod : ∀ x : Int, 0 ≤ x.fmod m ∧ x.fmod m < m := fun x => ⟨Int.fmod_nonneg_of_pos x h0, Int.fmod_lt_of_pos x h0⟩
  have hmlog : m.natAbs.log2 < 9000 := Nat.lt_of_le_of_lt (log2_le (k := 19) (by omega) (by omega)) (by decide)
  by_cases ha : 0 < a
  · refine ⟨a.fmod m, .lst [.int (a / m), .int b, .int c], ?_, (hmod a).1, (hmod a).2, a / m, b, c, rfl, hc0, by omega⟩
    simp [f__law_roll, m__law_roll, runD, runF, runR, runRF, startE, rf0, sSeq, sNil, sPass, sEx, sRt, sRtN, sIf, sSet, sSetO, sPar, sAug, sSub, sAsg, sFz, sFor, mOp, evA, evP, fill, evS, mTup, mLst, mV, mK, mT, mNot, mAnd, mOr, mAndV, mOrV, mNotV, mIf, mChain, mCall, mCallL, mCallR, mIsi, mIt, iAny, mSl, evO, mGet, mOwn, PV.val, ownV, setV, free, bindT, bindTs, wipeE, backE, R.bind, R.bs, Rs.bind, Oe.ev, Oe.sl, tYs, isLst, List.map_cons, List.map_nil, List.length_cons, List.length_nil, List.replicate, List.cons_append, List.nil_append, List.append_nil, List.getElem?_cons_zero, List.getElem?_cons_succ, List.getElem?_nil, List.set_cons_zero, List.set_cons_succ, Option.some.injEq, if_true, if_false, Bool.false_eq_true, Nat.sub_self, Nat.reduceSub, Nat.reduceAdd, Nat.reduceLT, reduceCtorEq, ite_true, ite_false, Bool.not_true, Bool.not_false, Option.bind_some, Option.map_some, ne_eq, not_false_eq_true, and_self, and_true, true_and, Nat.succ_ne_self, List.contains_cons, List.contains_nil, String.reduceBEq, Bool.or_true, Bool.true_or, Bool.or_false, Bool.false_or, Bool.and_true, Bool.and_false, Bool.false_and, Bool.true_and, beq_self_eq_true, subN, tyN, Nat.reduceEqDiff, oIxx, oIx, atD, seqD, L2.atI, ixN, kSub, kSetIx, oInt, o2I, cMod, cFdiv, ha, hm0, h0, hmlog]
  · have c1 : cMul 49979687 (c + 1) = true := by
      unfold cMul
      refine decide_eq_true ?_
      have := log2_le (x := c + 1) (k := 19) (by omega) (by omega)
      have e : (49979687 : Int).natAbs.log2 = 25 := by decide +kernel
      omega
    have c2 : cMul 113 (c + 1) = true := by
      unfold cMul
      refine decide_eq_true ?_
      have := log2_le (x := c + 1) (k := 19) (by omega) (by omega)
      have e : (113 : Int).natAbs.log2 = 6 := by decide +kernel
      omega
    generalize hone : (b + 49979687 * (c + 1)).fmod 2305843009213693487 = one
    have hone1 : 0 ≤ one ∧ one < 2305843009213693487 := by
      rw [← hone]
      exact ⟨Int.fmod_nonneg_of_pos _ (by decide), Int.fmod_lt_of_pos _ (by decide)⟩
    have c3 : cMul one one = true := by
      unfold cMul
      refine decide_eq_true ?_
      have := log2_le (x := one) (k := 61) hone1.1 (by omega)
      omega
    generalize htw : (one * one + 113 * (c + 1)).fmod 2305843009213693669 = tw
    have htw1 : 0 ≤ tw ∧ tw < 2305843009213693669 := by
      rw [← htw]
      exact ⟨Int.fmod_nonneg_of_pos _ (by decide), Int.fmod_lt_of_pos _ (by decide)⟩
    have c4 : cMul tw 6700417 = true := by
      unfold cMul
      refine decide_eq_true ?_
      have := log2_le (x := tw) (k := 61) htw1.1 (by omega)
      have e : (6700417 : Int).natAbs.log2 = 22 := by decide +kernel
      omega
    have c5 : Nat.log2 65539 < 9000 := by decide +kernel
    refine ⟨((tw * 6700417 + one) / 65539).fmod m, .lst [.int a, .int b, .int (c + 1)], ?_, (hmod _).1, (hmod _).2, a, b, c + 1, rfl, by omega, by omega⟩
    simp [f__law_roll, m__law_roll, runD, runF, runR, runRF, startE, rf0, sSeq, sNil, sPass, sEx, sRt, sRtN, sIf, sSet, sSetO, sPar, sAug, sSub, sAsg, sFz, sFor, mOp, evA, evP, fill, evS, mTup, mLst, mV, mK, mT, mNot, mAnd, mOr, mAndV, mOrV, mNotV, mIf, mChain, mCall, mCallL, mCallR, mIsi, mIt, iAny, mSl, evO, mGet, mOwn, PV.val, ownV, setV, free, bindT, bindTs, wipeE, backE, R.bind, R.bs, Rs.bind, Oe.ev, Oe.sl, tYs, isLst, List.map_cons, List.map_nil, List.length_cons, List.length_nil, List.replicate, List.cons_append, List.nil_append, List.append_nil, List.getElem?_cons_zero, List.getElem?_cons_succ, List.getElem?_nil, List.set_cons_zero, List.set_cons_succ, Option.some.injEq, if_true, if_false, Bool.false_eq_true, Nat.sub_self, Nat.reduceSub, Nat.reduceAdd, Nat.reduceLT, reduceCtorEq, ite_true, ite_false, Bool.not_true, Bool.not_false, Option.bind_some, Option.map_some, ne_eq, not_false_eq_true, and_self, and_true, true_and, Nat.succ_ne_self, List.contains_cons, List.contains_nil, String.reduceBEq, Bool.or_true, Bool.true_or, Bool.or_false, Bool.false_or, Bool.and_true, Bool.and_false, Bool.false_and, Bool.true_and, beq_self_eq_true, subN, tyN, Nat.reduceEqDiff, oIxx, oIx, atD, seqD, L2.atI, ixN, kSub, kSetIx, oInt, o2I, cMod, cFdiv, ha, hm0, h0, oAdd, oMul, c1, c2, c3, c4, c5, hone, htw]
end K00
namespace K00
open PySem L2 PV BM
/-! ### lots -/
def Lot (m : Nat) (l : List Nat) : Prop := l.Pairwise (· < ·) ∧ ∀ i ∈ l, i < m
theorem Lot.len {m : Nat} {l : List Nat} (h : Lot m l) : l.length ≤ m := by
  have sub : l.length ≤ ((List.range m).filter fun i => decide (i ∈ l)).length := by
    have e : l = (List.range m).filter fun i => decide (i ∈ l) := srt_uniq h.1 (List.Pairwise.filter _ List.pairwise_lt_range) fun k => by
      rw [List.mem_filter, List.mem_range, decide_eq_true_iff]
      exact ⟨fun z => ⟨h.2 k z, z⟩, fun z => z.2⟩
    rw [← e]
    exact Nat.le_refl _
  refine Nat.le_trans sub (Nat.le_trans (List.length_filter_le _ _) ?_)
  rw [List.length_range]
  exact Nat.le_refl _
theorem Lot.mono {m k : Nat} {l : List Nat} (h : Lot m l) (hm : m ≤ k) : Lot k l := ⟨h.1, fun i hi => Nat.lt_of_lt_of_le (h.2 i hi) hm⟩
theorem wipe2 {a b c d : Sl} : wipeE [a, b, c, d] [3] = [a, b, c, .no] := rfl
theorem lo_any_ok {n many : Nat} {d : D} (hd : GD n d) (hn : n ≤ 900000) (hm : many ≤ 24) : ∃ (l : List Nat) (d' : D), f__law_lo_any d [.int many] = .ok (lotD l) d' ∧ GD (n + 1 + many) d' ∧ Lot many l := by
  obtain ⟨k, d1, h1, hk0, hk, g1⟩ := roll_ok hd (by omega) (m := 3) (by decide) (by decide)
  have lp := lcL_inv (T := .n 3) (t := mT (mOp oLt [.m (mCallR f__law_roll 0 [mK (.int 4)]), .s 2])) (m := mV 3) (vs := [3])
    (fun ds acc e => ∃ (j : Nat) (d2 : D) (l : List Nat), ds = (List.range' j (many - j)).map (fun (i : Nat) => D.int i) ∧ j ≤ many ∧ acc = nD l ∧ e = [.rf d2, .fz (.int many), .fz (.int (1 + k)), .no] ∧ GD (n + 1 + j) d2 ∧ Lot j l)
    ((List.range' 0 many).map fun (i : Nat) => D.int i) [] [.rf d1, .fz (.int many), .fz (.int (1 + k)), .no] (by
      rintro d r acc e ⟨j, d2, l, hds, hj, rfl, rfl, g, hl⟩
      have hjm : j < many := by
        rcases Nat.lt_or_ge j many with z | z
        · exact z
        · rw [Nat.sub_eq_zero_of_le z] at hds
          cases hds
      have e1 : many - j = (many - (j + 1)) + 1 := by omega
      rw [e1, List.range'_succ, List.map_cons] at hds
      cases hds
      obtain ⟨k2, d3, h2, hk20, hk2, g2⟩ := roll_ok g (by omega) (m := 4) (by decide) (by decide)
      refine ⟨[.rf d2, .fz (.int many), .fz (.int (1 + k)), .fz (.int j)], decide (k2 < 1 + k), [.rf d3, .fz (.int many), .fz (.int (1 + k)), .fz (.int j)], rfl, ?_, fun _ => ?_, fun _ => ?_⟩
      · simp only [runD, runF, runR, runRF, startE, rf0, sSeq, sNil, sPass, sEx, sRt, sRtN, sIf, sSet, sSetO, sPar, sAug, sSub, sAsg, sFz, sFor, mOp, evA, evP, fill, evS, mTup, mLst, mV, mK, mT, mNot, mAnd, mOr, mAndV, mOrV, mNotV, mIf, mChain, mCall, mCallL, mCallR, mIsi, mIt, iAny, mSl, evO, mGet, mOwn, PV.val, ownV, setV, free, bindT, bindTs, wipeE, backE, R.bind, R.bs, Rs.bind, Oe.ev, Oe.sl, tYs, isLst, List.map_cons, List.map_nil, List.length_cons, List.length_nil, List.replicate, List.cons_append, List.nil_append, List.append_nil, List.getElem?_cons_zero, List.getElem?_cons_succ, List.getElem?_nil, List.set_cons_zero, List.set_cons_succ, Option.some.injEq, if_true, if_false, Bool.false_eq_true, Nat.sub_self, Nat.reduceSub, Nat.reduceAdd, Nat.reduceLT, reduceCtorEq, ite_true, ite_false, Bool.not_true, Bool.not_false, Option.bind_some, Option.map_some, ne_eq, not_false_eq_true, and_self, and_true, true_and, Nat.succ_ne_self, List.contains_cons, List.contains_nil, String.reduceBEq, Bool.or_true, Bool.true_or, Bool.or_false, Bool.false_or, Bool.and_true, Bool.and_false, Bool.false_and, Bool.true_and, beq_self_eq_true, subN, tyN, Nat.reduceEqDiff, h2, o2I]
      · exact ⟨j + 1, d3, l, rfl, hjm, rfl, rfl, g2, hl.mono (Nat.le_succ j)⟩
      · refine ⟨.int j, _, rfl, j + 1, d3, l ++ [j], rfl, hjm, by simp [nD], rfl, g2, ?_, ?_⟩
        · rw [List.pairwise_append]
          refine ⟨hl.1, by simp, fun a ha b hb => ?_⟩
          rw [List.mem_singleton.mp hb]
          exact hl.2 a ha
        · intro i hi
          rcases List.mem_append.mp hi with hi | hi
          · exact Nat.lt_succ_of_lt (hl.2 i hi)
          · rw [List.mem_singleton.mp hi]
            exact Nat.lt_succ_self j)
    ⟨0, d1, [], by rw [Nat.sub_zero], Nat.zero_le _, rfl, rfl, g1, ⟨.nil, fun _ h => nomatch h⟩⟩
  obtain ⟨ys, e', hlc, j, d2, l, hds, hj, hys, rfl, g2, hl⟩ := lp
  have hjm : j = many := by
    have := congrArg List.length hds
    rw [List.length_nil, List.length_map, List.length_range'] at this
    omega
  subst hjm
  rw [List.nil_append] at hys
  subst hys
  refine ⟨l, d2, ?_, g2, hl⟩
  have r1 : iRange1 [.int (j : Int)] = some ((List.range' 0 j).map fun (i : Nat) => D.int i) := by
    rw [iRange1_nat (by omega), List.range_eq_range']
  have l1 : ((List.range' 0 j).map fun (i : Nat) => D.int i).length ≤ lim := by
    rw [List.length_map, List.length_range']
    exact Nat.le_trans hm (by decide)
  simp only [f__law_lo_any, m__law_lo_any, mLc, runD, runF, runR, runRF, startE, rf0, sSeq, sNil, sPass, sEx, sRt, sRtN, sIf, sSet, sSetO, sPar, sAug, sSub, sAsg, sFz, sFor, mOp, evA, evP, fill, evS, mTup, mLst, mV, mK, mT, mNot, mAnd, mOr, mAndV, mOrV, mNotV, mIf, mChain, mCall, mCallL, mCallR, mIsi, mIt, iAny, mSl, evO, mGet, mOwn, PV.val, ownV, setV, free, bindT, bindTs, wipeE, backE, R.bind, R.bs, Rs.bind, Oe.ev, Oe.sl, tYs, isLst, List.map_cons, List.map_nil, List.length_cons, List.length_nil, List.replicate, List.cons_append, List.nil_append, List.append_nil, List.getElem?_cons_zero, List.getElem?_cons_succ, List.getElem?_nil, List.set_cons_zero, List.set_cons_succ, Option.some.injEq, if_true, if_false, Bool.false_eq_true, Nat.sub_self, Nat.reduceSub, Nat.reduceAdd, Nat.reduceLT, reduceCtorEq, ite_true, ite_false, Bool.not_true, Bool.not_false, Option.bind_some, Option.map_some, ne_eq, not_false_eq_true, and_self, and_true, true_and, Nat.succ_ne_self, List.contains_cons, List.contains_nil, String.reduceBEq, Bool.or_true, Bool.true_or, Bool.or_false, Bool.false_or, Bool.and_true, Bool.and_false, Bool.false_and, Bool.true_and, beq_self_eq_true, subN, tyN, Nat.reduceEqDiff, h1, r1, l1, hlc, oTuple, seqD, oAdd]
end K00
namespace K00
open PySem L2 PV BM
theorem nD_ints (l : List Nat) : nD l = (l.map fun (i : Nat) => (i : Int)).map D.int := by
  rw [List.map_map]
  rfl
theorem intsD_nD (l : List Nat) : intsD (nD l) = some (l.map fun (i : Nat) => (i : Int)) := by
  rw [nD_ints]
  exact intsD_map _
theorem tyN_lot (l : List Nat) : ∀ xs, lotD l = .tup xs → (∀ x ∈ xs, tyN x ≠ none) := fun xs e x hx => by
  cases e
  obtain ⟨i, _, rfl⟩ := List.mem_map.mp hx
  simp [tyN]
theorem rise_lot {m : Nat} {l : List Nat} (h : Lot m l) : rise m (lotD l) = true := by
  show rise m (.tup (nD l)) = true
  rw [nD_ints, rise_some]
  unfold riseI
  rw [Bool.and_eq_true]
  refine ⟨List.all_eq_true.mpr fun x hx => ?_, (asc_iff _).mpr (List.pairwise_map.mpr (h.1.imp fun z => by omega))⟩
  obtain ⟨i, hi, rfl⟩ := List.mem_map.mp hx
  have := h.2 i hi
  rw [Bool.and_eq_true, decide_eq_true_iff, decide_eq_true_iff]
  omega
theorem is_rising_lot {m : Nat} {l : List Nat} (h : Lot m l) (hm : m ≤ 1000) : f_is_rising [lotD l, .int m] = .ok (.bl true) := by
  have hl := h.len
  rw [is_rising_ok (v := lotD l) (many := m) (by simp [tyN]) fun xs e => ⟨tyN_lot l xs e, by cases e; rw [List.length_map]; omega⟩, rise_lot h]
theorem require_lot_ok {l : List Nat} (h : Lot 24 l) : f_require_lot [lotD l] = .ok .non := by
  have := is_rising_lot h (by decide)
  simp only [f_require_lot, m_require_lot, runD, runF, runR, runRF, startE, rf0, sSeq, sNil, sPass, sEx, sRt, sRtN, sIf, sSet, sSetO, sPar, sAug, sSub, sAsg, sFz, sFor, mOp, evA, evP, fill, evS, mTup, mLst, mV, mK, mT, mNot, mAnd, mOr, mAndV, mOrV, mNotV, mIf, mChain, mCall, mCallL, mCallR, mIsi, mIt, iAny, mSl, evO, mGet, mOwn, PV.val, ownV, setV, free, bindT, bindTs, wipeE, backE, R.bind, R.bs, Rs.bind, Oe.ev, Oe.sl, tYs, isLst, List.map_cons, List.map_nil, List.length_cons, List.length_nil, List.replicate, List.cons_append, List.nil_append, List.append_nil, List.getElem?_cons_zero, List.getElem?_cons_succ, List.getElem?_nil, List.set_cons_zero, List.set_cons_succ, Option.some.injEq, if_true, if_false, Bool.false_eq_true, Nat.sub_self, Nat.reduceSub, Nat.reduceAdd, Nat.reduceLT, reduceCtorEq, ite_true, ite_false, Bool.not_true, Bool.not_false, Option.bind_some, Option.map_some, ne_eq, not_false_eq_true, and_self, and_true, true_and, Nat.succ_ne_self, List.contains_cons, List.contains_nil, String.reduceBEq, Bool.or_true, Bool.true_or, Bool.or_false, Bool.false_or, Bool.and_true, Bool.and_false, Bool.false_and, Bool.true_and, beq_self_eq_true, subN, tyN, Nat.reduceEqDiff, show ((24 : Nat) : Int) = 24 from rfl] at this ⊢
  simp only [runD, runF, runR, runRF, startE, rf0, sSeq, sNil, sPass, sEx, sRt, sRtN, sIf, sSet, sSetO, sPar, sAug, sSub, sAsg, sFz, sFor, mOp, evA, evP, fill, evS, mTup, mLst, mV, mK, mT, mNot, mAnd, mOr, mAndV, mOrV, mNotV, mIf, mChain, mCall, mCallL, mCallR, mIsi, mIt, iAny, mSl, evO, mGet, mOwn, PV.val, ownV, setV, free, bindT, bindTs, wipeE, backE, R.bind, R.bs, Rs.bind, Oe.ev, Oe.sl, tYs, isLst, List.map_cons, List.map_nil, List.length_cons, List.length_nil, List.replicate, List.cons_append, List.nil_append, List.append_nil, List.getElem?_cons_zero, List.getElem?_cons_succ, List.getElem?_nil, List.set_cons_zero, List.set_cons_succ, Option.some.injEq, if_true, if_false, Bool.false_eq_true, Nat.sub_self, Nat.reduceSub, Nat.reduceAdd, Nat.reduceLT, reduceCtorEq, ite_true, ite_false, Bool.not_true, Bool.not_false, Option.bind_some, Option.map_some, ne_eq, not_false_eq_true, and_self, and_true, true_and, Nat.succ_ne_self, List.contains_cons, List.contains_nil, String.reduceBEq, Bool.or_true, Bool.true_or, Bool.or_false, Bool.false_or, Bool.and_true, Bool.and_false, Bool.false_and, Bool.true_and, beq_self_eq_true, subN, tyN, Nat.reduceEqDiff, this]
theorem require_two_ok {a b : List Nat} (ha : Lot 24 a) (hb : Lot 24 b) : f_require_two [lotD a, lotD b] = .ok .non := by
  simp only [f_require_two, m_require_two, runD, runF, runR, runRF, startE, rf0, sSeq, sNil, sPass, sEx, sRt, sRtN, sIf, sSet, sSetO, sPar, sAug, sSub, sAsg, sFz, sFor, mOp, evA, evP, fill, evS, mTup, mLst, mV, mK, mT, mNot, mAnd, mOr, mAndV, mOrV, mNotV, mIf, mChain, mCall, mCallL, mCallR, mIsi, mIt, iAny, mSl, evO, mGet, mOwn, PV.val, ownV, setV, free, bindT, bindTs, wipeE, backE, R.bind, R.bs, Rs.bind, Oe.ev, Oe.sl, tYs, isLst, List.map_cons, List.map_nil, List.length_cons, List.length_nil, List.replicate, List.cons_append, List.nil_append, List.append_nil, List.getElem?_cons_zero, List.getElem?_cons_succ, List.getElem?_nil, List.set_cons_zero, List.set_cons_succ, Option.some.injEq, if_true, if_false, Bool.false_eq_true, Nat.sub_self, Nat.reduceSub, Nat.reduceAdd, Nat.reduceLT, reduceCtorEq, ite_true, ite_false, Bool.not_true, Bool.not_false, Option.bind_some, Option.map_some, ne_eq, not_false_eq_true, and_self, and_true, true_and, Nat.succ_ne_self, List.contains_cons, List.contains_nil, String.reduceBEq, Bool.or_true, Bool.true_or, Bool.or_false, Bool.false_or, Bool.and_true, Bool.and_false, Bool.false_and, Bool.true_and, beq_self_eq_true, subN, tyN, Nat.reduceEqDiff, require_lot_ok ha, require_lot_ok hb]
theorem Lot.lt {l : List Nat} (h : Lot 24 l) : mask l < 2 ^ 64 := Nat.lt_of_lt_of_le (mask_lt h.1 h.2) (by decide)
theorem Lot.mk {l : List Nat} (h : Lot 24 l) : f_mask_of [lotD l] = .ok (.int (mask l)) := mask_of_ok (Nat.le_trans h.len (by decide)) fun i hi => Nat.lt_trans (h.2 i hi) (by decide)
theorem lot_sum_ok {a b : List Nat} (ha : Lot 24 a) (hb : Lot 24 b) : f_lot_sum [lotD a, lotD b] = .ok (lotD (bits (mask a ^^^ mask b))) := by
  have hx := lot_of_ok (Nat.xor_lt_two_pow ha.lt hb.lt)
  simp only [f_lot_sum, m_lot_sum, runD, runF, runR, runRF, startE, rf0, sSeq, sNil, sPass, sEx, sRt, sRtN, sIf, sSet, sSetO, sPar, sAug, sSub, sAsg, sFz, sFor, mOp, evA, evP, fill, evS, mTup, mLst, mV, mK, mT, mNot, mAnd, mOr, mAndV, mOrV, mNotV, mIf, mChain, mCall, mCallL, mCallR, mIsi, mIt, iAny, mSl, evO, mGet, mOwn, PV.val, ownV, setV, free, bindT, bindTs, wipeE, backE, R.bind, R.bs, Rs.bind, Oe.ev, Oe.sl, tYs, isLst, List.map_cons, List.map_nil, List.length_cons, List.length_nil, List.replicate, List.cons_append, List.nil_append, List.append_nil, List.getElem?_cons_zero, List.getElem?_cons_succ, List.getElem?_nil, List.set_cons_zero, List.set_cons_succ, Option.some.injEq, if_true, if_false, Bool.false_eq_true, Nat.sub_self, Nat.reduceSub, Nat.reduceAdd, Nat.reduceLT, reduceCtorEq, ite_true, ite_false, Bool.not_true, Bool.not_false, Option.bind_some, Option.map_some, ne_eq, not_false_eq_true, and_self, and_true, true_and, Nat.succ_ne_self, List.contains_cons, List.contains_nil, String.reduceBEq, Bool.or_true, Bool.true_or, Bool.or_false, Bool.false_or, Bool.and_true, Bool.and_false, Bool.false_and, Bool.true_and, beq_self_eq_true, subN, tyN, Nat.reduceEqDiff, require_two_ok ha hb, ha.mk, hb.mk, o2I, bxor, hx]
def odd (a b : List Nat) : Bool := decide ((bits (mask a &&& mask b)).length % 2 = 1)
theorem odd_ok (n : Nat) : oEq [.int (((n : Nat) : Int).fmod 2), .int 1] = some (.bl (decide (n % 2 = 1))) := by
  simp only [oEq, eqD_int, Option.map_some]
  have e : ((n : Nat) : Int).fmod 2 = ((n % 2 : Nat) : Int) := by
    rw [Int.fmod_eq_emod_of_nonneg _ (by decide)]
    rfl
  rw [e]
  congr 2
  exact decide_eq_decide.mpr (by omega)
theorem does_meet_ok {a b : List Nat} (ha : Lot 24 a) (hb : Lot 24 b) : f_does_meet_oddly [lotD a, lotD b] = .ok (.bl (odd a b)) := by
  have hx := lot_of_ok (n := mask a &&& mask b) (Nat.lt_of_le_of_lt Nat.and_le_left ha.lt)
  have h1 : f_size_of [.int ((mask a &&& mask b : Nat) : Int)] = .ok (.int ((bits (mask a &&& mask b)).length : Nat)) := by
    simp only [f_size_of, m_size_of, runD, runF, runR, runRF, startE, rf0, sSeq, sNil, sPass, sEx, sRt, sRtN, sIf, sSet, sSetO, sPar, sAug, sSub, sAsg, sFz, sFor, mOp, evA, evP, fill, evS, mTup, mLst, mV, mK, mT, mNot, mAnd, mOr, mAndV, mOrV, mNotV, mIf, mChain, mCall, mCallL, mCallR, mIsi, mIt, iAny, mSl, evO, mGet, mOwn, PV.val, ownV, setV, free, bindT, bindTs, wipeE, backE, R.bind, R.bs, Rs.bind, Oe.ev, Oe.sl, tYs, isLst, List.map_cons, List.map_nil, List.length_cons, List.length_nil, List.replicate, List.cons_append, List.nil_append, List.append_nil, List.getElem?_cons_zero, List.getElem?_cons_succ, List.getElem?_nil, List.set_cons_zero, List.set_cons_succ, Option.some.injEq, if_true, if_false, Bool.false_eq_true, Nat.sub_self, Nat.reduceSub, Nat.reduceAdd, Nat.reduceLT, reduceCtorEq, ite_true, ite_false, Bool.not_true, Bool.not_false, Option.bind_some, Option.map_some, ne_eq, not_false_eq_true, and_self, and_true, true_and, Nat.succ_ne_self, List.contains_cons, List.contains_nil, String.reduceBEq, Bool.or_true, Bool.true_or, Bool.or_false, Bool.false_or, Bool.and_true, Bool.and_false, Bool.false_and, Bool.true_and, beq_self_eq_true, subN, tyN, Nat.reduceEqDiff, hx, oLen, seqD, List.length_map]
  have h2 : f_is_odd [.int ((mask a &&& mask b : Nat) : Int)] = .ok (.bl (odd a b)) := by
    have e2 : cMod ((bits (mask a &&& mask b)).length : Nat) 2 = true := rfl
    simp only [f_is_odd, m_is_odd, runD, runF, runR, runRF, startE, rf0, sSeq, sNil, sPass, sEx, sRt, sRtN, sIf, sSet, sSetO, sPar, sAug, sSub, sAsg, sFz, sFor, mOp, evA, evP, fill, evS, mTup, mLst, mV, mK, mT, mNot, mAnd, mOr, mAndV, mOrV, mNotV, mIf, mChain, mCall, mCallL, mCallR, mIsi, mIt, iAny, mSl, evO, mGet, mOwn, PV.val, ownV, setV, free, bindT, bindTs, wipeE, backE, R.bind, R.bs, Rs.bind, Oe.ev, Oe.sl, tYs, isLst, List.map_cons, List.map_nil, List.length_cons, List.length_nil, List.replicate, List.cons_append, List.nil_append, List.append_nil, List.getElem?_cons_zero, List.getElem?_cons_succ, List.getElem?_nil, List.set_cons_zero, List.set_cons_succ, Option.some.injEq, if_true, if_false, Bool.false_eq_true, Nat.sub_self, Nat.reduceSub, Nat.reduceAdd, Nat.reduceLT, reduceCtorEq, ite_true, ite_false, Bool.not_true, Bool.not_false, Option.bind_some, Option.map_some, ne_eq, not_false_eq_true, and_self, and_true, true_and, Nat.succ_ne_self, List.contains_cons, List.contains_nil, String.reduceBEq, Bool.or_true, Bool.true_or, Bool.or_false, Bool.false_or, Bool.and_true, Bool.and_false, Bool.false_and, Bool.true_and, beq_self_eq_true, subN, tyN, Nat.reduceEqDiff, h1, o2I, e2, odd_ok]
    rfl
  simp only [f_does_meet_oddly, m_does_meet_oddly, runD, runF, runR, runRF, startE, rf0, sSeq, sNil, sPass, sEx, sRt, sRtN, sIf, sSet, sSetO, sPar, sAug, sSub, sAsg, sFz, sFor, mOp, evA, evP, fill, evS, mTup, mLst, mV, mK, mT, mNot, mAnd, mOr, mAndV, mOrV, mNotV, mIf, mChain, mCall, mCallL, mCallR, mIsi, mIt, iAny, mSl, evO, mGet, mOwn, PV.val, ownV, setV, free, bindT, bindTs, wipeE, backE, R.bind, R.bs, Rs.bind, Oe.ev, Oe.sl, tYs, isLst, List.map_cons, List.map_nil, List.length_cons, List.length_nil, List.replicate, List.cons_append, List.nil_append, List.append_nil, List.getElem?_cons_zero, List.getElem?_cons_succ, List.getElem?_nil, List.set_cons_zero, List.set_cons_succ, Option.some.injEq, if_true, if_false, Bool.false_eq_true, Nat.sub_self, Nat.reduceSub, Nat.reduceAdd, Nat.reduceLT, reduceCtorEq, ite_true, ite_false, Bool.not_true, Bool.not_false, Option.bind_some, Option.map_some, ne_eq, not_false_eq_true, and_self, and_true, true_and, Nat.succ_ne_self, List.contains_cons, List.contains_nil, String.reduceBEq, Bool.or_true, Bool.true_or, Bool.or_false, Bool.false_or, Bool.and_true, Bool.and_false, Bool.false_and, Bool.true_and, beq_self_eq_true, subN, tyN, Nat.reduceEqDiff, require_two_ok ha hb, ha.mk, hb.mk, o2I, band, h2]
end K00

namespace K00
open PySem L2 PV BM
/-! ### the law's own sums -/
theorem flatDs_nD : ∀ l : List Nat, flatDs (nD l) = some (l.map fun (i : Nat) => V.int i)
  | [] => rfl
  | x :: r => by
    show (match flatD (.int x), flatDs (nD r) with | some v, some vs => some (v :: vs) | _, _ => none) = _
    rw [flatDs_nD r]
    rfl
theorem inV_nD (i : Nat) : ∀ l : List Nat, inV (.int i) (l.map fun (i : Nat) => V.int i) = decide (i ∈ l)
  | [] => rfl
  | x :: r => by
    have ih := inV_nD i r
    unfold inV at ih ⊢
    rw [List.map_cons, List.any_cons, ih]
    show (((x : Int) == (i : Int)) || decide (i ∈ r)) = _
    rw [Bool.eq_iff_iff, Bool.or_eq_true, beq_iff_eq, decide_eq_true_iff, decide_eq_true_iff, List.mem_cons]
    constructor
    · rintro (h | h)
      · exact .inl (by omega)
      · exact .inr h
    · rintro (h | h)
      · exact .inl (by omega)
      · exact .inr h
theorem in_nD (neg : Bool) (i : Nat) (l : List Nat) : inX neg [.int i, lotD l] = some (.bl (if neg then !decide (i ∈ l) else decide (i ∈ l))) := by
  show inD neg [.int i, .tup (nD l)] = _
  show (match flatD (.int i), (seqD (.tup (nD l))).bind flatDs with | some v, some vs => some (D.bl (if neg = true then !inV v vs else inV v vs)) | _, _ => none) = _
  have e : (seqD (.tup (nD l))).bind flatDs = some (l.map fun (i : Nat) => V.int i) := flatDs_nD l
  rw [e]
  show some (D.bl (if neg = true then !inV (.int i) _ else inV (.int i) _)) = _
  rw [inV_nD]
/-- sorting a list without doubles -/
theorem srt_nat {l m : List Nat} (hl : l.Nodup) (hm : m.Pairwise (· < ·)) (h : ∀ k, k ∈ l ↔ k ∈ m) : srtI (l.map fun (i : Nat) => (i : Int)) = m.map fun (i : Nat) => (i : Int) := by
  have p : l.Perm m := (List.perm_ext_iff_of_nodup hl (hm.imp fun z => by omega)).mpr h
  refine srtI_one ((srtI_perm _).trans (p.map _)) (srtI_srt _) (List.pairwise_map.mpr (hm.imp fun z => by omega))
theorem lo_sum_ok {a b : List Nat} (ha : Lot 24 a) (hb : Lot 24 b) : f__law_lo_sum [lotD a, lotD b] = .ok (lotD (bits (mask a ^^^ mask b))) := by
  have la : (nD a).length ≤ lim := by
    rw [List.length_map]
    exact Nat.le_trans ha.len (by decide)
  have lb : (nD b).length ≤ lim := by
    rw [List.length_map]
    exact Nat.le_trans hb.len (by decide)
  have c1 : lcL (.n 2) (mT (mOp (inX true) [.s 2, .s 1])) (mV 2) [2] (nD a) [.fz (lotD a), .fz (lotD b), .no] = .ok (nD (a.filter fun i => !decide (i ∈ b))) [.fz (lotD a), .fz (lotD b), .no] :=
    lcL_pure _ _ _ fun i hi => ⟨[.fz (lotD a), .fz (lotD b), .fz (.int i)], [.fz (lotD a), .fz (lotD b), .fz (.int i)], rfl, by simp only [runD, runF, runR, runRF, startE, rf0, sSeq, sNil, sPass, sEx, sRt, sRtN, sIf, sSet, sSetO, sPar, sAug, sSub, sAsg, sFz, sFor, mOp, evA, evP, fill, evS, mTup, mLst, mV, mK, mT, mNot, mAnd, mOr, mAndV, mOrV, mNotV, mIf, mChain, mCall, mCallL, mCallR, mIsi, mIt, iAny, mSl, evO, mGet, mOwn, PV.val, ownV, setV, free, bindT, bindTs, wipeE, backE, R.bind, R.bs, Rs.bind, Oe.ev, Oe.sl, tYs, isLst, List.map_cons, List.map_nil, List.length_cons, List.length_nil, List.replicate, List.cons_append, List.nil_append, List.append_nil, List.getElem?_cons_zero, List.getElem?_cons_succ, List.getElem?_nil, List.set_cons_zero, List.set_cons_succ, Option.some.injEq, if_true, if_false, Bool.false_eq_true, Nat.sub_self, Nat.reduceSub, Nat.reduceAdd, Nat.reduceLT, reduceCtorEq, ite_true, ite_false, Bool.not_true, Bool.not_false, Option.bind_some, Option.map_some, ne_eq, not_false_eq_true, and_self, and_true, true_and, Nat.succ_ne_self, List.contains_cons, List.contains_nil, String.reduceBEq, Bool.or_true, Bool.true_or, Bool.or_false, Bool.false_or, Bool.and_true, Bool.and_false, Bool.false_and, Bool.true_and, beq_self_eq_true, subN, tyN, Nat.reduceEqDiff, in_nD], fun _ => rfl, fun _ => ⟨[.fz (lotD a), .fz (lotD b), .fz (.int i)], rfl, rfl⟩⟩
  have c2 : lcL (.n 2) (mT (mOp (inX true) [.s 2, .s 0])) (mV 2) [2] (nD b) [.fz (lotD a), .fz (lotD b), .no] = .ok (nD (b.filter fun i => !decide (i ∈ a))) [.fz (lotD a), .fz (lotD b), .no] :=
    lcL_pure _ _ _ fun i hi => ⟨[.fz (lotD a), .fz (lotD b), .fz (.int i)], [.fz (lotD a), .fz (lotD b), .fz (.int i)], rfl, by simp only [runD, runF, runR, runRF, startE, rf0, sSeq, sNil, sPass, sEx, sRt, sRtN, sIf, sSet, sSetO, sPar, sAug, sSub, sAsg, sFz, sFor, mOp, evA, evP, fill, evS, mTup, mLst, mV, mK, mT, mNot, mAnd, mOr, mAndV, mOrV, mNotV, mIf, mChain, mCall, mCallL, mCallR, mIsi, mIt, iAny, mSl, evO, mGet, mOwn, PV.val, ownV, setV, free, bindT, bindTs, wipeE, backE, R.bind, R.bs, Rs.bind, Oe.ev, Oe.sl, tYs, isLst, List.map_cons, List.map_nil, List.length_cons, List.length_nil, List.replicate, List.cons_append, List.nil_append, List.append_nil, List.getElem?_cons_zero, List.getElem?_cons_succ, List.getElem?_nil, List.set_cons_zero, List.set_cons_succ, Option.some.injEq, if_true, if_false, Bool.false_eq_true, Nat.sub_self, Nat.reduceSub, Nat.reduceAdd, Nat.reduceLT, reduceCtorEq, ite_true, ite_false, Bool.not_true, Bool.not_false, Option.bind_some, Option.map_some, ne_eq, not_false_eq_true, and_self, and_true, true_and, Nat.succ_ne_self, List.contains_cons, List.contains_nil, String.reduceBEq, Bool.or_true, Bool.true_or, Bool.or_false, Bool.false_or, Bool.and_true, Bool.and_false, Bool.false_and, Bool.true_and, beq_self_eq_true, subN, tyN, Nat.reduceEqDiff, in_nD], fun _ => rfl, fun _ => ⟨[.fz (lotD a), .fz (lotD b), .fz (.int i)], rfl, rfl⟩⟩
  have l3 : (nD (a.filter fun i => !decide (i ∈ b))).length + (nD (b.filter fun i => !decide (i ∈ a))).length ≤ lim := by
    rw [List.length_map, List.length_map]
    have h1 := List.length_filter_le (fun i => !decide (i ∈ b)) a
    have h2 := List.length_filter_le (fun i => !decide (i ∈ a)) b
    have := ha.len
    have := hb.len
    exact Nat.le_trans (show _ ≤ 48 by omega) (by decide)
  have o1 : oAdd [.lst (nD (a.filter fun i => !decide (i ∈ b))), .lst (nD (b.filter fun i => !decide (i ∈ a)))] = some (.lst (nD ((a.filter fun i => !decide (i ∈ b)) ++ b.filter fun i => !decide (i ∈ a)))) := by
    show (if _ then _ else _) = _
    rw [if_pos l3, ← List.map_append]
  have o2 : oSorted [.lst (nD ((a.filter fun i => !decide (i ∈ b)) ++ b.filter fun i => !decide (i ∈ a)))] = some (.lst (nD (bits (mask a ^^^ mask b)))) := by
    have nd : ((a.filter fun i => !decide (i ∈ b)) ++ b.filter fun i => !decide (i ∈ a)).Nodup := by
      rw [List.nodup_append]
      have na : a.Nodup := ha.1.imp fun z => by omega
      have nb : b.Nodup := hb.1.imp fun z => by omega
      refine ⟨na.filter _, nb.filter _, fun x hx y hy e => ?_⟩
      subst e
      have h1 := (List.mem_filter.mp hx).2
      have h2 := (List.mem_filter.mp hy).1
      simp [h2] at h1
    have e := srt_nat nd (bits_srt (mask a ^^^ mask b)) fun k => by
      rw [mem_bits (Nat.xor_lt_two_pow ha.lt hb.lt), Nat.testBit_xor, mask_bit ha.1, mask_bit hb.1, List.mem_append, List.mem_filter, List.mem_filter]
      by_cases h1 : k ∈ a <;> by_cases h2 : k ∈ b <;> simp [h1, h2]
    simp only [oSorted, lstD, Option.bind_some, intsD_nD, Option.map_some, e]
    rw [← nD_ints]
  simp only [f__law_lo_sum, m__law_lo_sum, mLc, runD, runF, runR, runRF, startE, rf0, sSeq, sNil, sPass, sEx, sRt, sRtN, sIf, sSet, sSetO, sPar, sAug, sSub, sAsg, sFz, sFor, mOp, evA, evP, fill, evS, mTup, mLst, mV, mK, mT, mNot, mAnd, mOr, mAndV, mOrV, mNotV, mIf, mChain, mCall, mCallL, mCallR, mIsi, mIt, iAny, mSl, evO, mGet, mOwn, PV.val, ownV, setV, free, bindT, bindTs, wipeE, backE, R.bind, R.bs, Rs.bind, Oe.ev, Oe.sl, tYs, isLst, List.map_cons, List.map_nil, List.length_cons, List.length_nil, List.replicate, List.cons_append, List.nil_append, List.append_nil, List.getElem?_cons_zero, List.getElem?_cons_succ, List.getElem?_nil, List.set_cons_zero, List.set_cons_succ, Option.some.injEq, if_true, if_false, Bool.false_eq_true, Nat.sub_self, Nat.reduceSub, Nat.reduceAdd, Nat.reduceLT, reduceCtorEq, ite_true, ite_false, Bool.not_true, Bool.not_false, Option.bind_some, Option.map_some, ne_eq, not_false_eq_true, and_self, and_true, true_and, Nat.succ_ne_self, List.contains_cons, List.contains_nil, String.reduceBEq, Bool.or_true, Bool.true_or, Bool.or_false, Bool.false_or, Bool.and_true, Bool.and_false, Bool.false_and, Bool.true_and, beq_self_eq_true, subN, tyN, Nat.reduceEqDiff, itD, seqD, la, lb, c1, c2, o1, o2, oTuple]
theorem lo_is_odd_ok {a b : List Nat} (ha : Lot 24 a) (hb : Lot 24 b) : f__law_lo_is_odd [lotD a, lotD b] = .ok (.bl (odd a b)) := by
  have la : (nD a).length ≤ lim := by
    rw [List.length_map]
    exact Nat.le_trans ha.len (by decide)
  have c1 : lcL (.n 2) (mT (mOp (inX false) [.s 2, .s 1])) (mV 2) [2] (nD a) [.fz (lotD a), .fz (lotD b), .no] = .ok (nD (a.filter fun i => decide (i ∈ b))) [.fz (lotD a), .fz (lotD b), .no] :=
    lcL_pure _ _ _ fun i hi => ⟨[.fz (lotD a), .fz (lotD b), .fz (.int i)], [.fz (lotD a), .fz (lotD b), .fz (.int i)], rfl, by simp only [runD, runF, runR, runRF, startE, rf0, sSeq, sNil, sPass, sEx, sRt, sRtN, sIf, sSet, sSetO, sPar, sAug, sSub, sAsg, sFz, sFor, mOp, evA, evP, fill, evS, mTup, mLst, mV, mK, mT, mNot, mAnd, mOr, mAndV, mOrV, mNotV, mIf, mChain, mCall, mCallL, mCallR, mIsi, mIt, iAny, mSl, evO, mGet, mOwn, PV.val, ownV, setV, free, bindT, bindTs, wipeE, backE, R.bind, R.bs, Rs.bind, Oe.ev, Oe.sl, tYs, isLst, List.map_cons, List.map_nil, List.length_cons, List.length_nil, List.replicate, List.cons_append, List.nil_append, List.append_nil, List.getElem?_cons_zero, List.getElem?_cons_succ, List.getElem?_nil, List.set_cons_zero, List.set_cons_succ, Option.some.injEq, if_true, if_false, Bool.false_eq_true, Nat.sub_self, Nat.reduceSub, Nat.reduceAdd, Nat.reduceLT, reduceCtorEq, ite_true, ite_false, Bool.not_true, Bool.not_false, Option.bind_some, Option.map_some, ne_eq, not_false_eq_true, and_self, and_true, true_and, Nat.succ_ne_self, List.contains_cons, List.contains_nil, String.reduceBEq, Bool.or_true, Bool.true_or, Bool.or_false, Bool.false_or, Bool.and_true, Bool.and_false, Bool.false_and, Bool.true_and, beq_self_eq_true, subN, tyN, Nat.reduceEqDiff, in_nD], fun _ => rfl, fun _ => ⟨[.fz (lotD a), .fz (lotD b), .fz (.int i)], rfl, rfl⟩⟩
  have e : bits (mask a &&& mask b) = a.filter fun i => decide (i ∈ b) := srt_uniq (bits_srt _) (ha.1.filter _) fun k => by
    rw [mem_bits (Nat.lt_of_le_of_lt Nat.and_le_left ha.lt), Nat.testBit_and, mask_bit ha.1, mask_bit hb.1, List.mem_filter]
    simp
  have e2 : cMod ((a.filter fun i => decide (i ∈ b)).length : Nat) 2 = true := rfl
  have e3 : odd a b = decide ((a.filter fun i => decide (i ∈ b)).length % 2 = 1) := by
    unfold odd
    rw [e]
  have la2 : a.length ≤ lim := Nat.le_trans ha.len (by decide)
  simp only [f__law_lo_is_odd, m__law_lo_is_odd, mLc, runD, runF, runR, runRF, startE, rf0, sSeq, sNil, sPass, sEx, sRt, sRtN, sIf, sSet, sSetO, sPar, sAug, sSub, sAsg, sFz, sFor, mOp, evA, evP, fill, evS, mTup, mLst, mV, mK, mT, mNot, mAnd, mOr, mAndV, mOrV, mNotV, mIf, mChain, mCall, mCallL, mCallR, mIsi, mIt, iAny, mSl, evO, mGet, mOwn, PV.val, ownV, setV, free, bindT, bindTs, wipeE, backE, R.bind, R.bs, Rs.bind, Oe.ev, Oe.sl, tYs, isLst, List.map_cons, List.map_nil, List.length_cons, List.length_nil, List.replicate, List.cons_append, List.nil_append, List.append_nil, List.getElem?_cons_zero, List.getElem?_cons_succ, List.getElem?_nil, List.set_cons_zero, List.set_cons_succ, Option.some.injEq, if_true, if_false, Bool.false_eq_true, Nat.sub_self, Nat.reduceSub, Nat.reduceAdd, Nat.reduceLT, reduceCtorEq, ite_true, ite_false, Bool.not_true, Bool.not_false, Option.bind_some, Option.map_some, ne_eq, not_false_eq_true, and_self, and_true, true_and, Nat.succ_ne_self, List.contains_cons, List.contains_nil, String.reduceBEq, Bool.or_true, Bool.true_or, Bool.or_false, Bool.false_or, Bool.and_true, Bool.and_false, Bool.false_and, Bool.true_and, beq_self_eq_true, subN, tyN, Nat.reduceEqDiff, itD, seqD, la2, c1, oLen, List.length_map, o2I, e2, odd_ok, e3]
/-! ### the tests over what is near -/
def okB (x : D) : Bool := (tyN x).isSome && (match x with
  | .tup ys => (ys.all fun y => (tyN y).isSome) && decide (ys.length < 64)
  | _ => true)
theorem okB_ty {x : D} (h : okB x = true) : tyN x ≠ none := fun z => by
  unfold okB at h
  rw [z] at h
  cases h
theorem okB_tup {x : D} (h : okB x = true) : ∀ xs, x = .tup xs → (∀ y ∈ xs, tyN y ≠ none) ∧ xs.length < 64 := fun xs e => by
  subst e
  unfold okB at h
  rw [Bool.and_eq_true] at h
  have h2 : ((xs.all fun y => (tyN y).isSome) && decide (xs.length < 64)) = true := h.2
  rw [Bool.and_eq_true, decide_eq_true_iff, List.all_eq_true] at h2
  exact ⟨fun y hy z => (by
    have := h2.1 y hy
    rw [z] at this
    cases this), h2.2⟩
theorem rising_okB {x : D} {many : Int} (h : okB x = true) : f_is_rising [x, .int many] = .ok (.bl (rise many x)) :=
  is_rising_ok (okB_ty h) fun xs e => ⟨(okB_tup h xs e).1, by have := (okB_tup h xs e).2; omega⟩
theorem lo_is_okB {x : D} {many : Int} (h : okB x = true) : f__law_lo_is [x, .int many] = .ok (.bl (rise many x)) := lo_is_ok (okB_ty h) (okB_tup h)
theorem require_many_ok {m : Nat} (h1 : 1 ≤ m) (h2 : m ≤ 24) : f_require_many [.int m] = .ok .non := by
  have hw := is_whole_ok (d := .int m) (by simp [tyN])
  have a1 : (1 : Int) ≤ m := by omega
  have a2 : (m : Int) ≤ 24 := by omega
  simp only at hw
  simp only [f_require_many, m_require_many, runD, runF, runR, runRF, startE, rf0, sSeq, sNil, sPass, sEx, sRt, sRtN, sIf, sSet, sSetO, sPar, sAug, sSub, sAsg, sFz, sFor, mOp, evA, evP, fill, evS, mTup, mLst, mV, mK, mT, mNot, mAnd, mOr, mAndV, mOrV, mNotV, mIf, mChain, mCall, mCallL, mCallR, mIsi, mIt, iAny, mSl, evO, mGet, mOwn, PV.val, ownV, setV, free, bindT, bindTs, wipeE, backE, R.bind, R.bs, Rs.bind, Oe.ev, Oe.sl, tYs, isLst, List.map_cons, List.map_nil, List.length_cons, List.length_nil, List.replicate, List.cons_append, List.nil_append, List.append_nil, List.getElem?_cons_zero, List.getElem?_cons_succ, List.getElem?_nil, List.set_cons_zero, List.set_cons_succ, Option.some.injEq, if_true, if_false, Bool.false_eq_true, Nat.sub_self, Nat.reduceSub, Nat.reduceAdd, Nat.reduceLT, reduceCtorEq, ite_true, ite_false, Bool.not_true, Bool.not_false, Option.bind_some, Option.map_some, ne_eq, not_false_eq_true, and_self, and_true, true_and, Nat.succ_ne_self, List.contains_cons, List.contains_nil, String.reduceBEq, Bool.or_true, Bool.true_or, Bool.or_false, Bool.false_or, Bool.and_true, Bool.and_false, Bool.false_and, Bool.true_and, beq_self_eq_true, subN, tyN, Nat.reduceEqDiff, hw, o2I, a1, a2, decide_true]
theorem is_lot_of_okB {x : D} {m : Nat} (h1 : 1 ≤ m) (h2 : m ≤ 24) (h : okB x = true) : f_is_lot_of [.int m, x] = .ok (.bl (rise m x)) := by
  simp only [f_is_lot_of, m_is_lot_of, runD, runF, runR, runRF, startE, rf0, sSeq, sNil, sPass, sEx, sRt, sRtN, sIf, sSet, sSetO, sPar, sAug, sSub, sAsg, sFz, sFor, mOp, evA, evP, fill, evS, mTup, mLst, mV, mK, mT, mNot, mAnd, mOr, mAndV, mOrV, mNotV, mIf, mChain, mCall, mCallL, mCallR, mIsi, mIt, iAny, mSl, evO, mGet, mOwn, PV.val, ownV, setV, free, bindT, bindTs, wipeE, backE, R.bind, R.bs, Rs.bind, Oe.ev, Oe.sl, tYs, isLst, List.map_cons, List.map_nil, List.length_cons, List.length_nil, List.replicate, List.cons_append, List.nil_append, List.append_nil, List.getElem?_cons_zero, List.getElem?_cons_succ, List.getElem?_nil, List.set_cons_zero, List.set_cons_succ, Option.some.injEq, if_true, if_false, Bool.false_eq_true, Nat.sub_self, Nat.reduceSub, Nat.reduceAdd, Nat.reduceLT, reduceCtorEq, ite_true, ite_false, Bool.not_true, Bool.not_false, Option.bind_some, Option.map_some, ne_eq, not_false_eq_true, and_self, and_true, true_and, Nat.succ_ne_self, List.contains_cons, List.contains_nil, String.reduceBEq, Bool.or_true, Bool.true_or, Bool.or_false, Bool.false_or, Bool.and_true, Bool.and_false, Bool.false_and, Bool.true_and, beq_self_eq_true, subN, tyN, Nat.reduceEqDiff, require_many_ok h1 h2, rising_okB h]
def areLots : D → Bool
  | .tup xs => decide (xs.length ≤ 64) && xs.all (rise 24)
  | _ => false
def okL (v : D) : Bool := (tyN v).isSome && (match v with
  | .tup xs => xs.all okB && decide (xs.length ≤ 1000)
  | _ => true)
theorem okL_tup {xs : List D} (h : okL (.tup xs) = true) : (∀ x ∈ xs, okB x = true) ∧ xs.length ≤ 1000 := by
  unfold okL at h
  rw [Bool.and_eq_true] at h
  have h2 : (xs.all okB && decide (xs.length ≤ 1000)) = true := h.2
  rw [Bool.and_eq_true, decide_eq_true_iff, List.all_eq_true] at h2
  exact h2
theorem are_lots_in_ok {v : D} (h : okL v = true) : f_are_lots_in [v] = .ok (.bl (areLots v)) := by
  cases v with
  | tup xs =>
    obtain ⟨hx, hl⟩ := okL_tup h
    have hl2 : xs.length ≤ lim := Nat.le_trans hl (by decide)
    have c1 : lcL (.n 1) tYs (mCall f_is_rising [mV 1, mK (.int 24)]) [1] xs [.fz (.tup xs), .no] = .ok ((xs.map (rise 24)).map D.bl) [.fz (.tup xs), .no] := by
      have := lcL_all (T := .n 1) (m := mCall f_is_rising [mV 1, mK (.int 24)]) (vs := [1]) (e := [.fz (.tup xs), .no]) (fun d => d) (fun d => D.bl (rise 24 d)) (ds := xs) fun d hd =>
        ⟨[.fz (.tup xs), .fz d], [.fz (.tup xs), .fz d], rfl, by simp only [runD, runF, runR, runRF, startE, rf0, sSeq, sNil, sPass, sEx, sRt, sRtN, sIf, sSet, sSetO, sPar, sAug, sSub, sAsg, sFz, sFor, mOp, evA, evP, fill, evS, mTup, mLst, mV, mK, mT, mNot, mAnd, mOr, mAndV, mOrV, mNotV, mIf, mChain, mCall, mCallL, mCallR, mIsi, mIt, iAny, mSl, evO, mGet, mOwn, PV.val, ownV, setV, free, bindT, bindTs, wipeE, backE, R.bind, R.bs, Rs.bind, Oe.ev, Oe.sl, tYs, isLst, List.map_cons, List.map_nil, List.length_cons, List.length_nil, List.replicate, List.cons_append, List.nil_append, List.append_nil, List.getElem?_cons_zero, List.getElem?_cons_succ, List.getElem?_nil, List.set_cons_zero, List.set_cons_succ, Option.some.injEq, if_true, if_false, Bool.false_eq_true, Nat.sub_self, Nat.reduceSub, Nat.reduceAdd, Nat.reduceLT, reduceCtorEq, ite_true, ite_false, Bool.not_true, Bool.not_false, Option.bind_some, Option.map_some, ne_eq, not_false_eq_true, and_self, and_true, true_and, Nat.succ_ne_self, List.contains_cons, List.contains_nil, String.reduceBEq, Bool.or_true, Bool.true_or, Bool.or_false, Bool.false_or, Bool.and_true, Bool.and_false, Bool.false_and, Bool.true_and, beq_self_eq_true, subN, tyN, Nat.reduceEqDiff, rising_okB (hx d hd)], rfl⟩
      rw [List.map_id'] at this
      rw [this, List.map_map]
      rfl
    have o1 : oAll [.lst ((xs.map (rise 24)).map D.bl)] = some (.bl (xs.all (rise 24))) := by
      simp only [oAll, lstD, Option.bind_some, blsD_map, Option.map_some, List.all_map]
      rfl
    have hq : ((xs.length : Int) ≤ 64) ↔ xs.length ≤ 64 := by omega
    by_cases q : xs.length ≤ 64
    · have q' := hq.mpr q
      simp only [f_are_lots_in, m_are_lots_in, mLc, runD, runF, runR, runRF, startE, rf0, sSeq, sNil, sPass, sEx, sRt, sRtN, sIf, sSet, sSetO, sPar, sAug, sSub, sAsg, sFz, sFor, mOp, evA, evP, fill, evS, mTup, mLst, mV, mK, mT, mNot, mAnd, mOr, mAndV, mOrV, mNotV, mIf, mChain, mCall, mCallL, mCallR, mIsi, mIt, iAny, mSl, evO, mGet, mOwn, PV.val, ownV, setV, free, bindT, bindTs, wipeE, backE, R.bind, R.bs, Rs.bind, Oe.ev, Oe.sl, tYs, isLst, List.map_cons, List.map_nil, List.length_cons, List.length_nil, List.replicate, List.cons_append, List.nil_append, List.append_nil, List.getElem?_cons_zero, List.getElem?_cons_succ, List.getElem?_nil, List.set_cons_zero, List.set_cons_succ, Option.some.injEq, if_true, if_false, Bool.false_eq_true, Nat.sub_self, Nat.reduceSub, Nat.reduceAdd, Nat.reduceLT, reduceCtorEq, ite_true, ite_false, Bool.not_true, Bool.not_false, Option.bind_some, Option.map_some, ne_eq, not_false_eq_true, and_self, and_true, true_and, Nat.succ_ne_self, List.contains_cons, List.contains_nil, String.reduceBEq, Bool.or_true, Bool.true_or, Bool.or_false, Bool.false_or, Bool.and_true, Bool.and_false, Bool.false_and, Bool.true_and, beq_self_eq_true, subN, tyN, Nat.reduceEqDiff, itD, seqD, hl2, c1, o1, oLen, o2I, q', decide_true, areLots, q]
    · have q' : ¬ ((xs.length : Int) ≤ 64) := fun z => q (hq.mp z)
      simp only [f_are_lots_in, m_are_lots_in, mLc, runD, runF, runR, runRF, startE, rf0, sSeq, sNil, sPass, sEx, sRt, sRtN, sIf, sSet, sSetO, sPar, sAug, sSub, sAsg, sFz, sFor, mOp, evA, evP, fill, evS, mTup, mLst, mV, mK, mT, mNot, mAnd, mOr, mAndV, mOrV, mNotV, mIf, mChain, mCall, mCallL, mCallR, mIsi, mIt, iAny, mSl, evO, mGet, mOwn, PV.val, ownV, setV, free, bindT, bindTs, wipeE, backE, R.bind, R.bs, Rs.bind, Oe.ev, Oe.sl, tYs, isLst, List.map_cons, List.map_nil, List.length_cons, List.length_nil, List.replicate, List.cons_append, List.nil_append, List.append_nil, List.getElem?_cons_zero, List.getElem?_cons_succ, List.getElem?_nil, List.set_cons_zero, List.set_cons_succ, Option.some.injEq, if_true, if_false, Bool.false_eq_true, Nat.sub_self, Nat.reduceSub, Nat.reduceAdd, Nat.reduceLT, reduceCtorEq, ite_true, ite_false, Bool.not_true, Bool.not_false, Option.bind_some, Option.map_some, ne_eq, not_false_eq_true, and_self, and_true, true_and, Nat.succ_ne_self, List.contains_cons, List.contains_nil, String.reduceBEq, Bool.or_true, Bool.true_or, Bool.or_false, Bool.false_or, Bool.and_true, Bool.and_false, Bool.false_and, Bool.true_and, beq_self_eq_true, subN, tyN, Nat.reduceEqDiff, itD, seqD, hl2, c1, o1, oLen, o2I, q', decide_false, areLots, q]
  | _ => first | (simp only [f_are_lots_in, m_are_lots_in, runD, runF, runR, runRF, startE, rf0, sSeq, sNil, sPass, sEx, sRt, sRtN, sIf, sSet, sSetO, sPar, sAug, sSub, sAsg, sFz, sFor, mOp, evA, evP, fill, evS, mTup, mLst, mV, mK, mT, mNot, mAnd, mOr, mAndV, mOrV, mNotV, mIf, mChain, mCall, mCallL, mCallR, mIsi, mIt, iAny, mSl, evO, mGet, mOwn, PV.val, ownV, setV, free, bindT, bindTs, wipeE, backE, R.bind, R.bs, Rs.bind, Oe.ev, Oe.sl, tYs, isLst, List.map_cons, List.map_nil, List.length_cons, List.length_nil, List.replicate, List.cons_append, List.nil_append, List.append_nil, List.getElem?_cons_zero, List.getElem?_cons_succ, List.getElem?_nil, List.set_cons_zero, List.set_cons_succ, Option.some.injEq, if_true, if_false, Bool.false_eq_true, Nat.sub_self, Nat.reduceSub, Nat.reduceAdd, Nat.reduceLT, reduceCtorEq, ite_true, ite_false, Bool.not_true, Bool.not_false, Option.bind_some, Option.map_some, ne_eq, not_false_eq_true, and_self, and_true, true_and, Nat.succ_ne_self, List.contains_cons, List.contains_nil, String.reduceBEq, Bool.or_true, Bool.true_or, Bool.or_false, Bool.false_or, Bool.and_true, Bool.and_false, Bool.false_and, Bool.true_and, beq_self_eq_true, subN, tyN, Nat.reduceEqDiff, areLots]; done) | exact absurd h Bool.false_ne_true
theorem are_lots_ok {v : D} (h : okL v = true) : f_are_lots [v] = .ok (.bl (areLots v)) := by
  simp only [f_are_lots, m_are_lots, runD, runF, runR, runRF, startE, rf0, sSeq, sNil, sPass, sEx, sRt, sRtN, sIf, sSet, sSetO, sPar, sAug, sSub, sAsg, sFz, sFor, mOp, evA, evP, fill, evS, mTup, mLst, mV, mK, mT, mNot, mAnd, mOr, mAndV, mOrV, mNotV, mIf, mChain, mCall, mCallL, mCallR, mIsi, mIt, iAny, mSl, evO, mGet, mOwn, PV.val, ownV, setV, free, bindT, bindTs, wipeE, backE, R.bind, R.bs, Rs.bind, Oe.ev, Oe.sl, tYs, isLst, List.map_cons, List.map_nil, List.length_cons, List.length_nil, List.replicate, List.cons_append, List.nil_append, List.append_nil, List.getElem?_cons_zero, List.getElem?_cons_succ, List.getElem?_nil, List.set_cons_zero, List.set_cons_succ, Option.some.injEq, if_true, if_false, Bool.false_eq_true, Nat.sub_self, Nat.reduceSub, Nat.reduceAdd, Nat.reduceLT, reduceCtorEq, ite_true, ite_false, Bool.not_true, Bool.not_false, Option.bind_some, Option.map_some, ne_eq, not_false_eq_true, and_self, and_true, true_and, Nat.succ_ne_self, List.contains_cons, List.contains_nil, String.reduceBEq, Bool.or_true, Bool.true_or, Bool.or_false, Bool.false_or, Bool.and_true, Bool.and_false, Bool.false_and, Bool.true_and, beq_self_eq_true, subN, tyN, Nat.reduceEqDiff, are_lots_in_ok h]
/-- a list that is asked whether it is empty: it need hold ints alone if it is not -/
theorem law_are_lots_ok {v : D} (h : okL v = true) (hd : ∀ xs, v = .tup xs → ∃ ps, toPs (xs.filter fun x => !rise 24 x) = some ps ∧ (SeqAt.shaped (.list ps) = true)) : f__law_are_lots [v] = .ok (.bl (areLots v)) := by
  cases v with
  | tup xs =>
    obtain ⟨hx, hl⟩ := okL_tup h
    obtain ⟨ps, h1, h2⟩ := hd xs rfl
    have hl2 : xs.length ≤ lim := Nat.le_trans hl (by decide)
    have c1 : lcL (.n 1) (mNot (mT (mCall f__law_lo_is [mV 1, mK (.int 24)]))) (mV 1) [1] xs [.fz (.tup xs), .no] = .ok (xs.filter fun x => !rise 24 x) [.fz (.tup xs), .no] := by
      have := lcL_pure (T := .n 1) (t := mNot (mT (mCall f__law_lo_is [mV 1, mK (.int 24)]))) (m := mV 1) (vs := [1]) (e := [.fz (.tup xs), .no]) (fun d => d) (fun x => !rise 24 x) (fun d => d) (ds := xs) fun d hd =>
        ⟨[.fz (.tup xs), .fz d], [.fz (.tup xs), .fz d], rfl, by simp only [runD, runF, runR, runRF, startE, rf0, sSeq, sNil, sPass, sEx, sRt, sRtN, sIf, sSet, sSetO, sPar, sAug, sSub, sAsg, sFz, sFor, mOp, evA, evP, fill, evS, mTup, mLst, mV, mK, mT, mNot, mAnd, mOr, mAndV, mOrV, mNotV, mIf, mChain, mCall, mCallL, mCallR, mIsi, mIt, iAny, mSl, evO, mGet, mOwn, PV.val, ownV, setV, free, bindT, bindTs, wipeE, backE, R.bind, R.bs, Rs.bind, Oe.ev, Oe.sl, tYs, isLst, List.map_cons, List.map_nil, List.length_cons, List.length_nil, List.replicate, List.cons_append, List.nil_append, List.append_nil, List.getElem?_cons_zero, List.getElem?_cons_succ, List.getElem?_nil, List.set_cons_zero, List.set_cons_succ, Option.some.injEq, if_true, if_false, Bool.false_eq_true, Nat.sub_self, Nat.reduceSub, Nat.reduceAdd, Nat.reduceLT, reduceCtorEq, ite_true, ite_false, Bool.not_true, Bool.not_false, Option.bind_some, Option.map_some, ne_eq, not_false_eq_true, and_self, and_true, true_and, Nat.succ_ne_self, List.contains_cons, List.contains_nil, String.reduceBEq, Bool.or_true, Bool.true_or, Bool.or_false, Bool.false_or, Bool.and_true, Bool.and_false, Bool.false_and, Bool.true_and, beq_self_eq_true, subN, tyN, Nat.reduceEqDiff, lo_is_okB (hx d hd)], fun _ => rfl, fun _ => ⟨[.fz (.tup xs), .fz d], rfl, rfl⟩⟩
      rw [List.map_id', List.map_id'] at this
      exact this
    have o1 : oEq [.lst (xs.filter fun x => !rise 24 x), .lst []] = some (.bl (xs.all (rise 24))) := by
      have e : eqD (.lst (xs.filter fun x => !rise 24 x)) (.lst []) = some (xs.all (rise 24)) := by
        unfold eqD
        have t1 : toP (.lst (xs.filter fun x => !rise 24 x)) = some (.list ps) := by
          unfold toP
          rw [h1]
          rfl
        have t2 : toP (.lst []) = some (.list []) := rfl
        have t3 : SeqAt.shaped (.list []) = true := by decide
        rw [t1, t2]
        show (if SeqAt.shaped (.list ps) = true ∧ SeqAt.shaped (.list []) = true then some (PyData.eqv (.list ps) (.list [])) else none) = _
        rw [if_pos ⟨h2, t3⟩]
        unfold PyData.eqv
        have len : ∀ {ds : List D} {ps : List PyData}, toPs ds = some ps → (ps = [] ↔ ds = []) := fun {ds ps} z => by
          cases ds with
          | nil =>
            cases z
            simp
          | cons d r =>
            unfold toPs at z
            split at z
            · cases z
              simp
            · cases z
        cases q : ps with
        | nil =>
          have := (len h1).mp q
          unfold PyData.eqvAll
          rw [eq_comm, Option.some.injEq, List.all_eq_true]
          intro x hx
          have := List.filter_eq_nil_iff.mp this x hx
          simpa using this
        | cons p r =>
          unfold PyData.eqvAll
          rw [Option.some.injEq, eq_comm, List.all_eq_false]
          have ne : xs.filter (fun x => !rise 24 x) ≠ [] := fun z => by
            rw [(len h1).mpr z] at q
            cases q
          obtain ⟨x, hx⟩ := List.exists_mem_of_ne_nil _ ne
          obtain ⟨hx1, hx2⟩ := List.mem_filter.mp hx
          exact ⟨x, hx1, by simpa using hx2⟩
      simp only [oEq, e, Option.map_some]
    have hq : (64 < (xs.length : Int)) ↔ ¬ xs.length ≤ 64 := by omega
    by_cases q : xs.length ≤ 64
    · have q' : ¬ (64 < (xs.length : Int)) := fun z => hq.mp z q
      simp only [f__law_are_lots, m__law_are_lots, mLc, runD, runF, runR, runRF, startE, rf0, sSeq, sNil, sPass, sEx, sRt, sRtN, sIf, sSet, sSetO, sPar, sAug, sSub, sAsg, sFz, sFor, mOp, evA, evP, fill, evS, mTup, mLst, mV, mK, mT, mNot, mAnd, mOr, mAndV, mOrV, mNotV, mIf, mChain, mCall, mCallL, mCallR, mIsi, mIt, iAny, mSl, evO, mGet, mOwn, PV.val, ownV, setV, free, bindT, bindTs, wipeE, backE, R.bind, R.bs, Rs.bind, Oe.ev, Oe.sl, tYs, isLst, List.map_cons, List.map_nil, List.length_cons, List.length_nil, List.replicate, List.cons_append, List.nil_append, List.append_nil, List.getElem?_cons_zero, List.getElem?_cons_succ, List.getElem?_nil, List.set_cons_zero, List.set_cons_succ, Option.some.injEq, if_true, if_false, Bool.false_eq_true, Nat.sub_self, Nat.reduceSub, Nat.reduceAdd, Nat.reduceLT, reduceCtorEq, ite_true, ite_false, Bool.not_true, Bool.not_false, Option.bind_some, Option.map_some, ne_eq, not_false_eq_true, and_self, and_true, true_and, Nat.succ_ne_self, List.contains_cons, List.contains_nil, String.reduceBEq, Bool.or_true, Bool.true_or, Bool.or_false, Bool.false_or, Bool.and_true, Bool.and_false, Bool.false_and, Bool.true_and, beq_self_eq_true, subN, tyN, Nat.reduceEqDiff, itD, seqD, hl2, c1, o1, oLen, o2I, q', decide_false, areLots, q, decide_true]
    · have q' := hq.mpr q
      simp only [f__law_are_lots, m__law_are_lots, mLc, runD, runF, runR, runRF, startE, rf0, sSeq, sNil, sPass, sEx, sRt, sRtN, sIf, sSet, sSetO, sPar, sAug, sSub, sAsg, sFz, sFor, mOp, evA, evP, fill, evS, mTup, mLst, mV, mK, mT, mNot, mAnd, mOr, mAndV, mOrV, mNotV, mIf, mChain, mCall, mCallL, mCallR, mIsi, mIt, iAny, mSl, evO, mGet, mOwn, PV.val, ownV, setV, free, bindT, bindTs, wipeE, backE, R.bind, R.bs, Rs.bind, Oe.ev, Oe.sl, tYs, isLst, List.map_cons, List.map_nil, List.length_cons, List.length_nil, List.replicate, List.cons_append, List.nil_append, List.append_nil, List.getElem?_cons_zero, List.getElem?_cons_succ, List.getElem?_nil, List.set_cons_zero, List.set_cons_succ, Option.some.injEq, if_true, if_false, Bool.false_eq_true, Nat.sub_self, Nat.reduceSub, Nat.reduceAdd, Nat.reduceLT, reduceCtorEq, ite_true, ite_false, Bool.not_true, Bool.not_false, Option.bind_some, Option.map_some, ne_eq, not_false_eq_true, and_self, and_true, true_and, Nat.succ_ne_self, List.contains_cons, List.contains_nil, String.reduceBEq, Bool.or_true, Bool.true_or, Bool.or_false, Bool.false_or, Bool.and_true, Bool.and_false, Bool.false_and, Bool.true_and, beq_self_eq_true, subN, tyN, Nat.reduceEqDiff, itD, seqD, hl2, c1, o1, oLen, o2I, q', decide_true, areLots, q, decide_false]
  | _ => first | (simp only [f__law_are_lots, m__law_are_lots, runD, runF, runR, runRF, startE, rf0, sSeq, sNil, sPass, sEx, sRt, sRtN, sIf, sSet, sSetO, sPar, sAug, sSub, sAsg, sFz, sFor, mOp, evA, evP, fill, evS, mTup, mLst, mV, mK, mT, mNot, mAnd, mOr, mAndV, mOrV, mNotV, mIf, mChain, mCall, mCallL, mCallR, mIsi, mIt, iAny, mSl, evO, mGet, mOwn, PV.val, ownV, setV, free, bindT, bindTs, wipeE, backE, R.bind, R.bs, Rs.bind, Oe.ev, Oe.sl, tYs, isLst, List.map_cons, List.map_nil, List.length_cons, List.length_nil, List.replicate, List.cons_append, List.nil_append, List.append_nil, List.getElem?_cons_zero, List.getElem?_cons_succ, List.getElem?_nil, List.set_cons_zero, List.set_cons_succ, Option.some.injEq, if_true, if_false, Bool.false_eq_true, Nat.sub_self, Nat.reduceSub, Nat.reduceAdd, Nat.reduceLT, reduceCtorEq, ite_true, ite_false, Bool.not_true, Bool.not_false, Option.bind_some, Option.map_some, ne_eq, not_false_eq_true, and_self, and_true, true_and, Nat.succ_ne_self, List.contains_cons, List.contains_nil, String.reduceBEq, Bool.or_true, Bool.true_or, Bool.or_false, Bool.false_or, Bool.and_true, Bool.and_false, Bool.false_and, Bool.true_and, beq_self_eq_true, subN, tyN, Nat.reduceEqDiff, areLots]; done) | exact absurd h Bool.false_ne_true
end K00

namespace K00
open PySem L2 PV BM
/-! ### sums of a pick -/
abbrev lotsD (lots : List (List Nat)) : D := .tup (lots.map lotD)
def Lots (lots : List (List Nat)) : Prop := (∀ l ∈ lots, Lot 24 l) ∧ lots.length ≤ 60
theorem okB_lot {l : List Nat} (h : l.length < 64) : okB (lotD l) = true := by
  unfold okB
  show ((some "tuple").isSome && (((nD l).all fun y => (tyN y).isSome) && decide ((nD l).length < 64))) = true
  rw [List.length_map, decide_eq_true h, Bool.and_true]
  show (nD l).all _ = true
  rw [List.all_eq_true]
  intro x hx
  obtain ⟨i, _, rfl⟩ := List.mem_map.mp hx
  rfl
theorem okL_lots {lots : List (List Nat)} (h : Lots lots) : okL (lotsD lots) = true := by
  unfold okL
  show ((some "tuple").isSome && ((lots.map lotD).all okB && decide ((lots.map lotD).length ≤ 1000))) = true
  have := h.2
  rw [List.length_map, decide_eq_true (by omega), Bool.and_true]
  show (lots.map lotD).all okB = true
  rw [List.all_eq_true]
  intro x hx
  obtain ⟨l, hl, rfl⟩ := List.mem_map.mp hx
  exact okB_lot (Nat.lt_of_le_of_lt (h.1 l hl).len (by decide))
theorem rise_all {lots : List (List Nat)} (h : ∀ l ∈ lots, Lot 24 l) : (lots.map lotD).all (rise 24) = true := by
  rw [List.all_eq_true]
  intro x hx
  obtain ⟨l, hl, rfl⟩ := List.mem_map.mp hx
  exact rise_lot (h l hl)
theorem areLots_lots {lots : List (List Nat)} (h : Lots lots) : areLots (lotsD lots) = true := by
  show (decide ((lots.map lotD).length ≤ 64) && (lots.map lotD).all (rise 24)) = true
  have := h.2
  rw [rise_all h.1, List.length_map, decide_eq_true (by omega)]
  rfl
theorem require_lots_ok {lots : List (List Nat)} (h : Lots lots) : f_require_lots [lotsD lots] = .ok .non := by
  simp only [f_require_lots, m_require_lots, runD, runF, runR, runRF, startE, rf0, sSeq, sNil, sPass, sEx, sRt, sRtN, sIf, sSet, sSetO, sPar, sAug, sSub, sAsg, sFz, sFor, mOp, evA, evP, fill, evS, mTup, mLst, mV, mK, mT, mNot, mAnd, mOr, mAndV, mOrV, mNotV, mIf, mChain, mCall, mCallL, mCallR, mIsi, mIt, iAny, mSl, evO, mGet, mOwn, PV.val, ownV, setV, free, bindT, bindTs, wipeE, backE, R.bind, R.bs, Rs.bind, Oe.ev, Oe.sl, tYs, isLst, List.map_cons, List.map_nil, List.length_cons, List.length_nil, List.replicate, List.cons_append, List.nil_append, List.append_nil, List.getElem?_cons_zero, List.getElem?_cons_succ, List.getElem?_nil, List.set_cons_zero, List.set_cons_succ, Option.some.injEq, if_true, if_false, Bool.false_eq_true, Nat.sub_self, Nat.reduceSub, Nat.reduceAdd, Nat.reduceLT, reduceCtorEq, ite_true, ite_false, Bool.not_true, Bool.not_false, Option.bind_some, Option.map_some, ne_eq, not_false_eq_true, and_self, and_true, true_and, Nat.succ_ne_self, List.contains_cons, List.contains_nil, String.reduceBEq, Bool.or_true, Bool.true_or, Bool.or_false, Bool.false_or, Bool.and_true, Bool.and_false, Bool.false_and, Bool.true_and, beq_self_eq_true, subN, tyN, Nat.reduceEqDiff, are_lots_in_ok (okL_lots h), areLots_lots h]
theorem masks_of_ok {lots : List (List Nat)} (h : Lots lots) : f_masks_of [lotsD lots] = .ok (.lst (lots.map fun l => .int (mask l))) := by
  have c1 : lcL (.n 1) tYs (mCall f_mask_of [mV 1]) [1] (lots.map lotD) [.fz (lotsD lots), .no] = .ok (lots.map fun l => .int (mask l)) [.fz (lotsD lots), .no] :=
    lcL_all _ _ fun l hl => ⟨[.fz (lotsD lots), .fz (lotD l)], [.fz (lotsD lots), .fz (lotD l)], rfl, by simp only [runD, runF, runR, runRF, startE, rf0, sSeq, sNil, sPass, sEx, sRt, sRtN, sIf, sSet, sSetO, sPar, sAug, sSub, sAsg, sFz, sFor, mOp, evA, evP, fill, evS, mTup, mLst, mV, mK, mT, mNot, mAnd, mOr, mAndV, mOrV, mNotV, mIf, mChain, mCall, mCallL, mCallR, mIsi, mIt, iAny, mSl, evO, mGet, mOwn, PV.val, ownV, setV, free, bindT, bindTs, wipeE, backE, R.bind, R.bs, Rs.bind, Oe.ev, Oe.sl, tYs, isLst, List.map_cons, List.map_nil, List.length_cons, List.length_nil, List.replicate, List.cons_append, List.nil_append, List.append_nil, List.getElem?_cons_zero, List.getElem?_cons_succ, List.getElem?_nil, List.set_cons_zero, List.set_cons_succ, Option.some.injEq, if_true, if_false, Bool.false_eq_true, Nat.sub_self, Nat.reduceSub, Nat.reduceAdd, Nat.reduceLT, reduceCtorEq, ite_true, ite_false, Bool.not_true, Bool.not_false, Option.bind_some, Option.map_some, ne_eq, not_false_eq_true, and_self, and_true, true_and, Nat.succ_ne_self, List.contains_cons, List.contains_nil, String.reduceBEq, Bool.or_true, Bool.true_or, Bool.or_false, Bool.false_or, Bool.and_true, Bool.and_false, Bool.false_and, Bool.true_and, beq_self_eq_true, subN, tyN, Nat.reduceEqDiff, (h.1 l hl).mk], rfl⟩
  have l1 : (lots.map lotD).length ≤ lim := by
    rw [List.length_map]
    exact Nat.le_trans h.2 (by decide)
  simp only [f_masks_of, m_masks_of, mLc, runD, runF, runR, runRF, startE, rf0, sSeq, sNil, sPass, sEx, sRt, sRtN, sIf, sSet, sSetO, sPar, sAug, sSub, sAsg, sFz, sFor, mOp, evA, evP, fill, evS, mTup, mLst, mV, mK, mT, mNot, mAnd, mOr, mAndV, mOrV, mNotV, mIf, mChain, mCall, mCallL, mCallR, mIsi, mIt, iAny, mSl, evO, mGet, mOwn, PV.val, ownV, setV, free, bindT, bindTs, wipeE, backE, R.bind, R.bs, Rs.bind, Oe.ev, Oe.sl, tYs, isLst, List.map_cons, List.map_nil, List.length_cons, List.length_nil, List.replicate, List.cons_append, List.nil_append, List.append_nil, List.getElem?_cons_zero, List.getElem?_cons_succ, List.getElem?_nil, List.set_cons_zero, List.set_cons_succ, Option.some.injEq, if_true, if_false, Bool.false_eq_true, Nat.sub_self, Nat.reduceSub, Nat.reduceAdd, Nat.reduceLT, reduceCtorEq, ite_true, ite_false, Bool.not_true, Bool.not_false, Option.bind_some, Option.map_some, ne_eq, not_false_eq_true, and_self, and_true, true_and, Nat.succ_ne_self, List.contains_cons, List.contains_nil, String.reduceBEq, Bool.or_true, Bool.true_or, Bool.or_false, Bool.false_or, Bool.and_true, Bool.and_false, Bool.false_and, Bool.true_and, beq_self_eq_true, subN, tyN, Nat.reduceEqDiff, itD, seqD, l1, c1]
def xf (lots : List (List Nat)) (pick : List Nat) : Nat := pick.foldl (fun a i => a ^^^ mask (lots.getD i [])) 0
theorem xf_snoc (lots : List (List Nat)) (p : List Nat) (i : Nat) : xf lots (p ++ [i]) = xf lots p ^^^ mask (lots.getD i []) := by
  unfold xf
  rw [List.foldl_append]
  rfl
theorem Lots.at {lots : List (List Nat)} (h : Lots lots) (i : Nat) : Lot 24 (lots.getD i []) := by
  rw [List.getD_eq_getElem?_getD]
  cases q : lots[i]? with
  | none => exact ⟨.nil, fun _ z => nomatch z⟩
  | some l => exact h.1 l (List.mem_of_getElem? q)
theorem xf_lt {lots : List (List Nat)} (h : Lots lots) (pick : List Nat) : xf lots pick < 2 ^ 64 := by
  have : ∀ (pick : List Nat) (a : Nat), a < 2 ^ 64 → pick.foldl (fun a i => a ^^^ mask (lots.getD i [])) a < 2 ^ 64 := by
    intro pick
    induction pick with
    | nil => exact fun a ha => ha
    | cons i r ih => exact fun a ha => ih _ (Nat.xor_lt_two_pow ha (h.at i).lt)
  exact this pick 0 (by decide)
theorem getD_map {α β : Type} (f : α → β) {l : List α} {i : Nat} (hi : i < l.length) (d : α) : (l.map f)[i]? = some (f (l.getD i d)) := by
  rw [List.getElem?_map, List.getD_eq_getElem?_getD, List.getElem?_eq_getElem hi]
  rfl
theorem sum_of_masks_ok {lots : List (List Nat)} {pick : List Nat} (h : Lots lots) (hp : ∀ i ∈ pick, i < lots.length) : f_sum_of_masks [.lst (lots.map fun l => .int (mask l)), lotD pick] = .ok (.int (xf lots pick)) := by
  have lp := forL_inv (T := .n 3) (m := sAug 2 oXor (mOp oIxx [.s 0, .s 3])) (fun ds e => ∃ (done r : List Nat) (x : Sl), pick = done ++ r ∧ ds = nD r ∧ e = [.fz (.lst (lots.map fun l => .int (mask l))), .fz (lotD pick), .fz (.int (xf lots done)), x] ∧ (x = .no ∨ ∃ d, x = .fz d)) (by
      rintro d r e ⟨done, rr, x, e1, e2, rfl, hx⟩
      cases rr with
      | nil => cases e2
      | cons i rr =>
        cases e2
        have hi : i < lots.length := hp i (by rw [e1]; simp)
        have ea : L2.atI (lots.map fun l => D.int (mask l)) (i : Int) = some (.int (mask (lots.getD i []))) := atI_nat (getD_map (fun l => D.int (mask l)) hi [])
        refine ⟨[.fz (.lst (lots.map fun l => .int (mask l))), .fz (lotD pick), .fz (.int (xf lots done)), .fz (.int i)], [.fz (.lst (lots.map fun l => .int (mask l))), .fz (lotD pick), .fz (.int (xf lots (done ++ [i]))), .fz (.int i)], ?_, .inl ?_, done ++ [i], rr, _, ?_, rfl, rfl, .inr ⟨_, rfl⟩⟩
        · rcases hx with rfl | ⟨d, rfl⟩ <;> rfl
        · rw [xf_snoc]
          simp only [runD, runF, runR, runRF, startE, rf0, sSeq, sNil, sPass, sEx, sRt, sRtN, sIf, sSet, sSetO, sPar, sAug, sSub, sAsg, sFz, sFor, mOp, evA, evP, fill, evS, mTup, mLst, mV, mK, mT, mNot, mAnd, mOr, mAndV, mOrV, mNotV, mIf, mChain, mCall, mCallL, mCallR, mIsi, mIt, iAny, mSl, evO, mGet, mOwn, PV.val, ownV, setV, free, bindT, bindTs, wipeE, backE, R.bind, R.bs, Rs.bind, Oe.ev, Oe.sl, tYs, isLst, List.map_cons, List.map_nil, List.length_cons, List.length_nil, List.replicate, List.cons_append, List.nil_append, List.append_nil, List.getElem?_cons_zero, List.getElem?_cons_succ, List.getElem?_nil, List.set_cons_zero, List.set_cons_succ, Option.some.injEq, if_true, if_false, Bool.false_eq_true, Nat.sub_self, Nat.reduceSub, Nat.reduceAdd, Nat.reduceLT, reduceCtorEq, ite_true, ite_false, Bool.not_true, Bool.not_false, Option.bind_some, Option.map_some, ne_eq, not_false_eq_true, and_self, and_true, true_and, Nat.succ_ne_self, List.contains_cons, List.contains_nil, String.reduceBEq, Bool.or_true, Bool.true_or, Bool.or_false, Bool.false_or, Bool.and_true, Bool.and_false, Bool.false_and, Bool.true_and, beq_self_eq_true, subN, tyN, Nat.reduceEqDiff, oIxx, oIx, atD, seqD, ea, o2I, bxor]
        · rw [e1, List.append_assoc]
          rfl) (nD pick) [.fz (.lst (lots.map fun l => .int (mask l))), .fz (lotD pick), .fz (.int 0), .no] ⟨[], pick, .no, rfl, rfl, rfl, .inl rfl⟩
  obtain ⟨e', h1, done, r, x, e1, e2, rfl, _⟩ := lp
  have : r = [] := List.map_eq_nil_iff.mp e2.symm
  subst this
  rw [List.append_nil] at e1
  subst e1
  simp only [f_sum_of_masks, m_sum_of_masks, runD, runF, runR, runRF, startE, rf0, sSeq, sNil, sPass, sEx, sRt, sRtN, sIf, sSet, sSetO, sPar, sAug, sSub, sAsg, sFz, sFor, mOp, evA, evP, fill, evS, mTup, mLst, mV, mK, mT, mNot, mAnd, mOr, mAndV, mOrV, mNotV, mIf, mChain, mCall, mCallL, mCallR, mIsi, mIt, iAny, mSl, evO, mGet, mOwn, PV.val, ownV, setV, free, bindT, bindTs, wipeE, backE, R.bind, R.bs, Rs.bind, Oe.ev, Oe.sl, tYs, isLst, List.map_cons, List.map_nil, List.length_cons, List.length_nil, List.replicate, List.cons_append, List.nil_append, List.append_nil, List.getElem?_cons_zero, List.getElem?_cons_succ, List.getElem?_nil, List.set_cons_zero, List.set_cons_succ, Option.some.injEq, if_true, if_false, Bool.false_eq_true, Nat.sub_self, Nat.reduceSub, Nat.reduceAdd, Nat.reduceLT, reduceCtorEq, ite_true, ite_false, Bool.not_true, Bool.not_false, Option.bind_some, Option.map_some, ne_eq, not_false_eq_true, and_self, and_true, true_and, Nat.succ_ne_self, List.contains_cons, List.contains_nil, String.reduceBEq, Bool.or_true, Bool.true_or, Bool.or_false, Bool.false_or, Bool.and_true, Bool.and_false, Bool.false_and, Bool.true_and, beq_self_eq_true, subN, tyN, Nat.reduceEqDiff, itD, seqD, h1]
theorem sum_of_pick_ok {lots : List (List Nat)} {pick : List Nat} (h : Lots lots) (hp : Lot lots.length pick) : f_sum_of_pick [lotsD lots, lotD pick] = .ok (lotD (bits (xf lots pick))) := by
  have r1 := is_rising_lot hp (Nat.le_trans h.2 (by decide))
  have o1 : oLen [lotsD lots] = some (.int lots.length) := by
    show some (D.int (((lots.map lotD).length : Nat) : Int)) = _
    rw [List.length_map]
  simp only [f_sum_of_pick, m_sum_of_pick, runD, runF, runR, runRF, startE, rf0, sSeq, sNil, sPass, sEx, sRt, sRtN, sIf, sSet, sSetO, sPar, sAug, sSub, sAsg, sFz, sFor, mOp, evA, evP, fill, evS, mTup, mLst, mV, mK, mT, mNot, mAnd, mOr, mAndV, mOrV, mNotV, mIf, mChain, mCall, mCallL, mCallR, mIsi, mIt, iAny, mSl, evO, mGet, mOwn, PV.val, ownV, setV, free, bindT, bindTs, wipeE, backE, R.bind, R.bs, Rs.bind, Oe.ev, Oe.sl, tYs, isLst, List.map_cons, List.map_nil, List.length_cons, List.length_nil, List.replicate, List.cons_append, List.nil_append, List.append_nil, List.getElem?_cons_zero, List.getElem?_cons_succ, List.getElem?_nil, List.set_cons_zero, List.set_cons_succ, Option.some.injEq, if_true, if_false, Bool.false_eq_true, Nat.sub_self, Nat.reduceSub, Nat.reduceAdd, Nat.reduceLT, reduceCtorEq, ite_true, ite_false, Bool.not_true, Bool.not_false, Option.bind_some, Option.map_some, ne_eq, not_false_eq_true, and_self, and_true, true_and, Nat.succ_ne_self, List.contains_cons, List.contains_nil, String.reduceBEq, Bool.or_true, Bool.true_or, Bool.or_false, Bool.false_or, Bool.and_true, Bool.and_false, Bool.false_and, Bool.true_and, beq_self_eq_true, subN, tyN, Nat.reduceEqDiff, require_lots_ok h, o1, r1, masks_of_ok h, sum_of_masks_ok h hp.2, lot_of_ok (xf_lt h pick)]
end K00

namespace K00
open PySem L2 PV BM
/-! ### the law's own total: counts in a dict -/
abbrev kvD (m : List (Nat × Nat)) : List (Key × D) := m.map fun p => (.inl (p.1 : Int), .int p.2)
def cnt (m : List (Nat × Nat)) (k : Nat) : Option Nat := match m with
  | [] => none
  | (j, c) :: r => if j = k then some c else cnt r k
theorem valD_kv (k : Nat) : ∀ m : List (Nat × Nat), valD (kvD m) (.inl (k : Int)) = (cnt m k).map fun (c : Nat) => D.int c
  | [] => rfl
  | (j, c) :: r => by
    show (if (Sum.inl (j : Int) : Key) = .inl (k : Int) then some (D.int c) else valD (kvD r) (.inl (k : Int))) = (if j = k then some c else cnt r k).map fun (c : Nat) => D.int c
    by_cases h : j = k
    · subst h
      rw [if_pos rfl, if_pos rfl]
      rfl
    · have : ¬ (Sum.inl (j : Int) : Key) = .inl (k : Int) := fun z => h (by have := Sum.inl.inj z; omega)
      rw [if_neg h, if_neg this, valD_kv k r]
def bump (m : List (Nat × Nat)) (k : Nat) : List (Nat × Nat) := if (cnt m k).isSome = true then m.map (fun p => if p.1 = k then (p.1, p.2 + 1) else p) else m ++ [(k, 1)]
theorem cnt_none {k : Nat} : ∀ {m : List (Nat × Nat)}, cnt m k = none ↔ k ∉ m.map Prod.fst
  | [] => by simp [cnt]
  | (j, c) :: r => by
    show (if j = k then some c else cnt r k) = none ↔ _
    rw [List.map_cons, List.mem_cons, not_or]
    by_cases h : j = k
    · subst h
      simp
    · rw [if_neg h, cnt_none]
      exact ⟨fun z => ⟨fun e => h e.symm, z⟩, fun z => z.2⟩
theorem cnt_mem {k c : Nat} : ∀ {m : List (Nat × Nat)}, (m.map Prod.fst).Nodup → (cnt m k = some c ↔ (k, c) ∈ m)
  | [], _ => by simp [cnt]
  | (j, b) :: r, h => by
    rw [List.map_cons, List.nodup_cons] at h
    show (if j = k then some b else cnt r k) = some c ↔ _
    rw [List.mem_cons, Prod.mk.injEq]
    by_cases e : j = k
    · subst e
      rw [if_pos rfl, Option.some.injEq]
      constructor
      · exact fun z => .inl ⟨rfl, z.symm⟩
      · rintro (⟨_, z⟩ | z)
        · exact z.symm
        · exact absurd (List.mem_map_of_mem (f := Prod.fst) z) h.1
    · rw [if_neg e, cnt_mem h.2]
      exact ⟨.inr, fun z => z.resolve_left fun y => e y.1.symm⟩
theorem putD_bump (m : List (Nat × Nat)) (k : Nat) (hn : (m.map Prod.fst).Nodup) : putD (kvD m) (.inl (k : Int)) (.int (((cnt m k).getD 0 : Nat) + 1)) = kvD (bump m k) := by
  unfold putD bump
  rw [valD_kv]
  cases q : cnt m k with
  | none =>
    simp only [Option.map_none, Option.isSome_none, Bool.false_eq_true, if_false, Option.getD_none, kvD, List.map_append, List.map_cons, List.map_nil]
    rfl
  | some c =>
    simp only [Option.map_some, Option.isSome_some, if_true, Option.getD_some, kvD, List.map_map]
    apply List.map_congr_left
    intro p hp
    show (if (Sum.inl (p.1 : Int) : Key) = .inl (k : Int) then _ else _) = _
    by_cases h : p.1 = k
    · have hc : p.2 = c := by
        have : (k, p.2) ∈ m := by rw [← h]; exact hp
        have := (cnt_mem hn).mpr this
        rw [q] at this
        exact (Option.some.inj this).symm
      have e : (Sum.inl (p.1 : Int) : Key) = .inl (k : Int) := by rw [h]
      rw [if_pos e]
      show _ = ((Sum.inl (((if p.1 = k then (p.1, p.2 + 1) else p)).1 : Int) : Key), D.int (((if p.1 = k then (p.1, p.2 + 1) else p)).2))
      rw [if_pos h, hc]
      rfl
    · have e : ¬ (Sum.inl (p.1 : Int) : Key) = .inl (k : Int) := fun z => h (by have := Sum.inl.inj z; omega)
      rw [if_neg e]
      show _ = ((Sum.inl (((if p.1 = k then (p.1, p.2 + 1) else p)).1 : Int) : Key), D.int (((if p.1 = k then (p.1, p.2 + 1) else p)).2))
      rw [if_neg h]
/-- the counts of what was seen -/
structure Cnt (m : List (Nat × Nat)) (s : List Nat) : Prop where
  nd : (m.map Prod.fst).Nodup
  at_ : ∀ k, (cnt m k).getD 0 = s.count k
  mem : ∀ k, k ∈ m.map Prod.fst ↔ k ∈ s
theorem Cnt.nil : Cnt [] [] := ⟨by simp, fun _ => rfl, fun _ => by simp⟩
theorem bump_fst (m : List (Nat × Nat)) (k : Nat) : (bump m k).map Prod.fst = if (cnt m k).isSome = true then m.map Prod.fst else m.map Prod.fst ++ [k] := by
  unfold bump
  split
  · rw [List.map_map]
    apply List.map_congr_left
    intro p _
    show (if p.1 = k then (p.1, p.2 + 1) else p).1 = p.1
    split <;> rfl
  · rw [List.map_append]
    rfl
theorem cnt_bump (k j : Nat) : ∀ {m : List (Nat × Nat)}, cnt (m.map fun p => if p.1 = k then (p.1, p.2 + 1) else p) j = (cnt m j).map fun c => if j = k then c + 1 else c
  | [] => rfl
  | (i, c) :: r => by
    have ih := cnt_bump k j (m := r)
    rw [List.map_cons]
    by_cases h : i = k
    · subst h
      rw [if_pos rfl]
      show (if i = j then some (c + 1) else cnt _ j) = (if i = j then some c else cnt r j).map _
      by_cases h2 : i = j
      · subst h2
        rw [if_pos rfl, if_pos rfl, Option.map_some, if_pos rfl]
      · rw [if_neg h2, if_neg h2, ih]
    · rw [if_neg h]
      show (if i = j then some c else cnt _ j) = (if i = j then some c else cnt r j).map _
      by_cases h2 : i = j
      · subst h2
        rw [if_pos rfl, if_pos rfl, Option.map_some, if_neg h]
      · rw [if_neg h2, if_neg h2, ih]
theorem cnt_app (k j : Nat) : ∀ {m : List (Nat × Nat)}, cnt (m ++ [(k, 1)]) j = (match cnt m j with
    | some c => some c
    | none => if k = j then some 1 else none)
  | [] => rfl
  | (i, c) :: r => by
    show (if i = j then some c else cnt (r ++ [(k, 1)]) j) = (match (if i = j then some c else cnt r j) with | some c => some c | none => if k = j then some 1 else none)
    by_cases h : i = j
    · rw [if_pos h, if_pos h]
    · rw [if_neg h, if_neg h, cnt_app k j]
theorem Cnt.bump {m : List (Nat × Nat)} {s : List Nat} (h : Cnt m s) (k : Nat) : Cnt (K00.bump m k) (s ++ [k]) := by
  refine ⟨?_, fun j => ?_, fun j => ?_⟩
  · rw [bump_fst]
    split
    · exact h.nd
    · rename_i q
      have : k ∉ m.map Prod.fst := cnt_none.mp (by cases z : cnt m k with | none => rfl | some c => rw [z] at q; exact absurd rfl q)
      rw [List.nodup_append]
      refine ⟨h.nd, by simp, fun a ha b hb e => ?_⟩
      rw [List.mem_singleton.mp hb] at e
      exact this (e ▸ ha)
  · rw [List.count_append, ← h.at_ j, List.count_singleton]
    unfold K00.bump
    split
    · rename_i q
      rw [cnt_bump]
      cases z : cnt m j with
      | none =>
        have : j ≠ k := fun e => by rw [← e, z] at q; cases q
        rw [Option.map_none, Option.getD_none]
        simp [Ne.symm this]
      | some c =>
        rw [Option.map_some, Option.getD_some, Option.getD_some]
        by_cases e : j = k
        · subst e
          simp
        · rw [if_neg e]
          simp [Ne.symm e]
    · rename_i q
      rw [cnt_app]
      cases z : cnt m j with
      | none =>
        by_cases e : k = j
        · subst e
          simp
        · simp [e]
      | some c =>
        have : ¬ k = j := fun e => by rw [e, z] at q; exact q rfl
        simp [this]
  · rw [bump_fst, List.mem_append, List.mem_singleton]
    split
    · rename_i q
      have hk : k ∈ m.map Prod.fst := by
        by_cases z : k ∈ m.map Prod.fst
        · exact z
        · rw [cnt_none.mpr z] at q
          cases q
      rw [h.mem]
      constructor
      · exact .inl
      · rintro (z | z)
        · exact z
        · rw [z]
          exact (h.mem k).mp hk
    · rw [List.mem_append, List.mem_singleton, h.mem]
end K00
namespace K00
open PySem L2 PV BM
theorem bump_len (m : List (Nat × Nat)) (k : Nat) : (bump m k).length ≤ m.length + 1 := by
  unfold bump
  split
  · rw [List.length_map]
    omega
  · rw [List.length_append, List.length_singleton]
    omega
abbrev tBody : En → Rs := sSub 1 (mV 3) (mOp oAdd [.m (mGet (.s 1) [mV 3, mK (.int 0)] fGet2), .m (mK (.int 1))])
theorem body_ok {L : D} {m : List (Nat × Nat)} {y : Sl} {k : Nat} (hn : (m.map Prod.fst).Nodup) (hl : m.length < lim) : tBody [.fz L, .ow (.dik (kvD m)), y, .fz (.int k)] = .nx [.fz L, .ow (.dik (kvD (bump m k))), y, .fz (.int k)] := by
  have g1 : fGet2 (kvD m) [.int k, .int 0] = some (.int ((cnt m k).getD 0 : Nat)) := by
    show some ((valD (kvD m) (.inl (k : Int))).getD (.int 0)) = _
    rw [valD_kv]
    cases cnt m k <;> rfl
  have g2 : kSub (.dik (kvD m)) (.int k) (.int (((cnt m k).getD 0 : Nat) + 1)) = some (.dik (kvD (bump m k))) := by
    show (if (kvD m).length < lim then (keyD (.int k)).map fun k => D.dik (putD (kvD m) k _) else none) = _
    rw [if_pos (by rw [List.length_map]; exact hl), ← putD_bump m k hn]
    rfl
  simp only [tBody, runD, runF, runR, runRF, startE, rf0, sSeq, sNil, sPass, sEx, sRt, sRtN, sIf, sSet, sSetO, sPar, sAug, sSub, sAsg, sFz, sFor, mOp, evA, evP, fill, evS, mTup, mLst, mV, mK, mT, mNot, mAnd, mOr, mAndV, mOrV, mNotV, mIf, mChain, mCall, mCallL, mCallR, mIsi, mIt, iAny, mSl, evO, mGet, mOwn, PV.val, ownV, setV, free, bindT, bindTs, wipeE, backE, R.bind, R.bs, Rs.bind, Oe.ev, Oe.sl, tYs, isLst, List.map_cons, List.map_nil, List.length_cons, List.length_nil, List.replicate, List.cons_append, List.nil_append, List.append_nil, List.getElem?_cons_zero, List.getElem?_cons_succ, List.getElem?_nil, List.set_cons_zero, List.set_cons_succ, Option.some.injEq, if_true, if_false, Bool.false_eq_true, Nat.sub_self, Nat.reduceSub, Nat.reduceAdd, Nat.reduceLT, reduceCtorEq, ite_true, ite_false, Bool.not_true, Bool.not_false, Option.bind_some, Option.map_some, ne_eq, not_false_eq_true, and_self, and_true, true_and, Nat.succ_ne_self, List.contains_cons, List.contains_nil, String.reduceBEq, Bool.or_true, Bool.true_or, Bool.or_false, Bool.false_or, Bool.and_true, Bool.and_false, Bool.false_and, Bool.true_and, beq_self_eq_true, subN, tyN, Nat.reduceEqDiff, g1, oAdd, g2]
theorem inner_ok {L : D} {y : Sl} : ∀ (l : List Nat) (m : List (Nat × Nat)) (s : List Nat) (x : Sl), Cnt m s → m.length ≤ s.length → s.length + l.length < lim → (x = .no ∨ ∃ d, x = .fz d) →
    ∃ m' x', forL (.n 3) tBody (nD l) [.fz L, .ow (.dik (kvD m)), y, x] = .nx [.fz L, .ow (.dik (kvD m')), y, x'] ∧ Cnt m' (s ++ l) ∧ m'.length ≤ (s ++ l).length ∧ (x' = .no ∨ ∃ d, x' = .fz d)
  | [], m, s, x, h, hm, hl, hx => ⟨m, x, rfl, by rw [List.append_nil]; exact h, by rw [List.append_nil]; exact hm, hx⟩
  | k :: r, m, s, x, h, hm, hl, hx => by
    rw [List.length_cons] at hl
    have hb := body_ok (L := L) (y := y) (k := k) h.nd (Nat.lt_of_le_of_lt hm (by omega))
    obtain ⟨m', x', h1, h2, h3, h4⟩ := inner_ok (L := L) (y := y) r (bump m k) (s ++ [k]) (.fz (.int k)) (h.bump k) (by
      have := bump_len m k
      rw [List.length_append, List.length_singleton]
      omega) (by rw [List.length_append, List.length_singleton]; omega) (.inr ⟨_, rfl⟩)
    rw [List.append_assoc] at h2 h3
    refine ⟨m', x', ?_, h2, h3, h4⟩
    have hbind : bindT (.n 3) (.int (k : Int)) [.fz L, .ow (.dik (kvD m)), y, x] = some [.fz L, .ow (.dik (kvD m)), y, .fz (.int k)] := by
      rcases hx with rfl | ⟨d, rfl⟩ <;> rfl
    show forL (.n 3) tBody (.int (k : Int) :: nD r) _ = _
    unfold forL
    rw [hbind]
    simp only [hb, h1]
abbrev tOut : En → Rs := sFor (iAny (mV 2)) (.n 3) tBody
theorem outer_ok {L : D} : ∀ (ls : List (List Nat)) (m : List (Nat × Nat)) (s : List Nat) (y x : Sl), Cnt m s → m.length ≤ s.length → s.length + ls.flatten.length < lim → (y = .no ∨ ∃ d, y = .fz d) → (x = .no ∨ ∃ d, x = .fz d) →
    ∃ m' y' x', forL (.n 2) tOut (ls.map lotD) [.fz L, .ow (.dik (kvD m)), y, x] = .nx [.fz L, .ow (.dik (kvD m')), y', x'] ∧ Cnt m' (s ++ ls.flatten)
  | [], m, s, y, x, h, hm, hl, hy, hx => ⟨m, y, x, rfl, by rw [List.flatten_nil, List.append_nil]; exact h⟩
  | l :: r, m, s, y, x, h, hm, hl, hy, hx => by
    rw [List.flatten_cons, List.length_append] at hl
    obtain ⟨m1, x1, h1, h2, h3, h4⟩ := inner_ok (L := L) (y := .fz (lotD l)) l m s x h hm (by omega) hx
    obtain ⟨m2, y2, x2, h5, h6⟩ := outer_ok (L := L) r m1 (s ++ l) (.fz (lotD l)) x1 h2 h3 (by rw [List.length_append]; omega) (.inr ⟨_, rfl⟩) h4
    refine ⟨m2, y2, x2, ?_, by rw [List.flatten_cons, ← List.append_assoc]; exact h6⟩
    have hbind : bindT (.n 2) (lotD l) [.fz L, .ow (.dik (kvD m)), y, x] = some [.fz L, .ow (.dik (kvD m)), .fz (lotD l), x] := by
      rcases hy with rfl | ⟨d, rfl⟩ <;> rfl
    have ho : tOut [.fz L, .ow (.dik (kvD m)), .fz (lotD l), x] = .nx [.fz L, .ow (.dik (kvD m1)), .fz (lotD l), x1] := by
      simp only [tOut, runD, runF, runR, runRF, startE, rf0, sSeq, sNil, sPass, sEx, sRt, sRtN, sIf, sSet, sSetO, sPar, sAug, sSub, sAsg, sFz, sFor, mOp, evA, evP, fill, evS, mTup, mLst, mV, mK, mT, mNot, mAnd, mOr, mAndV, mOrV, mNotV, mIf, mChain, mCall, mCallL, mCallR, mIsi, mIt, iAny, mSl, evO, mGet, mOwn, PV.val, ownV, setV, free, bindT, bindTs, wipeE, backE, R.bind, R.bs, Rs.bind, Oe.ev, Oe.sl, tYs, isLst, List.map_cons, List.map_nil, List.length_cons, List.length_nil, List.replicate, List.cons_append, List.nil_append, List.append_nil, List.getElem?_cons_zero, List.getElem?_cons_succ, List.getElem?_nil, List.set_cons_zero, List.set_cons_succ, Option.some.injEq, if_true, if_false, Bool.false_eq_true, Nat.sub_self, Nat.reduceSub, Nat.reduceAdd, Nat.reduceLT, reduceCtorEq, ite_true, ite_false, Bool.not_true, Bool.not_false, Option.bind_some, Option.map_some, ne_eq, not_false_eq_true, and_self, and_true, true_and, Nat.succ_ne_self, List.contains_cons, List.contains_nil, String.reduceBEq, Bool.or_true, Bool.true_or, Bool.or_false, Bool.false_or, Bool.and_true, Bool.and_false, Bool.false_and, Bool.true_and, beq_self_eq_true, subN, tyN, Nat.reduceEqDiff, itD, seqD, h1]
    show forL (.n 2) tOut (lotD l :: r.map lotD) _ = _
    unfold forL
    rw [hbind]
    simp only [ho, h5]
/-- the xor of masks -/
def xl (ls : List (List Nat)) : Nat := ls.foldl (fun a l => a ^^^ mask l) 0
theorem xl_bit {ls : List (List Nat)} (h : ∀ l ∈ ls, Lot 24 l) (k : Nat) : (xl ls).testBit k = decide (ls.flatten.count k % 2 = 1) := by
  have : ∀ (ls : List (List Nat)) (a n : Nat), (∀ l ∈ ls, Lot 24 l) → a.testBit k = decide (n % 2 = 1) → (ls.foldl (fun a l => a ^^^ mask l) a).testBit k = decide ((n + ls.flatten.count k) % 2 = 1) := by
    intro ls
    induction ls with
    | nil =>
      intro a n _ e
      rw [List.flatten_nil, List.count_nil, Nat.add_zero]
      exact e
    | cons l r ih =>
      intro a n hl e
      have hL := hl l (List.mem_cons_self ..)
      have nd : l.Nodup := hL.1.imp fun z => by omega
      have e2 : (a ^^^ mask l).testBit k = decide ((n + l.count k) % 2 = 1) := by
        rw [Nat.testBit_xor, e, mask_bit hL.1, nd.count]
        by_cases hk : k ∈ l
        · rw [if_pos hk, decide_eq_true hk]
          by_cases hn : n % 2 = 1
          · rw [decide_eq_true hn, decide_eq_false (by omega)]
            rfl
          · rw [decide_eq_false hn, decide_eq_true (by omega)]
            rfl
        · rw [if_neg hk, decide_eq_false hk, Bool.xor_false, Nat.add_zero]
      have := ih (a ^^^ mask l) (n + l.count k) (fun x hx => hl x (List.mem_cons_of_mem _ hx)) e2
      rw [List.foldl_cons, this, List.flatten_cons, List.count_append, Nat.add_assoc]
  have := this ls 0 0 h (by simp)
  rw [Nat.zero_add] at this
  exact this
theorem xl_lt {ls : List (List Nat)} (h : ∀ l ∈ ls, Lot 24 l) : xl ls < 2 ^ 64 := by
  have : ∀ (ls : List (List Nat)) (a : Nat), (∀ l ∈ ls, Lot 24 l) → a < 2 ^ 64 → ls.foldl (fun a l => a ^^^ mask l) a < 2 ^ 64 := by
    intro ls
    induction ls with
    | nil => exact fun a _ ha => ha
    | cons l r ih => exact fun a hl ha => ih _ (fun x hx => hl x (List.mem_cons_of_mem _ hx)) (Nat.xor_lt_two_pow ha (hl l (List.mem_cons_self ..)).lt)
  exact this ls 0 h (by decide)
theorem flat_len {ls : List (List Nat)} (h : ∀ l ∈ ls, Lot 24 l) : ls.flatten.length ≤ 24 * ls.length := by
  induction ls with
  | nil => exact Nat.le_refl _
  | cons l r ih =>
    have h1 := ih fun x hx => h x (List.mem_cons_of_mem _ hx)
    have h2 := (h l (List.mem_cons_self ..)).len
    rw [List.flatten_cons, List.length_append, List.length_cons]
    omega
theorem nodup_len {l : List Nat} {n : Nat} (h : l.Nodup) (hb : ∀ k ∈ l, k < n) : l.length ≤ n := by
  have p : l.Perm ((List.range n).filter fun k => decide (k ∈ l)) := (List.perm_ext_iff_of_nodup h (List.nodup_range.filter _)).mpr fun k => by
    rw [List.mem_filter, List.mem_range, decide_eq_true_iff]
    exact ⟨fun z => ⟨hb k z, z⟩, fun z => z.2⟩
  rw [p.length_eq]
  refine Nat.le_trans (List.length_filter_le _ _) ?_
  rw [List.length_range]
  exact Nat.le_refl _
theorem lo_total_ok {ls : List (List Nat)} (h : ∀ l ∈ ls, Lot 24 l) (hl : ls.length ≤ 60) : f__law_lo_total [.lst (ls.map lotD)] = .ok (lotD (bits (xl ls))) := by
  have fl := flat_len h
  obtain ⟨m, y, x, h1, C⟩ := outer_ok (L := .lst (ls.map lotD)) ls [] [] .no .no Cnt.nil (Nat.le_refl _) (by
    rw [List.length_nil, Nat.zero_add]
    exact Nat.lt_of_le_of_lt fl (Nat.lt_of_le_of_lt (Nat.mul_le_mul_left 24 hl) (by decide))) (.inl rfl) (.inl rfl)
  rw [List.nil_append] at C
  have ml : m.length ≤ lim := by
    have sub : ∀ k ∈ m.map Prod.fst, k < 24 := fun k hk => by
      obtain ⟨l, hl1, hl2⟩ := List.mem_flatten.mp ((C.mem k).mp hk)
      exact (h l hl1).2 k hl2
    have := nodup_len C.nd sub
    rw [List.length_map] at this
    exact Nat.le_trans this (by decide)
  have c2 : lcL (.n 3) (mT (mOp oEq [.m (mOp oMod [.m (mOp oIxx [.s 1, .s 3]), .m (mK (.int 2))]), .m (mK (.int 1))])) (mV 3) [3] (m.map fun p => .int p.1) [.fz (.lst (ls.map lotD)), .fz (.dik (kvD m)), y, .no] =
      .ok ((m.filter fun p => decide (p.2 % 2 = 1)).map fun p => .int p.1) [.fz (.lst (ls.map lotD)), .fz (.dik (kvD m)), y, .no] :=
    lcL_pure _ _ _ fun p hp => by
      have hg : oIxx [.dik (kvD m), .int p.1] = some (.int p.2) := by
        show valD (kvD m) (.inl (p.1 : Int)) = _
        rw [valD_kv, (cnt_mem C.nd).mpr (show (p.1, p.2) ∈ m from hp)]
        rfl
      have e2 : cMod (p.2 : Nat) 2 = true := rfl
      exact ⟨[.fz (.lst (ls.map lotD)), .fz (.dik (kvD m)), y, .fz (.int p.1)], [.fz (.lst (ls.map lotD)), .fz (.dik (kvD m)), y, .fz (.int p.1)], rfl, by simp only [runD, runF, runR, runRF, startE, rf0, sSeq, sNil, sPass, sEx, sRt, sRtN, sIf, sSet, sSetO, sPar, sAug, sSub, sAsg, sFz, sFor, mOp, evA, evP, fill, evS, mTup, mLst, mV, mK, mT, mNot, mAnd, mOr, mAndV, mOrV, mNotV, mIf, mChain, mCall, mCallL, mCallR, mIsi, mIt, iAny, mSl, evO, mGet, mOwn, PV.val, ownV, setV, free, bindT, bindTs, wipeE, backE, R.bind, R.bs, Rs.bind, Oe.ev, Oe.sl, tYs, isLst, List.map_cons, List.map_nil, List.length_cons, List.length_nil, List.replicate, List.cons_append, List.nil_append, List.append_nil, List.getElem?_cons_zero, List.getElem?_cons_succ, List.getElem?_nil, List.set_cons_zero, List.set_cons_succ, Option.some.injEq, if_true, if_false, Bool.false_eq_true, Nat.sub_self, Nat.reduceSub, Nat.reduceAdd, Nat.reduceLT, reduceCtorEq, ite_true, ite_false, Bool.not_true, Bool.not_false, Option.bind_some, Option.map_some, ne_eq, not_false_eq_true, and_self, and_true, true_and, Nat.succ_ne_self, List.contains_cons, List.contains_nil, String.reduceBEq, Bool.or_true, Bool.true_or, Bool.or_false, Bool.false_or, Bool.and_true, Bool.and_false, Bool.false_and, Bool.true_and, beq_self_eq_true, subN, tyN, Nat.reduceEqDiff, hg, o2I, e2, odd_ok], fun _ => rfl, fun _ => ⟨[.fz (.lst (ls.map lotD)), .fz (.dik (kvD m)), y, .fz (.int p.1)], rfl, rfl⟩⟩
  have ek : (kvD m).map (fun kv => dKey kv.1) = m.map fun p => D.int p.1 := by
    rw [List.map_map]
    rfl
  have o2 : oSorted [.lst ((m.filter fun p => decide (p.2 % 2 = 1)).map fun p => .int p.1)] = some (.lst (nD (bits (xl ls)))) := by
    have e1 : ((m.filter fun p => decide (p.2 % 2 = 1)).map fun p => D.int p.1) = nD ((m.filter fun p => decide (p.2 % 2 = 1)).map Prod.fst) := by
      simp only [nD, List.map_map]
      rfl
    have nd : ((m.filter fun p => decide (p.2 % 2 = 1)).map Prod.fst).Nodup := (List.filter_sublist.map Prod.fst).nodup C.nd
    have e2 := srt_nat nd (bits_srt (xl ls)) fun k => by
      rw [mem_bits (xl_lt h), xl_bit h, decide_eq_true_iff, ← C.at_ k, List.mem_map]
      constructor
      · rintro ⟨p, hp, rfl⟩
        obtain ⟨h1, h2⟩ := List.mem_filter.mp hp
        rw [(cnt_mem C.nd).mpr (show (p.1, p.2) ∈ m from h1)]
        simpa using h2
      · intro z
        cases q : cnt m k with
        | none =>
          rw [q] at z
          cases z
        | some c =>
          rw [q] at z
          exact ⟨(k, c), List.mem_filter.mpr ⟨(cnt_mem C.nd).mp q, by simpa using z⟩, rfl⟩
    rw [e1]
    simp only [oSorted, lstD, Option.bind_some, intsD_nD, Option.map_some, e2]
    rw [← nD_ints]
  have ml2 : (m.map fun p => D.int p.1).length ≤ lim := by
    rw [List.length_map]
    exact ml
  have hx : ∀ q : En → R D, sFz 1 (sRt q) [.fz (.lst (ls.map lotD)), .ow (.dik (kvD m)), y, x] = sRt q [.fz (.lst (ls.map lotD)), .fz (.dik (kvD m)), y, x] := fun q => rfl
  have h1' := h1
  simp only [kvD, List.map_nil] at h1'
  simp only [f__law_lo_total, m__law_lo_total, mLc, runD, runF, runR, runRF, startE, rf0, sSeq, sNil, sPass, sEx, sRt, sRtN, sIf, sSet, sSetO, sPar, sAug, sSub, sAsg, sFz, sFor, mOp, evA, evP, fill, evS, mTup, mLst, mV, mK, mT, mNot, mAnd, mOr, mAndV, mOrV, mNotV, mIf, mChain, mCall, mCallL, mCallR, mIsi, mIt, iAny, mSl, evO, mGet, mOwn, PV.val, ownV, setV, free, bindT, bindTs, wipeE, backE, R.bind, R.bs, Rs.bind, Oe.ev, Oe.sl, tYs, isLst, List.map_cons, List.map_nil, List.length_cons, List.length_nil, List.replicate, List.cons_append, List.nil_append, List.append_nil, List.getElem?_cons_zero, List.getElem?_cons_succ, List.getElem?_nil, List.set_cons_zero, List.set_cons_succ, Option.some.injEq, if_true, if_false, Bool.false_eq_true, Nat.sub_self, Nat.reduceSub, Nat.reduceAdd, Nat.reduceLT, reduceCtorEq, ite_true, ite_false, Bool.not_true, Bool.not_false, Option.bind_some, Option.map_some, ne_eq, not_false_eq_true, and_self, and_true, true_and, Nat.succ_ne_self, List.contains_cons, List.contains_nil, String.reduceBEq, Bool.or_true, Bool.true_or, Bool.or_false, Bool.false_or, Bool.and_true, Bool.and_false, Bool.false_and, Bool.true_and, beq_self_eq_true, subN, tyN, Nat.reduceEqDiff, itD, seqD, h1', ek, ml2, c2, o2, oTuple]
end K00

namespace K00
open PySem L2 PV BM
theorem xf_xl (lots : List (List Nat)) (pick : List Nat) : xf lots pick = xl (pick.map fun i => lots.getD i []) := by
  unfold xf xl
  rw [List.foldl_map]
/-! ### mixed -/
theorem erase_map {α β : Type} (f : α → β) : ∀ (l : List α) (i : Nat), (l.map f).eraseIdx i = (l.eraseIdx i).map f
  | [], _ => rfl
  | _ :: _, 0 => rfl
  | a :: l, i + 1 => by
    show f a :: (l.map f).eraseIdx i = f a :: (l.eraseIdx i).map f
    rw [erase_map f l i]
theorem pop_ok {w : List Nat} {k : Int} (hk0 : 0 ≤ k) (hk : k < w.length) (hw : w.length ≤ 1000) : ∃ (j v : Nat), w[j]? = some v ∧ kPopAt (nD w) (.int k) = some (.int v, nD (w.eraseIdx j)) := by
  have hj : k.toNat < w.length := by omega
  refine ⟨k.toNat, w[k.toNat], List.getElem?_eq_getElem hj, ?_⟩
  have hl : ¬ lim < (nD w).length := by
    rw [List.length_map]
    exact Nat.not_lt.mpr (Nat.le_trans hw (by decide))
  have hi : ixN (nD w).length k = some k.toNat := by
    unfold ixN
    rw [if_pos hk0, List.length_map, if_pos hk]
  have hg : (nD w)[k.toNat]? = some (.int w[k.toNat]) := by
    rw [List.getElem?_map, List.getElem?_eq_getElem hj]
    rfl
  show (if lim < (nD w).length then none else (ixN (nD w).length k).bind fun j => ((nD w)[j]?).map fun v => (v, (nD w).eraseIdx j)) = _
  rw [if_neg hl, hi, Option.bind_some, hg, Option.map_some, erase_map]
theorem eqD_n0 (l : List Nat) : eqD (.lst (nD l)) (.lst []) = some (decide (l = [])) := by
  rw [nD_ints, eqD_li0]
  congr 1
  exact decide_eq_decide.mpr List.map_eq_nil_iff
theorem mixed_ok {n : Nat} {d : D} {l : List Nat} (hd : GD n d) (hn : n ≤ 900000) (hl : l.length ≤ 1000) : ∃ (l' : List Nat) (d' : D), f__law_mixed d [.lst (nD l)] = .ok (.lst (nD l')) d' ∧ GD (n + l.length) d' ∧ l'.Perm l := by
  have lp := whileN_inv (t := mT (mOp oNe [.s 2, .m (mLst [])])) (m := sEx (mOwn 3 (mOwn 2 (mCallR f__law_roll 0 [mOp oLen [.s 2]]) kPopAt) kAppend))
    (fun k e => ∃ (d2 : D) (w f : List Nat), e = [.rf d2, .fz (.lst (nD l)), .ow (.lst (nD w)), .ow (.lst (nD f))] ∧ k = w.length ∧ (f ++ w).Perm l ∧ GD (n + f.length) d2)
    (fun e => ∃ (d2 : D) (f : List Nat), e = [.rf d2, .fz (.lst (nD l)), .ow (.lst []), .ow (.lst (nD f))] ∧ f.Perm l ∧ GD (n + l.length) d2) (by
      rintro e ⟨d2, w, f, rfl, hk, hp, g⟩
      have hw : w = [] := List.eq_nil_of_length_eq_zero hk.symm
      subst hw
      rw [List.append_nil] at hp
      rw [hp.length_eq] at g
      exact ⟨[.rf d2, .fz (.lst (nD l)), .ow (.lst []), .ow (.lst (nD f))], by simp only [runD, runF, runR, runRF, startE, rf0, sSeq, sNil, sPass, sEx, sRt, sRtN, sIf, sSet, sSetO, sPar, sAug, sSub, sAsg, sFz, sFor, mOp, evA, evP, fill, evS, mTup, mLst, mV, mK, mT, mNot, mAnd, mOr, mAndV, mOrV, mNotV, mIf, mChain, mCall, mCallL, mCallR, mIsi, mIt, iAny, mSl, evO, mGet, mOwn, PV.val, ownV, setV, free, bindT, bindTs, wipeE, backE, R.bind, R.bs, Rs.bind, Oe.ev, Oe.sl, tYs, isLst, List.map_cons, List.map_nil, List.length_cons, List.length_nil, List.replicate, List.cons_append, List.nil_append, List.append_nil, List.getElem?_cons_zero, List.getElem?_cons_succ, List.getElem?_nil, List.set_cons_zero, List.set_cons_succ, Option.some.injEq, if_true, if_false, Bool.false_eq_true, Nat.sub_self, Nat.reduceSub, Nat.reduceAdd, Nat.reduceLT, reduceCtorEq, ite_true, ite_false, Bool.not_true, Bool.not_false, Option.bind_some, Option.map_some, ne_eq, not_false_eq_true, and_self, and_true, true_and, Nat.succ_ne_self, List.contains_cons, List.contains_nil, String.reduceBEq, Bool.or_true, Bool.true_or, Bool.or_false, Bool.false_or, Bool.and_true, Bool.and_false, Bool.false_and, Bool.true_and, beq_self_eq_true, subN, tyN, Nat.reduceEqDiff, oNe, nD, eqD_l00], d2, f, rfl, hp, g⟩) (by
      rintro k e ⟨d2, w, f, rfl, hk, hp, g⟩
      have hlen := hp.length_eq
      rw [List.length_append] at hlen
      have hw : ¬ w = [] := fun z => by
        subst z
        cases hk
      obtain ⟨q, d3, h1, hq0, hq, g1⟩ := roll_ok g (by omega) (m := (w.length : Nat)) (by omega) (by omega)
      obtain ⟨j, v, hv, hpop⟩ := pop_ok hq0 hq (by omega)
      have hfl : (nD f).length < lim := by
        rw [List.length_map]
        exact Nat.lt_of_le_of_lt (show f.length ≤ 1000 by omega) (by decide)
      have ol : oLen [.lst (nD w)] = some (.int (w.length : Nat)) := by
        show some (D.int (((nD w).length : Nat) : Int)) = _
        rw [List.length_map]
      have ka : kAppend (nD f) (.int v) = some (.non, nD (f ++ [v])) := by
        unfold kAppend
        rw [if_pos hfl]
        simp [nD]
      refine ⟨[.rf d2, .fz (.lst (nD l)), .ow (.lst (nD w)), .ow (.lst (nD f))], [.rf d3, .fz (.lst (nD l)), .ow (.lst (nD (w.eraseIdx j))), .ow (.lst (nD (f ++ [v])))], by simp only [runD, runF, runR, runRF, startE, rf0, sSeq, sNil, sPass, sEx, sRt, sRtN, sIf, sSet, sSetO, sPar, sAug, sSub, sAsg, sFz, sFor, mOp, evA, evP, fill, evS, mTup, mLst, mV, mK, mT, mNot, mAnd, mOr, mAndV, mOrV, mNotV, mIf, mChain, mCall, mCallL, mCallR, mIsi, mIt, iAny, mSl, evO, mGet, mOwn, PV.val, ownV, setV, free, bindT, bindTs, wipeE, backE, R.bind, R.bs, Rs.bind, Oe.ev, Oe.sl, tYs, isLst, List.map_cons, List.map_nil, List.length_cons, List.length_nil, List.replicate, List.cons_append, List.nil_append, List.append_nil, List.getElem?_cons_zero, List.getElem?_cons_succ, List.getElem?_nil, List.set_cons_zero, List.set_cons_succ, Option.some.injEq, if_true, if_false, Bool.false_eq_true, Nat.sub_self, Nat.reduceSub, Nat.reduceAdd, Nat.reduceLT, reduceCtorEq, ite_true, ite_false, Bool.not_true, Bool.not_false, Option.bind_some, Option.map_some, ne_eq, not_false_eq_true, and_self, and_true, true_and, Nat.succ_ne_self, List.contains_cons, List.contains_nil, String.reduceBEq, Bool.or_true, Bool.true_or, Bool.or_false, Bool.false_or, Bool.and_true, Bool.and_false, Bool.false_and, Bool.true_and, beq_self_eq_true, subN, tyN, Nat.reduceEqDiff, oNe, eqD_n0, hw, decide_false], .inl (by simp only [runD, runF, runR, runRF, startE, rf0, sSeq, sNil, sPass, sEx, sRt, sRtN, sIf, sSet, sSetO, sPar, sAug, sSub, sAsg, sFz, sFor, mOp, evA, evP, fill, evS, mTup, mLst, mV, mK, mT, mNot, mAnd, mOr, mAndV, mOrV, mNotV, mIf, mChain, mCall, mCallL, mCallR, mIsi, mIt, iAny, mSl, evO, mGet, mOwn, PV.val, ownV, setV, free, bindT, bindTs, wipeE, backE, R.bind, R.bs, Rs.bind, Oe.ev, Oe.sl, tYs, isLst, List.map_cons, List.map_nil, List.length_cons, List.length_nil, List.replicate, List.cons_append, List.nil_append, List.append_nil, List.getElem?_cons_zero, List.getElem?_cons_succ, List.getElem?_nil, List.set_cons_zero, List.set_cons_succ, Option.some.injEq, if_true, if_false, Bool.false_eq_true, Nat.sub_self, Nat.reduceSub, Nat.reduceAdd, Nat.reduceLT, reduceCtorEq, ite_true, ite_false, Bool.not_true, Bool.not_false, Option.bind_some, Option.map_some, ne_eq, not_false_eq_true, and_self, and_true, true_and, Nat.succ_ne_self, List.contains_cons, List.contains_nil, String.reduceBEq, Bool.or_true, Bool.true_or, Bool.or_false, Bool.false_or, Bool.and_true, Bool.and_false, Bool.false_and, Bool.true_and, beq_self_eq_true, subN, tyN, Nat.reduceEqDiff, ol, h1, hpop, ka]), d3, w.eraseIdx j, f ++ [v], rfl, ?_, ?_, ?_⟩
      · have hj := (List.getElem?_eq_some_iff.mp hv).1
        rw [List.length_eraseIdx_of_lt hj]
        omega
      · have p := erase_perm w j v hv
        rw [List.append_assoc]
        exact (List.Perm.append_left f p).trans hp
      · rw [List.length_append]
        exact g1) l.length fuel [.rf d, .fz (.lst (nD l)), .ow (.lst (nD l)), .ow (.lst [])] ⟨d, l, [], rfl, rfl, .refl _, hd⟩ (Nat.lt_of_le_of_lt hl (by decide))
  obtain ⟨e', h1, d2, f, rfl, hp, g⟩ := lp
  refine ⟨f, d2, ?_, g, hp⟩
  simp only [f__law_mixed, m__law_mixed, sWhile, runD, runF, runR, runRF, startE, rf0, sSeq, sNil, sPass, sEx, sRt, sRtN, sIf, sSet, sSetO, sPar, sAug, sSub, sAsg, sFz, sFor, mOp, evA, evP, fill, evS, mTup, mLst, mV, mK, mT, mNot, mAnd, mOr, mAndV, mOrV, mNotV, mIf, mChain, mCall, mCallL, mCallR, mIsi, mIt, iAny, mSl, evO, mGet, mOwn, PV.val, ownV, setV, free, bindT, bindTs, wipeE, backE, R.bind, R.bs, Rs.bind, Oe.ev, Oe.sl, tYs, isLst, List.map_cons, List.map_nil, List.length_cons, List.length_nil, List.replicate, List.cons_append, List.nil_append, List.append_nil, List.getElem?_cons_zero, List.getElem?_cons_succ, List.getElem?_nil, List.set_cons_zero, List.set_cons_succ, Option.some.injEq, if_true, if_false, Bool.false_eq_true, Nat.sub_self, Nat.reduceSub, Nat.reduceAdd, Nat.reduceLT, reduceCtorEq, ite_true, ite_false, Bool.not_true, Bool.not_false, Option.bind_some, Option.map_some, ne_eq, not_false_eq_true, and_self, and_true, true_and, Nat.succ_ne_self, List.contains_cons, List.contains_nil, String.reduceBEq, Bool.or_true, Bool.true_or, Bool.or_false, Bool.false_or, Bool.and_true, Bool.and_false, Bool.false_and, Bool.true_and, beq_self_eq_true, subN, tyN, Nat.reduceEqDiff, oList, seqD, h1]
/-- some of range(n), sorted -/
theorem pick_ok {n k : Nat} {l : List Nat} (hp : l.Perm (List.range n)) : ∃ p : List Nat, Lot n p ∧ oSorted [.lst (nD (l.take k))] = some (.lst (nD p)) := by
  have nd : (l.take k).Nodup := (List.take_sublist k l).nodup (hp.nodup_iff.mpr List.nodup_range)
  refine ⟨(List.range n).filter fun i => decide (i ∈ l.take k), ⟨List.pairwise_lt_range.filter _, fun i hi => List.mem_range.mp (List.mem_filter.mp hi).1⟩, ?_⟩
  have e := srt_nat nd (List.pairwise_lt_range.filter (fun i => decide (i ∈ l.take k)) (l := List.range n)) fun i => by
    rw [List.mem_filter, decide_eq_true_iff]
    exact ⟨fun h => ⟨hp.mem_iff.mp (List.mem_of_mem_take h), h⟩, fun h => h.2⟩
  simp only [oSorted, lstD, Option.bind_some, intsD_nD, Option.map_some, e]
  rw [← nD_ints]
theorem cut_take (xs : List D) {k : Int} (hk : 0 ≤ k) : cutD xs none (some k) = xs.take k.toNat := by
  unfold cutD
  have e : (k : Int) = ((k.toNat : Nat) : Int) := by omega
  rw [HT.sIx_none]
  rw [e, HT.sIx_nat, List.drop_zero, Nat.sub_zero]
  rw [Int.toNat_natCast]
  rw [← List.take_eq_take_min]
end K00

namespace K00
open PySem L2 PV BM
/-! ### what is near -/
def near1 (many : Nat) (one : List Nat) : List D := [lotD one, .lst (nD one), .tup (nD one).reverse, .tup (nD one ++ cutD (nD one) (some (-1)) none), .tup (nD one ++ [.int many]), .tup (.int (-1) :: nD one), .non, .tup [], .int 0, .str "0", .dik [], .tup [.bl true], .tup [.non], .tup [.tup [.int 0]], .str "abc"]
def near2 (many : Nat) (one : List Nat) : List D := [.tup ((one.map fun i => decide (i = 1)).map D.bl), .tup (cutD (nD one) (some 1) none), .tup (nD (List.range many)), .tup [.int (10 ^ 40)], .tup [.str "0"], .tup (nD one ++ [.int 23]), .tup [.int 0, .int 0], .tup [.int 1, .int 0]]
theorem oAdd_tup {xs ys : List D} (h : xs.length + ys.length ≤ 1000) : oAdd [.tup xs, .tup ys] = some (.tup (xs ++ ys)) := by
  show (if xs.length + ys.length ≤ lim then _ else _) = _
  rw [if_pos (Nat.le_trans h (by decide))]
theorem oAdd_lst {xs ys : List D} (h : xs.length + ys.length ≤ 1000) : oAdd [.lst xs, .lst ys] = some (.lst (xs ++ ys)) := by
  show (if xs.length + ys.length ≤ lim then _ else _) = _
  rw [if_pos (Nat.le_trans h (by decide))]
theorem cut_len (xs : List D) (a b : Option Int) : (cutD xs a b).length ≤ xs.length := by
  unfold cutD
  rw [List.length_take, List.length_drop]
  omega
theorem cut_mem {xs : List D} {a b : Option Int} {x : D} (h : x ∈ cutD xs a b) : x ∈ xs := List.mem_of_mem_drop (List.mem_of_mem_take h)
theorem near_ok {d : D} {many : Nat} {one : List Nat} (h : Lot many one) (hm : many ≤ 24) : f__law_near d [.int many, lotD one] = .ok (.lst (near1 many one ++ near2 many one)) d := by
  have hl : one.length ≤ 24 := Nat.le_trans h.len hm
  have hl2 : (nD one).length ≤ 24 := by
    rw [List.length_map]
    exact hl
  have hl3 : (nD one).length ≤ lim := Nat.le_trans hl2 (by decide)
  have hc := cut_len (nD one) (some (-1)) none
  have a1 : oAdd [.tup (nD one), .tup (cutD (nD one) (some (-1)) none)] = some (.tup (nD one ++ cutD (nD one) (some (-1)) none)) := oAdd_tup (by omega)
  have a2 : oAdd [.tup (nD one), .tup [.int many]] = some (.tup (nD one ++ [.int many])) := oAdd_tup (by rw [List.length_singleton]; omega)
  have a3 : oAdd [.tup [.int (-1)], .tup (nD one)] = some (.tup (.int (-1) :: nD one)) := oAdd_tup (by rw [List.length_singleton]; omega)
  have a4 : oAdd [.tup (nD one), .tup [.int 23]] = some (.tup (nD one ++ [.int 23])) := oAdd_tup (by rw [List.length_singleton]; omega)
  have a5 : oAdd [.lst (near1 many one), .lst (near2 many one)] = some (.lst (near1 many one ++ near2 many one)) := oAdd_lst (by show 15 + 8 ≤ 1000; decide)
  have s1 : oSl (some (-1)) none (lotD one) = some (.tup (cutD (nD one) (some (-1)) none)) := rfl
  have s2 : oSl (some 1) none (lotD one) = some (.tup (cutD (nD one) (some 1) none)) := rfl
  have r1 : oRngL .tup [.int (many : Int)] = some (.tup (nD (List.range many))) := oRng_nat .tup (by omega)
  have p1 : oPow [.int 10, .int 40] = some (.int (10 ^ 40)) := by
    show (if cPow 10 40 = true then some (D.int (10 ^ (40 : Int).toNat)) else none) = _
    rw [if_pos (by decide +kernel)]
    rfl
  have n1 : oNeg [.int 1] = some (.int (-1)) := rfl
  have c1 : lcL (.n 4) tYs (mOp oEq [.s 4, .m (mK (.int 1))]) [4] (nD one) [.rf d, .fz (.int many), .fz (lotD one), .fz (.lst (near1 many one)), .no] = .ok ((one.map fun i => decide (i = 1)).map D.bl) [.rf d, .fz (.int many), .fz (lotD one), .fz (.lst (near1 many one)), .no] := by
    rw [List.map_map]
    refine lcL_all _ _ fun i hi => ⟨[.rf d, .fz (.int many), .fz (lotD one), .fz (.lst (near1 many one)), .fz (.int i)], [.rf d, .fz (.int many), .fz (lotD one), .fz (.lst (near1 many one)), .fz (.int i)], rfl, ?_, rfl⟩
    have e : decide ((i : Int) = 1) = decide (i = 1) := decide_eq_decide.mpr (by omega)
    simp only [runD, runF, runR, runRF, startE, rf0, sSeq, sNil, sPass, sEx, sRt, sRtN, sIf, sSet, sSetO, sPar, sAug, sSub, sAsg, sFz, sFor, mOp, evA, evP, fill, evS, mTup, mLst, mV, mK, mT, mNot, mAnd, mOr, mAndV, mOrV, mNotV, mIf, mChain, mCall, mCallL, mCallR, mIsi, mIt, iAny, mSl, evO, mGet, mOwn, PV.val, ownV, setV, free, bindT, bindTs, wipeE, backE, R.bind, R.bs, Rs.bind, Oe.ev, Oe.sl, tYs, isLst, List.map_cons, List.map_nil, List.length_cons, List.length_nil, List.replicate, List.cons_append, List.nil_append, List.append_nil, List.getElem?_cons_zero, List.getElem?_cons_succ, List.getElem?_nil, List.set_cons_zero, List.set_cons_succ, Option.some.injEq, if_true, if_false, Bool.false_eq_true, Nat.sub_self, Nat.reduceSub, Nat.reduceAdd, Nat.reduceLT, reduceCtorEq, ite_true, ite_false, Bool.not_true, Bool.not_false, Option.bind_some, Option.map_some, ne_eq, not_false_eq_true, and_self, and_true, true_and, Nat.succ_ne_self, List.contains_cons, List.contains_nil, String.reduceBEq, Bool.or_true, Bool.true_or, Bool.or_false, Bool.false_or, Bool.and_true, Bool.and_false, Bool.false_and, Bool.true_and, beq_self_eq_true, subN, tyN, Nat.reduceEqDiff, oEq, eqD_int, e]
    rfl
  have e1 : near1 many one = [lotD one, .lst (nD one), .tup (nD one).reverse, .tup (nD one ++ cutD (nD one) (some (-1)) none), .tup (nD one ++ [.int many]), .tup (.int (-1) :: nD one), .non, .tup [], .int 0, .str "0", .dik [], .tup [.bl true], .tup [.non], .tup [.tup [.int 0]], .str "abc"] := rfl
  have e2 : near2 many one = [.tup ((one.map fun i => decide (i = 1)).map D.bl), .tup (cutD (nD one) (some 1) none), .tup (nD (List.range many)), .tup [.int (10 ^ 40)], .tup [.str "0"], .tup (nD one ++ [.int 23]), .tup [.int 0, .int 0], .tup [.int 1, .int 0]] := rfl
  simp only [f__law_near, m__law_near, mLc, runD, runF, runR, runRF, startE, rf0, sSeq, sNil, sPass, sEx, sRt, sRtN, sIf, sSet, sSetO, sPar, sAug, sSub, sAsg, sFz, sFor, mOp, evA, evP, fill, evS, mTup, mLst, mV, mK, mT, mNot, mAnd, mOr, mAndV, mOrV, mNotV, mIf, mChain, mCall, mCallL, mCallR, mIsi, mIt, iAny, mSl, evO, mGet, mOwn, PV.val, ownV, setV, free, bindT, bindTs, wipeE, backE, R.bind, R.bs, Rs.bind, Oe.ev, Oe.sl, tYs, isLst, List.map_cons, List.map_nil, List.length_cons, List.length_nil, List.replicate, List.cons_append, List.nil_append, List.append_nil, List.getElem?_cons_zero, List.getElem?_cons_succ, List.getElem?_nil, List.set_cons_zero, List.set_cons_succ, Option.some.injEq, if_true, if_false, Bool.false_eq_true, Nat.sub_self, Nat.reduceSub, Nat.reduceAdd, Nat.reduceLT, reduceCtorEq, ite_true, ite_false, Bool.not_true, Bool.not_false, Option.bind_some, Option.map_some, ne_eq, not_false_eq_true, and_self, and_true, true_and, Nat.succ_ne_self, List.contains_cons, List.contains_nil, String.reduceBEq, Bool.or_true, Bool.true_or, Bool.or_false, Bool.false_or, Bool.and_true, Bool.and_false, Bool.false_and, Bool.true_and, beq_self_eq_true, subN, tyN, Nat.reduceEqDiff, oList, seqD, oRev, s1, a1, a2, a3, n1, ← e1, itD, hl3, c1, oTuple, s2, r1, p1, a4, ← e2, a5]
end K00

namespace K00
open PySem L2 PV BM
theorem okB_of {xs : List D} (h : ∀ x ∈ xs, (tyN x).isSome = true) (hl : xs.length < 64) : okB (.tup xs) = true := by
  show ((some "tuple").isSome && ((xs.all fun y => (tyN y).isSome) && decide (xs.length < 64))) = true
  rw [decide_eq_true hl, List.all_eq_true.mpr h]
  rfl
theorem nD_ty {l : List Nat} : ∀ x ∈ nD l, (tyN x).isSome = true := fun x hx => by
  obtain ⟨i, _, rfl⟩ := List.mem_map.mp hx
  rfl
theorem near_okB {many : Nat} {one : List Nat} (h : Lot many one) (hm : many ≤ 24) : ∀ v ∈ near1 many one ++ near2 many one, okB v = true := by
  have hl : one.length ≤ 24 := Nat.le_trans h.len hm
  have hl2 : (nD one).length ≤ 24 := by
    rw [List.length_map]
    exact hl
  intro v hv
  rcases List.mem_append.mp hv with hv | hv
  · simp only [near1, List.mem_cons, List.not_mem_nil, or_false] at hv
    rcases hv with rfl | rfl | rfl | rfl | rfl | rfl | rfl | rfl | rfl | rfl | rfl | rfl | rfl | rfl | rfl
    · exact okB_of nD_ty (by omega)
    · rfl
    · exact okB_of (fun x hx => nD_ty x (List.mem_reverse.mp hx)) (by rw [List.length_reverse]; omega)
    · refine okB_of (fun x hx => ?_) ?_
      · rcases List.mem_append.mp hx with hx | hx
        · exact nD_ty x hx
        · exact nD_ty x (cut_mem hx)
      · have := cut_len (nD one) (some (-1)) none
        rw [List.length_append]
        omega
    · refine okB_of (fun x hx => ?_) ?_
      · rcases List.mem_append.mp hx with hx | hx
        · exact nD_ty x hx
        · rw [List.mem_singleton.mp hx]
          rfl
      · rw [List.length_append, List.length_singleton]
        omega
    · refine okB_of (fun x hx => ?_) ?_
      · rcases List.mem_cons.mp hx with rfl | hx
        · rfl
        · exact nD_ty x hx
      · rw [List.length_cons]
        omega
    all_goals rfl
  · simp only [near2, List.mem_cons, List.not_mem_nil, or_false] at hv
    rcases hv with rfl | rfl | rfl | rfl | rfl | rfl | rfl | rfl
    · refine okB_of (fun x hx => ?_) (by rw [List.length_map, List.length_map]; omega)
      obtain ⟨b, _, rfl⟩ := List.mem_map.mp hx
      rfl
    · exact okB_of (fun x hx => nD_ty x (cut_mem hx)) (by have := cut_len (nD one) (some 1) none; omega)
    · exact okB_of nD_ty (by rw [List.length_map, List.length_range]; omega)
    · rfl
    · rfl
    · refine okB_of (fun x hx => ?_) ?_
      · rcases List.mem_append.mp hx with hx | hx
        · exact nD_ty x hx
        · rw [List.mem_singleton.mp hx]
          rfl
      · rw [List.length_append, List.length_singleton]
        omega
    all_goals rfl
/-! ### the lots that are near -/
def gp (x : D) : Prop := ∃ p, toP x = some p ∧ p.canLay0 = true ∧ p.depth ≤ 60
theorem gps {xs : List D} (h : ∀ x ∈ xs, gp x) (q : D → Bool) : ∃ ps, toPs (xs.filter q) = some ps ∧ SeqAt.shaped (.list ps) = true := by
  have : ∀ xs : List D, (∀ x ∈ xs, gp x) → ∃ ps, toPs xs = some ps ∧ PyData.canLayAll0 ps = true ∧ PyData.depthAll ps ≤ 60 := by
    intro xs
    induction xs with
    | nil => exact fun _ => ⟨[], rfl, by unfold PyData.canLayAll0; rfl, by unfold PyData.depthAll; exact Nat.zero_le _⟩
    | cons x r ih =>
      intro h
      obtain ⟨p, h1, h2, h3⟩ := h x (List.mem_cons_self ..)
      obtain ⟨ps, h4, h5, h6⟩ := ih fun y hy => h y (List.mem_cons_of_mem _ hy)
      refine ⟨p :: ps, ?_, ?_, ?_⟩
      · show (match toP x, toPs r with | some p, some ps => some (p :: ps) | _, _ => none) = _
        rw [h1, h4]
      · unfold PyData.canLayAll0
        rw [h2, h5]
        rfl
      · unfold PyData.depthAll
        exact Nat.max_le.mpr ⟨h3, h6⟩
  obtain ⟨ps, h1, h2, h3⟩ := this (xs.filter q) fun x hx => h x (List.mem_filter.mp hx).1
  refine ⟨ps, h1, ?_⟩
  unfold SeqAt.shaped
  have e1 : (PyData.list ps).canLay0 = true := by
    unfold PyData.canLay0
    exact h2
  have e2 : (PyData.list ps).depth ≤ 64 := by
    unfold PyData.depth
    omega
  rw [e1, decide_eq_true e2]
  rfl
theorem gp_enc {α : Type} [DecidableEq α] (E : Enc α) (h : E.n ≤ 60) (a : α) : gp (E.c a) := ⟨E.q a, E.hq a, E.lay a, Nat.le_trans (E.dep a) h⟩
theorem gp_lot (l : List Nat) : gp (lotD l) := gp_enc Enc.nat.tup (by decide) l
theorem gp_non : gp .non := ⟨.none, rfl, by unfold PyData.canLay0; rfl, by unfold PyData.depth; exact Nat.zero_le _⟩
def rep64 (n : Nat) (x : D) : List D := List.replicate n x
def nl1 (lots : List (List Nat)) (one : List Nat) : List D := [lotsD lots, .lst (lots.map lotD), .tup (lots.map lotD ++ lots.map lotD), .tup (lots.map lotD ++ [.non]), .tup (rep64 64 (lotD one)), .tup (rep64 65 (lotD one)), .tup (lots.map lotD ++ [.tup [.int 24]]), .tup (lots.map lotD ++ [.tup [.int 1, .int 0]]), .tup [], .non, .int 5, .str "", .dik []]
def nl2 (one : List Nat) : List D := [.tup [.lst (nD one)], .tup [.tup [.bl true]], .tup [.tup [.tup [.int 0]]], lotD one]
def nice (v : D) : Prop := okL v = true ∧ ∀ xs, v = .tup xs → ∀ x ∈ xs, gp x
theorem nice_tup {xs : List D} (h : ∀ x ∈ xs, okB x = true ∧ gp x) (hl : xs.length ≤ 1000) : nice (.tup xs) := by
  refine ⟨?_, fun ys e x hx => ?_⟩
  · show ((some "tuple").isSome && (xs.all okB && decide (xs.length ≤ 1000))) = true
    rw [decide_eq_true hl, List.all_eq_true.mpr fun x hx => (h x hx).1]
    rfl
  · cases e
    exact (h x hx).2
theorem agree {v : D} (h : nice v) : f_are_lots [v] = .ok (.bl (areLots v)) ∧ f__law_are_lots [v] = .ok (.bl (areLots v)) :=
  ⟨are_lots_ok h.1, law_are_lots_ok h.1 fun xs e => gps (h.2 xs e) _⟩
theorem nl_nice {lots : List (List Nat)} {one : List Nat} (h : Lots lots) (h1 : Lot 24 one) : ∀ v ∈ nl1 lots one ++ nl2 one, nice v := by
  have bl : ∀ x ∈ lots.map lotD, okB x = true ∧ gp x := fun x hx => by
    obtain ⟨l, hl, rfl⟩ := List.mem_map.mp hx
    exact ⟨okB_lot (Nat.lt_of_le_of_lt (h.1 l hl).len (by decide)), gp_lot l⟩
  have b1 : okB (lotD one) = true ∧ gp (lotD one) := ⟨okB_lot (Nat.lt_of_le_of_lt h1.len (by decide)), gp_lot one⟩
  have ll : (lots.map lotD).length ≤ 60 := by
    rw [List.length_map]
    exact h.2
  have app : ∀ (y : D), okB y = true ∧ gp y → nice (.tup (lots.map lotD ++ [y])) := fun y hy => nice_tup (fun x hx => by
    rcases List.mem_append.mp hx with hx | hx
    · exact bl x hx
    · rw [List.mem_singleton.mp hx]
      exact hy) (by rw [List.length_append, List.length_singleton]; omega)
  have flat : ∀ {v : D}, okL v = true → (∀ xs, v ≠ .tup xs) → nice v := fun a b => ⟨a, fun xs e => absurd e (b xs)⟩
  intro v hv
  rcases List.mem_append.mp hv with hv | hv
  · simp only [nl1, List.mem_cons, List.not_mem_nil, or_false] at hv
    rcases hv with rfl | rfl | rfl | rfl | rfl | rfl | rfl | rfl | rfl | rfl | rfl | rfl | rfl
    · exact nice_tup bl (by omega)
    · exact flat rfl fun xs e => by cases e
    · refine nice_tup (fun x hx => ?_) (by rw [List.length_append]; omega)
      rcases List.mem_append.mp hx with hx | hx
      · exact bl x hx
      · exact bl x hx
    · exact app _ ⟨rfl, gp_non⟩
    · exact nice_tup (fun x hx => by unfold rep64 at hx; rw [List.eq_of_mem_replicate hx]; exact b1) (by unfold rep64; rw [List.length_replicate]; decide)
    · exact nice_tup (fun x hx => by unfold rep64 at hx; rw [List.eq_of_mem_replicate hx]; exact b1) (by unfold rep64; rw [List.length_replicate]; decide)
    · exact app _ ⟨rfl, gp_lot [24]⟩
    · exact app _ ⟨rfl, gp_lot [1, 0]⟩
    · exact nice_tup (fun x hx => nomatch hx) (by decide)
    all_goals exact flat rfl fun xs e => by cases e
  · simp only [nl2, List.mem_cons, List.not_mem_nil, or_false] at hv
    rcases hv with rfl | rfl | rfl | rfl
    · exact nice_tup (fun x hx => by rw [List.mem_singleton.mp hx]; exact ⟨rfl, gp_enc Enc.nat.lst (by decide) one⟩) (by show 1 ≤ 1000; decide)
    · exact nice_tup (fun x hx => by rw [List.mem_singleton.mp hx]; exact ⟨rfl, gp_enc Enc.bl.tup (by decide) [true]⟩) (by decide)
    · exact nice_tup (fun x hx => by rw [List.mem_singleton.mp hx]; exact ⟨rfl, gp_enc Enc.nat.tup.tup (by decide) [[0]]⟩) (by decide)
    · refine nice_tup (fun x hx => ?_) (by rw [List.length_map]; have := h1.len; omega)
      obtain ⟨i, _, rfl⟩ := List.mem_map.mp hx
      exact ⟨rfl, gp_enc Enc.nat (by decide) i⟩
end K00
namespace K00
open PySem L2 PV BM
/-! ### parity -/
def par (X : Nat) (b : List Nat) : Nat := (b.filter X.testBit).length
theorem odd_par {X : Nat} {b : List Nat} (hX : X < 2 ^ 64) (hb : Lot 24 b) : bits (X &&& mask b) = b.filter X.testBit := srt_uniq (bits_srt _) (hb.1.filter _) fun k => by
  rw [mem_bits (Nat.lt_of_le_of_lt Nat.and_le_left hX), Nat.testBit_and, mask_bit hb.1, List.mem_filter]
  simp [and_comm]
theorem par_xor (X Y : Nat) : ∀ b : List Nat, par (X ^^^ Y) b % 2 = (par X b + par Y b) % 2
  | [] => rfl
  | k :: r => by
    have ih := par_xor X Y r
    unfold par at ih ⊢
    rw [List.filter_cons, List.filter_cons, List.filter_cons, Nat.testBit_xor]
    cases X.testBit k <;> cases Y.testBit k <;> simp <;> omega
theorem par_fold (f : Nat → Nat) (b : List Nat) : ∀ (p : List Nat) (a : Nat), par (p.foldl (fun a i => a ^^^ f i) a) b % 2 = (par a b + (p.filter fun i => decide (par (f i) b % 2 = 1)).length) % 2
  | [], a => by
    simp
  | i :: r, a => by
    rw [List.foldl_cons, par_fold f b r (a ^^^ f i), List.filter_cons]
    have := par_xor a (f i) b
    by_cases h : par (f i) b % 2 = 1
    · rw [if_pos (decide_eq_true h), List.length_cons]
      omega
    · rw [if_neg (by simpa using h)]
      omega
theorem mask_bits {X : Nat} (h : X < 2 ^ 64) : mask (bits X) = X := by
  apply Nat.eq_of_testBit_eq
  intro i
  rw [mask_bit (bits_srt X), Bool.eq_iff_iff, decide_eq_true_iff, mem_bits h]
theorem bits_lot {X : Nat} (h : X < 2 ^ 24) : Lot 24 (bits X) := ⟨bits_srt X, fun i hi => by
  have hb := (mem_bits (Nat.lt_of_lt_of_le h (by decide))).mp hi
  exact (Nat.pow_lt_pow_iff_right (a := 2) (by decide)).mp (Nat.lt_of_le_of_lt (Nat.ge_two_pow_of_testBit hb) h)⟩
theorem Lot.lt24 {l : List Nat} (h : Lot 24 l) : mask l < 2 ^ 24 := mask_lt h.1 h.2
theorem xf_lt24 {lots : List (List Nat)} (h : Lots lots) (pick : List Nat) : xf lots pick < 2 ^ 24 := by
  have : ∀ (pick : List Nat) (a : Nat), a < 2 ^ 24 → pick.foldl (fun a i => a ^^^ mask (lots.getD i [])) a < 2 ^ 24 := by
    intro pick
    induction pick with
    | nil => exact fun a ha => ha
    | cons i r ih => exact fun a ha => ih _ (Nat.xor_lt_two_pow ha (h.at i).lt24)
  exact this pick 0 (by decide)
theorem odd_is {a b : List Nat} (ha : Lot 24 a) (hb : Lot 24 b) : odd a b = decide (par (mask a) b % 2 = 1) := by
  unfold odd
  rw [odd_par ha.lt hb]
  rfl
theorem odd_told {lots : List (List Nat)} {pick one : List Nat} (h : Lots lots) (h1 : Lot 24 one) : odd (bits (xf lots pick)) one = decide ((pick.filter fun i => odd (lots.getD i []) one).length % 2 = 1) := by
  have hX := xf_lt24 h pick
  have hX64 : xf lots pick < 2 ^ 64 := xf_lt h pick
  rw [odd_is (bits_lot hX) h1, mask_bits hX64]
  have e : (pick.filter fun i => odd (lots.getD i []) one) = pick.filter fun i => decide (par (mask (lots.getD i [])) one % 2 = 1) := by
    congr 1
    funext i
    exact odd_is (h.at i) h1
  have p := par_fold (fun i => mask (lots.getD i [])) one pick 0
  rw [e]
  have z : par 0 one = 0 := by
    unfold par
    simp
  rw [z, Nat.zero_add] at p
  exact decide_eq_decide.mpr (by unfold xf; omega)
end K00

namespace K00
open PySem L2 PV BM
theorem eqD_bb (a b : Bool) : eqD (.bl a) (.bl b) = some (decide (a = b)) := Enc.bl.eq (by decide) a b
/-- the lots that are drawn -/
theorem draw_ok {n : Nat} {d A B C : D} {k : Nat} (hd : GD n d) (hn : n ≤ 800000) (hk : k ≤ 11) :
    ∃ (lots : List (List Nat)) (d' : D), lcL (.n 9) tYs (mCallR f__law_lo_any 0 [mOp oAdd [.m (mK (.int 1)), .m (mCallR f__law_roll 0 [mK (.int 24)])]]) [9] (nD (List.range k)) [.rf d, .fz A, .fz B, .fz C, .no, .no, .no, .no, .no, .no, .no, .no] = .ok (lots.map lotD) [.rf d', .fz A, .fz B, .fz C, .no, .no, .no, .no, .no, .no, .no, .no] ∧
      GD (n + 30 * k) d' ∧ (∀ l ∈ lots, Lot 24 l) ∧ lots.length = k := by
  have lp := lcL_inv (T := .n 9) (t := tYs) (m := mCallR f__law_lo_any 0 [mOp oAdd [.m (mK (.int 1)), .m (mCallR f__law_roll 0 [mK (.int 24)])]]) (vs := [9])
    (fun ds acc e => ∃ (lots : List (List Nat)) (d2 : D), acc = lots.map lotD ∧ e = [.rf d2, .fz A, .fz B, .fz C, .no, .no, .no, .no, .no, .no, .no, .no] ∧ GD (n + 30 * lots.length) d2 ∧ (∀ l ∈ lots, Lot 24 l) ∧ lots.length + ds.length = k ∧ ∀ x ∈ ds, ∃ i : Nat, x = .int i) (nD (List.range k)) [] [.rf d, .fz A, .fz B, .fz C, .no, .no, .no, .no, .no, .no, .no, .no] (by
      rintro x r acc e ⟨lots, d2, rfl, rfl, g, hl, hk2, hx⟩
      obtain ⟨i, rfl⟩ := hx x (List.mem_cons_self ..)
      rw [List.length_cons] at hk2
      obtain ⟨q, d3, h1, hq0, hq, g1⟩ := roll_ok g (by omega) (m := 24) (by decide) (by decide)
      obtain ⟨m, hm⟩ : ∃ m : Nat, (m : Int) = 1 + q := ⟨(1 + q).toNat, by omega⟩
      obtain ⟨l, d4, h2, g2, hL⟩ := lo_any_ok (many := m) g1 (by omega) (by omega)
      rw [hm] at h2
      refine ⟨[.rf d2, .fz A, .fz B, .fz C, .no, .no, .no, .no, .no, .fz (.int i), .no, .no], true, [.rf d2, .fz A, .fz B, .fz C, .no, .no, .no, .no, .no, .fz (.int i), .no, .no], rfl, rfl, fun z => (by cases z), fun _ => ?_⟩
      refine ⟨lotD l, [.rf d4, .fz A, .fz B, .fz C, .no, .no, .no, .no, .no, .fz (.int i), .no, .no], ?_, lots ++ [l], d4, ?_, rfl, ?_, ?_, ?_, fun y hy => hx y (List.mem_cons_of_mem _ hy)⟩
      · simp only [runD, runF, runR, runRF, startE, rf0, sSeq, sNil, sPass, sEx, sRt, sRtN, sIf, sSet, sSetO, sPar, sAug, sSub, sAsg, sFz, sFor, mOp, evA, evP, fill, evS, mTup, mLst, mV, mK, mT, mNot, mAnd, mOr, mAndV, mOrV, mNotV, mIf, mChain, mCall, mCallL, mCallR, mIsi, mIt, iAny, mSl, evO, mGet, mOwn, PV.val, ownV, setV, free, bindT, bindTs, wipeE, backE, R.bind, R.bs, Rs.bind, Oe.ev, Oe.sl, tYs, isLst, List.map_cons, List.map_nil, List.length_cons, List.length_nil, List.replicate, List.cons_append, List.nil_append, List.append_nil, List.getElem?_cons_zero, List.getElem?_cons_succ, List.getElem?_nil, List.set_cons_zero, List.set_cons_succ, Option.some.injEq, if_true, if_false, Bool.false_eq_true, Nat.sub_self, Nat.reduceSub, Nat.reduceAdd, Nat.reduceLT, reduceCtorEq, ite_true, ite_false, Bool.not_true, Bool.not_false, Option.bind_some, Option.map_some, ne_eq, not_false_eq_true, and_self, and_true, true_and, Nat.succ_ne_self, List.contains_cons, List.contains_nil, String.reduceBEq, Bool.or_true, Bool.true_or, Bool.or_false, Bool.false_or, Bool.and_true, Bool.and_false, Bool.false_and, Bool.true_and, beq_self_eq_true, subN, tyN, Nat.reduceEqDiff, h1, oAdd, h2]
      · rw [List.map_append]
        rfl
      · refine g2.mono ?_
        rw [List.length_append, List.length_singleton]
        omega
      · intro y hy
        rcases List.mem_append.mp hy with hy | hy
        · exact hl y hy
        · rw [List.mem_singleton.mp hy]
          exact hL.mono (by omega)
      · rw [List.length_append, List.length_singleton]
        omega) ⟨[], d, rfl, rfl, hd, fun _ z => (nomatch z), (by rw [List.length_map, List.length_range]; simp), fun x hx => by
        obtain ⟨i, _, rfl⟩ := List.mem_map.mp hx
        exact ⟨i, rfl⟩⟩
  obtain ⟨ys, e', h1, lots, d2, h2, rfl, g, hl, hk2, _⟩ := lp
  rw [List.nil_append] at h2
  subst h2
  rw [List.length_nil, Nat.add_zero] at hk2
  subst hk2
  exact ⟨lots, d2, h1, g, hl, rfl⟩
end K00
namespace K00
open PySem L2 PV BM
theorem ne_lot (l : List Nat) : oNe [lotD l, lotD l] = some (.bl false) := by
  simp only [oNe, eqD_tn, Option.map_some, decide_true, Bool.not_true]
theorem ne_bl (b : Bool) : oNe [.bl b, .bl b] = some (.bl false) := by
  simp only [oNe, eqD_bb, Option.map_some, decide_true, Bool.not_true]
theorem ne_l0 : oNe [.lst [], .lst []] = some (.bl false) := by
  simp only [oNe, eqD_l00, Option.map_some, Bool.not_true]
theorem eq_l0 : oEq [.lst [], .lst []] = some (.bl true) := by
  simp only [oEq, eqD_l00, Option.map_some]
/-- none is found -/
theorem none_found {T : Tg} {t : En → R Bool} {m : En → R D} {vs : List Nat} {e : En} {ds : List D} (h : ∀ d ∈ ds, ∃ e1 e2, bindT T d e = some e1 ∧ t e1 = .ok false e2 ∧ wipeE e2 vs = e) : lcL T t m vs ds e = .ok [] e := by
  have := lcL_pure (T := T) (t := t) (m := m) (vs := vs) (e := e) (fun d => d) (fun _ => false) (fun d => d) (ds := ds) fun d hd => by
    obtain ⟨e1, e2, h1, h2, h3⟩ := h d hd
    exact ⟨e1, e2, h1, h2, fun _ => h3, fun z => (by cases z)⟩
  rw [List.map_id', List.map_id'] at this
  rw [this]
  congr 1
  exact List.filter_eq_nil_iff.mpr fun _ _ => Bool.false_ne_true
theorem right_ok {n : Nat} {d : D} (hd : GD n d) (hn : n ≤ 700000) : ∃ d', f__law_right d [] = .ok (.bl true) d' ∧ GD (n + 1000) d' := by
  obtain ⟨k0, d1, h_roll0, hk00, hk0, g1⟩ := roll_ok hd (by omega) (m := 24) (by decide) (by decide)
  obtain ⟨many, hm⟩ : ∃ many : Nat, 1 + k0 = (many : Int) := ⟨(1 + k0).toNat, by omega⟩
  have hm1 : 1 ≤ many := by omega
  have hm2 : many ≤ 24 := by omega
  obtain ⟨one, d2, h_one, g2, L1⟩ := lo_any_ok (many := many) g1 (by omega) hm2
  obtain ⟨other, d3, h_other, g3, L2'⟩ := lo_any_ok (many := 24) g2 (by omega) (by decide)
  have h_other : f__law_lo_any d2 [.int 24] = .ok (lotD other) d3 := h_other
  have L1' : Lot 24 one := L1.mono hm2
  have s12 := lot_sum_ok L1' L2'
  have s12' := lo_sum_ok L1' L2'
  have s21 := lot_sum_ok L2' L1'
  rw [Nat.xor_comm] at s21
  have s11 : f_lot_sum [lotD one, lotD one] = .ok (lotD []) := by
    have := lot_sum_ok L1' L1'
    rw [Nat.xor_self, bits_zero] at this
    exact this
  have s10 : f_lot_sum [lotD one, .tup []] = .ok (lotD one) := by
    have := lot_sum_ok L1' (b := []) ⟨.nil, fun _ z => nomatch z⟩
    have e : mask one ^^^ mask [] = mask one := Nat.xor_zero _
    rw [e, bits_mask L1'.1 fun i hi => Nat.lt_trans (L1'.2 i hi) (by decide)] at this
    exact this
  have ne_t0 : oNe [lotD [], .tup []] = some (.bl false) := ne_lot []
  have o12 := does_meet_ok L1' L2'
  have o12' := lo_is_odd_ok L1' L2'
  obtain ⟨ki, d4, h_roll12, hki0, hki, g4⟩ := roll_ok g3 (by omega) (m := 12) (by decide) (by decide)
  obtain ⟨k, rfl⟩ : ∃ k : Nat, ki = (k : Int) := ⟨ki.toNat, by omega⟩
  have r12 := iRange1_nat (n := k) (by omega)
  obtain ⟨lots, d5, h_draw, g5, hl, hlk⟩ := draw_ok (A := .int many) (B := lotD one) (C := lotD other) (k := k) g4 (by omega) (by omega)
  have hL : Lots lots := ⟨hl, by omega⟩
  have lk : (nD (List.range k)).length ≤ lim := by
    rw [List.length_map, List.length_range]
    exact Nat.le_trans (show k ≤ 11 by omega) (by decide)
  have o_len : oLen [lotsD lots] = some (.int (lots.length : Nat)) := by
    show some (D.int (((lots.map lotD).length : Nat) : Int)) = _
    rw [List.length_map]
  have o_rng : oRngL .lst [.int (lots.length : Int)] = some (.lst (nD (List.range lots.length))) := oRng_nat .lst (by omega)
  obtain ⟨l', d6, h_mixed, g6, hp⟩ := mixed_ok (l := List.range lots.length) g5 (by omega) (by rw [List.length_range]; omega)
  rw [List.length_range] at g6
  obtain ⟨q, d7, h_rollq, hq0, hq, g7⟩ := roll_ok g6 (by omega) (m := (lots.length : Int) + 1) (by omega) (by omega)
  obtain ⟨pick, hpick, o_sorted⟩ := pick_ok (k := q.toNat) hp
  have o_sl : oSl none (some q) (.lst (nD l')) = some (.lst (nD (l'.take q.toNat))) := by
    show some (D.lst (cutD (nD l') none (some q))) = _
    rw [cut_take _ hq0, ← List.map_take]
  have h_told := sum_of_pick_ok hL hpick
  have pl : pick.length ≤ 11 := Nat.le_trans hpick.len (by omega)
  have lp : (nD pick).length ≤ lim := by
    rw [List.length_map]
    exact Nat.le_trans pl (by decide)
  generalize htold : lotD (bits (xf lots pick)) = told at h_told
  have ix : ∀ i ∈ pick, oIxx [lotsD lots, .int (i : Nat)] = some (lotD (lots.getD i [])) := fun i hi => by
    show L2.atI (lots.map lotD) (i : Int) = _
    exact atI_nat (getD_map lotD (hpick.2 i hi) [])
  have c10 : lcL (.n 10) tYs (mOp oIxx [.s 4, .s 10]) [10] (nD pick) [.rf d7, .fz (.int many), .fz (lotD one), .fz (lotD other), .fz (lotsD lots), .fz (lotD pick), .fz told, .no, .no, .no, .no, .no] = .ok ((pick.map fun i => lots.getD i []).map lotD) [.rf d7, .fz (.int many), .fz (lotD one), .fz (lotD other), .fz (lotsD lots), .fz (lotD pick), .fz told, .no, .no, .no, .no, .no] := by
    rw [List.map_map]
    exact lcL_all _ _ fun i hi => ⟨[.rf d7, .fz (.int many), .fz (lotD one), .fz (lotD other), .fz (lotsD lots), .fz (lotD pick), .fz told, .no, .no, .no, .fz (.int i), .no], [.rf d7, .fz (.int many), .fz (lotD one), .fz (lotD other), .fz (lotsD lots), .fz (lotD pick), .fz told, .no, .no, .no, .fz (.int i), .no], rfl, (by simp only [runD, runF, runR, runRF, startE, rf0, sSeq, sNil, sPass, sEx, sRt, sRtN, sIf, sSet, sSetO, sPar, sAug, sSub, sAsg, sFz, sFor, mOp, evA, evP, fill, evS, mTup, mLst, mV, mK, mT, mNot, mAnd, mOr, mAndV, mOrV, mNotV, mIf, mChain, mCall, mCallL, mCallR, mIsi, mIt, iAny, mSl, evO, mGet, mOwn, PV.val, ownV, setV, free, bindT, bindTs, wipeE, backE, R.bind, R.bs, Rs.bind, Oe.ev, Oe.sl, tYs, isLst, List.map_cons, List.map_nil, List.length_cons, List.length_nil, List.replicate, List.cons_append, List.nil_append, List.append_nil, List.getElem?_cons_zero, List.getElem?_cons_succ, List.getElem?_nil, List.set_cons_zero, List.set_cons_succ, Option.some.injEq, if_true, if_false, Bool.false_eq_true, Nat.sub_self, Nat.reduceSub, Nat.reduceAdd, Nat.reduceLT, reduceCtorEq, ite_true, ite_false, Bool.not_true, Bool.not_false, Option.bind_some, Option.map_some, ne_eq, not_false_eq_true, and_self, and_true, true_and, Nat.succ_ne_self, List.contains_cons, List.contains_nil, String.reduceBEq, Bool.or_true, Bool.true_or, Bool.or_false, Bool.false_or, Bool.and_true, Bool.and_false, Bool.false_and, Bool.true_and, beq_self_eq_true, subN, tyN, Nat.reduceEqDiff, ix i hi]; rfl), rfl⟩
  have h_total : f__law_lo_total [.lst ((pick.map fun i => lots.getD i []).map lotD)] = .ok told := by
    rw [lo_total_ok (fun l hl => by
      obtain ⟨i, _, rfl⟩ := List.mem_map.mp hl
      exact hL.at i) (by rw [List.length_map]; omega), ← xf_xl, htold]
  have ne_told : oNe [told, told] = some (.bl false) := by
    rw [← htold]
    exact ne_lot _
  have cmet : lcL (.n 10) (mT (mCall f_does_meet_oddly [mOp oIxx [.s 4, .s 10], mV 2])) (mV 10) [10] (nD pick) [.rf d7, .fz (.int many), .fz (lotD one), .fz (lotD other), .fz (lotsD lots), .fz (lotD pick), .fz told, .no, .no, .no, .no, .no] = .ok (nD (pick.filter fun i => odd (lots.getD i []) one)) [.rf d7, .fz (.int many), .fz (lotD one), .fz (lotD other), .fz (lotsD lots), .fz (lotD pick), .fz told, .no, .no, .no, .no, .no] :=
    lcL_pure _ _ _ fun i hi => ⟨[.rf d7, .fz (.int many), .fz (lotD one), .fz (lotD other), .fz (lotsD lots), .fz (lotD pick), .fz told, .no, .no, .no, .fz (.int i), .no], [.rf d7, .fz (.int many), .fz (lotD one), .fz (lotD other), .fz (lotsD lots), .fz (lotD pick), .fz told, .no, .no, .no, .fz (.int i), .no], rfl, by simp only [runD, runF, runR, runRF, startE, rf0, sSeq, sNil, sPass, sEx, sRt, sRtN, sIf, sSet, sSetO, sPar, sAug, sSub, sAsg, sFz, sFor, mOp, evA, evP, fill, evS, mTup, mLst, mV, mK, mT, mNot, mAnd, mOr, mAndV, mOrV, mNotV, mIf, mChain, mCall, mCallL, mCallR, mIsi, mIt, iAny, mSl, evO, mGet, mOwn, PV.val, ownV, setV, free, bindT, bindTs, wipeE, backE, R.bind, R.bs, Rs.bind, Oe.ev, Oe.sl, tYs, isLst, List.map_cons, List.map_nil, List.length_cons, List.length_nil, List.replicate, List.cons_append, List.nil_append, List.append_nil, List.getElem?_cons_zero, List.getElem?_cons_succ, List.getElem?_nil, List.set_cons_zero, List.set_cons_succ, Option.some.injEq, if_true, if_false, Bool.false_eq_true, Nat.sub_self, Nat.reduceSub, Nat.reduceAdd, Nat.reduceLT, reduceCtorEq, ite_true, ite_false, Bool.not_true, Bool.not_false, Option.bind_some, Option.map_some, ne_eq, not_false_eq_true, and_self, and_true, true_and, Nat.succ_ne_self, List.contains_cons, List.contains_nil, String.reduceBEq, Bool.or_true, Bool.true_or, Bool.or_false, Bool.false_or, Bool.and_true, Bool.and_false, Bool.false_and, Bool.true_and, beq_self_eq_true, subN, tyN, Nat.reduceEqDiff, ix i hi, does_meet_ok (hL.at i) L1'], fun _ => rfl,
      fun _ => ⟨[.rf d7, .fz (.int many), .fz (lotD one), .fz (lotD other), .fz (lotsD lots), .fz (lotD pick), .fz told, .no, .no, .no, .fz (.int i), .no], rfl, rfl⟩⟩
  have h_tm : f_does_meet_oddly [told, lotD one] = .ok (.bl (decide ((pick.filter fun i => odd (lots.getD i []) one).length % 2 = 1))) := by
    rw [← htold, does_meet_ok (bits_lot (xf_lt24 hL pick)) L1', odd_told hL L1']
  have e2 : oMod [.int ((pick.filter fun i => odd (lots.getD i []) one).length : Nat), .int 2] = some (.int ((((pick.filter fun i => odd (lots.getD i []) one).length : Nat) : Int).fmod 2)) := rfl
  have o_lm : oLen [.lst (nD (pick.filter fun i => odd (lots.getD i []) one))] = some (.int ((pick.filter fun i => odd (lots.getD i []) one).length : Nat)) := by
    show some (D.int (((nD (pick.filter fun i => odd (lots.getD i []) one)).length : Nat) : Int)) = _
    rw [List.length_map]
  generalize hmet : (pick.filter fun i => odd (lots.getD i []) one) = met at cmet h_tm e2 o_lm
  have h_near := near_ok (d := d7) L1 hm2
  have nb := near_okB L1 hm2
  have ln : (near1 many one ++ near2 many one).length ≤ lim := by
    show 15 + 8 ≤ lim
    decide
  generalize hNL : near1 many one ++ near2 many one = NL at h_near nb ln
  have cnear : lcL (.n 11) (mT (mOp oNe [.m (mCall f_is_lot_of [mV 1, mV 11]), .m (mCall f__law_lo_is [mV 11, mV 1])])) (mV 11) [11] NL [.rf d7, .fz (.int many), .fz (lotD one), .fz (lotD other), .fz (lotsD lots), .fz (lotD pick), .fz told, .fz (.lst (nD met)), .no, .no, .no, .no] = .ok [] [.rf d7, .fz (.int many), .fz (lotD one), .fz (lotD other), .fz (lotsD lots), .fz (lotD pick), .fz told, .fz (.lst (nD met)), .no, .no, .no, .no] :=
    none_found fun v hv => ⟨[.rf d7, .fz (.int many), .fz (lotD one), .fz (lotD other), .fz (lotsD lots), .fz (lotD pick), .fz told, .fz (.lst (nD met)), .no, .no, .no, .fz v], [.rf d7, .fz (.int many), .fz (lotD one), .fz (lotD other), .fz (lotsD lots), .fz (lotD pick), .fz told, .fz (.lst (nD met)), .no, .no, .no, .fz v], rfl, by simp only [runD, runF, runR, runRF, startE, rf0, sSeq, sNil, sPass, sEx, sRt, sRtN, sIf, sSet, sSetO, sPar, sAug, sSub, sAsg, sFz, sFor, mOp, evA, evP, fill, evS, mTup, mLst, mV, mK, mT, mNot, mAnd, mOr, mAndV, mOrV, mNotV, mIf, mChain, mCall, mCallL, mCallR, mIsi, mIt, iAny, mSl, evO, mGet, mOwn, PV.val, ownV, setV, free, bindT, bindTs, wipeE, backE, R.bind, R.bs, Rs.bind, Oe.ev, Oe.sl, tYs, isLst, List.map_cons, List.map_nil, List.length_cons, List.length_nil, List.replicate, List.cons_append, List.nil_append, List.append_nil, List.getElem?_cons_zero, List.getElem?_cons_succ, List.getElem?_nil, List.set_cons_zero, List.set_cons_succ, Option.some.injEq, if_true, if_false, Bool.false_eq_true, Nat.sub_self, Nat.reduceSub, Nat.reduceAdd, Nat.reduceLT, reduceCtorEq, ite_true, ite_false, Bool.not_true, Bool.not_false, Option.bind_some, Option.map_some, ne_eq, not_false_eq_true, and_self, and_true, true_and, Nat.succ_ne_self, List.contains_cons, List.contains_nil, String.reduceBEq, Bool.or_true, Bool.true_or, Bool.or_false, Bool.false_or, Bool.and_true, Bool.and_false, Bool.false_and, Bool.true_and, beq_self_eq_true, subN, tyN, Nat.reduceEqDiff, is_lot_of_okB hm1 hm2 (nb v hv), lo_is_okB (nb v hv), ne_bl], rfl⟩
  have ll : (lots.map lotD).length ≤ 60 := by
    rw [List.length_map]
    exact hL.2
  have a1 : oAdd [lotsD lots, lotsD lots] = some (.tup (lots.map lotD ++ lots.map lotD)) := oAdd_tup (by omega)
  have a2 : oAdd [lotsD lots, .tup [.non]] = some (.tup (lots.map lotD ++ [.non])) := oAdd_tup (by rw [List.length_singleton]; omega)
  have a3 : oAdd [lotsD lots, .tup [.tup [.int 24]]] = some (.tup (lots.map lotD ++ [.tup [.int 24]])) := oAdd_tup (by rw [List.length_singleton]; omega)
  have a4 : oAdd [lotsD lots, .tup [.tup [.int 1, .int 0]]] = some (.tup (lots.map lotD ++ [.tup [.int 1, .int 0]])) := oAdd_tup (by rw [List.length_singleton]; omega)
  have m1 : oMul [.tup [lotD one], .int 64] = some (.tup (rep64 64 (lotD one))) := by
    show (if [lotD one].isEmpty = false ∧ (2 : Int) ≤ 64 ∧ (64 : Int) ≤ 1000 ∧ [lotD one].length ≤ 1000 then some (D.tup (List.replicate 64 [lotD one]).flatten) else none) = _
    rw [if_pos ⟨rfl, by decide, by decide, by show 1 ≤ 1000; decide⟩, List.flatten_replicate_singleton]
    rfl
  have m2 : oMul [.tup [lotD one], .int 65] = some (.tup (rep64 65 (lotD one))) := by
    show (if [lotD one].isEmpty = false ∧ (2 : Int) ≤ 65 ∧ (65 : Int) ≤ 1000 ∧ [lotD one].length ≤ 1000 then some (D.tup (List.replicate 65 [lotD one]).flatten) else none) = _
    rw [if_pos ⟨rfl, by decide, by decide, by show 1 ≤ 1000; decide⟩, List.flatten_replicate_singleton]
    rfl
  have a5 : oAdd [.lst (nl1 lots one), .lst (nl2 one)] = some (.lst (nl1 lots one ++ nl2 one)) := oAdd_lst (by show 13 + 4 ≤ 1000; decide)
  have x1 : nl1 lots one = [lotsD lots, .lst (lots.map lotD), .tup (lots.map lotD ++ lots.map lotD), .tup (lots.map lotD ++ [.non]), .tup (rep64 64 (lotD one)), .tup (rep64 65 (lotD one)), .tup (lots.map lotD ++ [.tup [.int 24]]), .tup (lots.map lotD ++ [.tup [.int 1, .int 0]]), .tup [], .non, .int 5, .str "", .dik []] := rfl
  have x2 : nl2 one = [.tup [.lst (nD one)], .tup [.tup [.bl true]], .tup [.tup [.tup [.int 0]]], lotD one] := rfl
  have ml1 : oList [lotsD lots] = some (.lst (lots.map lotD)) := rfl
  have ml2 : oList [lotD one] = some (.lst (nD one)) := rfl
  have nn := nl_nice hL L1'
  have lnn : (nl1 lots one ++ nl2 one).length ≤ lim := by
    show 13 + 4 ≤ lim
    decide
  have cl : lcL (.n 11) (mT (mOp oNe [.m (mCall f_are_lots [mV 11]), .m (mCall f__law_are_lots [mV 11])])) (mV 11) [11] (nl1 lots one ++ nl2 one) [.rf d7, .fz (.int many), .fz (lotD one), .fz (lotD other), .fz (lotsD lots), .fz (lotD pick), .fz told, .fz (.lst (nD met)), .fz (.lst (nl1 lots one ++ nl2 one)), .no, .no, .no] = .ok [] [.rf d7, .fz (.int many), .fz (lotD one), .fz (lotD other), .fz (lotsD lots), .fz (lotD pick), .fz told, .fz (.lst (nD met)), .fz (.lst (nl1 lots one ++ nl2 one)), .no, .no, .no] :=
    none_found fun v hv => ⟨[.rf d7, .fz (.int many), .fz (lotD one), .fz (lotD other), .fz (lotsD lots), .fz (lotD pick), .fz told, .fz (.lst (nD met)), .fz (.lst (nl1 lots one ++ nl2 one)), .no, .no, .fz v], [.rf d7, .fz (.int many), .fz (lotD one), .fz (lotD other), .fz (lotsD lots), .fz (lotD pick), .fz told, .fz (.lst (nD met)), .fz (.lst (nl1 lots one ++ nl2 one)), .no, .no, .fz v], rfl, by simp only [runD, runF, runR, runRF, startE, rf0, sSeq, sNil, sPass, sEx, sRt, sRtN, sIf, sSet, sSetO, sPar, sAug, sSub, sAsg, sFz, sFor, mOp, evA, evP, fill, evS, mTup, mLst, mV, mK, mT, mNot, mAnd, mOr, mAndV, mOrV, mNotV, mIf, mChain, mCall, mCallL, mCallR, mIsi, mIt, iAny, mSl, evO, mGet, mOwn, PV.val, ownV, setV, free, bindT, bindTs, wipeE, backE, R.bind, R.bs, Rs.bind, Oe.ev, Oe.sl, tYs, isLst, List.map_cons, List.map_nil, List.length_cons, List.length_nil, List.replicate, List.cons_append, List.nil_append, List.append_nil, List.getElem?_cons_zero, List.getElem?_cons_succ, List.getElem?_nil, List.set_cons_zero, List.set_cons_succ, Option.some.injEq, if_true, if_false, Bool.false_eq_true, Nat.sub_self, Nat.reduceSub, Nat.reduceAdd, Nat.reduceLT, reduceCtorEq, ite_true, ite_false, Bool.not_true, Bool.not_false, Option.bind_some, Option.map_some, ne_eq, not_false_eq_true, and_self, and_true, true_and, Nat.succ_ne_self, List.contains_cons, List.contains_nil, String.reduceBEq, Bool.or_true, Bool.true_or, Bool.or_false, Bool.false_or, Bool.and_true, Bool.and_false, Bool.false_and, Bool.true_and, beq_self_eq_true, subN, tyN, Nat.reduceEqDiff, (agree (nn v hv)).1, (agree (nn v hv)).2, ne_bl], rfl⟩
  refine ⟨d7, ?_, g7.mono (by omega)⟩
  have oadd1 : oAdd [.int 1, .int k0] = some (.int many) := by
    show some (D.int (1 + k0)) = _
    rw [hm]
  have oaddq : oAdd [.int (lots.length : Int), .int 1] = some (.int ((lots.length : Int) + 1)) := rfl
  have otl : oTuple [.lst (lots.map lotD)] = some (lotsD lots) := rfl
  have otp : oTuple [.lst (nD pick)] = some (lotD pick) := rfl
  simp only [f__law_right, m__law_right, mLc, runD, runF, runR, runRF, startE, rf0, sSeq, sNil, sPass, sEx, sRt, sRtN, sIf, sSet, sSetO, sPar, sAug, sSub, sAsg, sFz, sFor, mOp, evA, evP, fill, evS, mTup, mLst, mV, mK, mT, mNot, mAnd, mOr, mAndV, mOrV, mNotV, mIf, mChain, mCall, mCallL, mCallR, mIsi, mIt, iAny, mSl, evO, mGet, mOwn, PV.val, ownV, setV, free, bindT, bindTs, wipeE, backE, R.bind, R.bs, Rs.bind, Oe.ev, Oe.sl, tYs, isLst, List.map_cons, List.map_nil, List.length_cons, List.length_nil, List.replicate, List.cons_append, List.nil_append, List.append_nil, List.getElem?_cons_zero, List.getElem?_cons_succ, List.getElem?_nil, List.set_cons_zero, List.set_cons_succ, Option.some.injEq, if_true, if_false, Bool.false_eq_true, Nat.sub_self, Nat.reduceSub, Nat.reduceAdd, Nat.reduceLT, reduceCtorEq, ite_true, ite_false, Bool.not_true, Bool.not_false, Option.bind_some, Option.map_some, ne_eq, not_false_eq_true, and_self, and_true, true_and, Nat.succ_ne_self, List.contains_cons, List.contains_nil, String.reduceBEq, Bool.or_true, Bool.true_or, Bool.or_false, Bool.false_or, Bool.and_true, Bool.and_false, Bool.false_and, Bool.true_and, beq_self_eq_true, subN, tyN, Nat.reduceEqDiff, h_roll0, oadd1, h_one, h_other, s12, s12', ne_lot, o12, o12', ne_bl, s21, s11, ne_t0, s10, h_roll12, r12, lk, h_draw, otl, o_len, o_rng, h_mixed, oaddq, h_rollq, o_sl, o_sorted, otp, h_told, itD, seqD, lp, c10, h_total, ne_told, cmet, h_tm, o_lm, e2, odd_ok,
    h_near, ln, cnear, ne_l0, a1, a2, a3, a4, m1, m2, ml1, ml2, ← x1, ← x2, a5, lnn, cl, eq_l0]
end K00

namespace K00
open PySem L2 PV BM
theorem cMul_small {a b : Int} (ha : a.natAbs < 2 ^ 400000) (hb : b.natAbs < 2 ^ 400000) : cMul a b = true := by
  unfold cMul
  refine decide_eq_true ?_
  have f : ∀ x : Int, x.natAbs < 2 ^ 400000 → x.natAbs.log2 < 400000 := fun x hx => by
    rcases Nat.eq_zero_or_pos x.natAbs with z | z
    · rw [z]
      decide
    · exact (Nat.log2_lt (by omega)).mpr hx
  have h1 := f a ha
  have h2 := f b hb
  omega
theorem small_pow {x : Int} (h : x.natAbs ≤ 2 ^ 64) : x.natAbs < 2 ^ 400000 := Nat.lt_of_le_of_lt h (Nat.pow_lt_pow_right (by decide) (by decide))
theorem dice_ok {ns : List Int} {spot : Nat} (hs : spot ≤ 100) : ∃ d, f__law_dice [.ro (ns.map D.int), .int spot] = .ok d ∧ GD 0 d := by
  have hlen : oLen [.ro (ns.map D.int)] = some (.int (ns.length : Nat)) := by
    show some (D.int (((ns.map D.int).length : Nat) : Int)) = _
    rw [List.length_map]
  have m1 : oMul [.int 127, .int (spot : Int)] = some (.int (127 * spot)) := by
    show (if cMul 127 spot = true then _ else _) = _
    rw [if_pos (cMul_small (small_pow (by decide)) (small_pow (by omega)))]
  have m2 : oMul [.int 1031, .int (spot : Int)] = some (.int (1031 * spot)) := by
    show (if cMul 1031 spot = true then _ else _) = _
    rw [if_pos (cMul_small (small_pow (by decide)) (small_pow (by omega)))]
  have cellx : ∃ cell : Int, (mIf (mT (mOp oLt [.s 1, .m (mOp oLen [.s 0])])) (mOp oInt [.m (mOp oIxx [.s 0, .s 1])]) (mOp oAdd [.m (mOp oMul [.m (mK (.int 127)), .s 1]), .m (mK (.int 71))])) [.fz (.ro (ns.map D.int)), .fz (.int spot), .no, .no] = .ok (.int cell) [.fz (.ro (ns.map D.int)), .fz (.int spot), .no, .no] := by
    by_cases h : spot < ns.length
    · have h' : (spot : Int) < (ns.length : Int) := by omega
      refine ⟨ns[spot], ?_⟩
      have hix : oIxx [.ro (ns.map D.int), .int (spot : Nat)] = some (.int ns[spot]) := by
        show L2.atI (ns.map D.int) (spot : Int) = _
        refine atI_nat ?_
        rw [List.getElem?_map, List.getElem?_eq_getElem h]
        rfl
      simp only [runD, runF, runR, runRF, startE, rf0, sSeq, sNil, sPass, sEx, sRt, sRtN, sIf, sSet, sSetO, sPar, sAug, sSub, sAsg, sFz, sFor, mOp, evA, evP, fill, evS, mTup, mLst, mV, mK, mT, mNot, mAnd, mOr, mAndV, mOrV, mNotV, mIf, mChain, mCall, mCallL, mCallR, mIsi, mIt, iAny, mSl, evO, mGet, mOwn, PV.val, ownV, setV, free, bindT, bindTs, wipeE, backE, R.bind, R.bs, Rs.bind, Oe.ev, Oe.sl, tYs, isLst, List.map_cons, List.map_nil, List.length_cons, List.length_nil, List.replicate, List.cons_append, List.nil_append, List.append_nil, List.getElem?_cons_zero, List.getElem?_cons_succ, List.getElem?_nil, List.set_cons_zero, List.set_cons_succ, Option.some.injEq, if_true, if_false, Bool.false_eq_true, Nat.sub_self, Nat.reduceSub, Nat.reduceAdd, Nat.reduceLT, reduceCtorEq, ite_true, ite_false, Bool.not_true, Bool.not_false, Option.bind_some, Option.map_some, ne_eq, not_false_eq_true, and_self, and_true, true_and, Nat.succ_ne_self, List.contains_cons, List.contains_nil, String.reduceBEq, Bool.or_true, Bool.true_or, Bool.or_false, Bool.false_or, Bool.and_true, Bool.and_false, Bool.false_and, Bool.true_and, beq_self_eq_true, subN, tyN, Nat.reduceEqDiff, hlen, o2I, h', decide_true, hix, oInt]
    · have h' : ¬ (spot : Int) < (ns.length : Int) := by omega
      refine ⟨127 * spot + 71, ?_⟩
      simp only [runD, runF, runR, runRF, startE, rf0, sSeq, sNil, sPass, sEx, sRt, sRtN, sIf, sSet, sSetO, sPar, sAug, sSub, sAsg, sFz, sFor, mOp, evA, evP, fill, evS, mTup, mLst, mV, mK, mT, mNot, mAnd, mOr, mAndV, mOrV, mNotV, mIf, mChain, mCall, mCallL, mCallR, mIsi, mIt, iAny, mSl, evO, mGet, mOwn, PV.val, ownV, setV, free, bindT, bindTs, wipeE, backE, R.bind, R.bs, Rs.bind, Oe.ev, Oe.sl, tYs, isLst, List.map_cons, List.map_nil, List.length_cons, List.length_nil, List.replicate, List.cons_append, List.nil_append, List.append_nil, List.getElem?_cons_zero, List.getElem?_cons_succ, List.getElem?_nil, List.set_cons_zero, List.set_cons_succ, Option.some.injEq, if_true, if_false, Bool.false_eq_true, Nat.sub_self, Nat.reduceSub, Nat.reduceAdd, Nat.reduceLT, reduceCtorEq, ite_true, ite_false, Bool.not_true, Bool.not_false, Option.bind_some, Option.map_some, ne_eq, not_false_eq_true, and_self, and_true, true_and, Nat.succ_ne_self, List.contains_cons, List.contains_nil, String.reduceBEq, Bool.or_true, Bool.true_or, Bool.or_false, Bool.false_or, Bool.and_true, Bool.and_false, Bool.false_and, Bool.true_and, beq_self_eq_true, subN, tyN, Nat.reduceEqDiff, hlen, o2I, h', decide_false, m1, oAdd]
  obtain ⟨cell, hcell⟩ := cellx
  have p1 : oPow [.int 10, .int 16] = some (.int (10 ^ 16)) := by
    show (if cPow 10 16 = true then some (D.int (10 ^ (16 : Int).toNat)) else none) = _
    rw [if_pos (by decide +kernel)]
    rfl
  have p2 : oPow [.int 10, .int 57] = some (.int (10 ^ 57)) := by
    show (if cPow 10 57 = true then some (D.int (10 ^ (57 : Int).toNat)) else none) = _
    rw [if_pos (by decide +kernel)]
    rfl
  have p3 : oPow [.int 10, .int 60] = some (.int (10 ^ 60)) := by
    show (if cPow 10 60 = true then some (D.int (10 ^ (60 : Int).toNat)) else none) = _
    rw [if_pos (by decide +kernel)]
    rfl
  have p4 : oMul [.int (10 ^ 57), .int (10 ^ 60)] = some (.int (10 ^ 117)) := by
    show (if cMul (10 ^ 57) (10 ^ 60) = true then some (D.int (10 ^ 57 * 10 ^ 60)) else none) = _
    rw [if_pos (by decide +kernel)]
    have e : (10 ^ 57 * 10 ^ 60 : Int) = 10 ^ 117 := by decide +kernel
    rw [e]
  have q1 : ∀ x : Int, oMod [.int x, .int (10 ^ 117)] = some (.int (x.fmod (10 ^ 117))) := fun x => by
    exact oMod_ok x (by decide +kernel)
  have q2 : ∀ x : Int, oMod [.int x, .int 1152921504606846697] = some (.int (x.fmod 1152921504606846697)) := fun x => by
    exact oMod_ok x (by decide)
  have q3 : ∀ x : Int, oMul [.int (x.fmod 1152921504606846697), .int 109] = some (.int (x.fmod 1152921504606846697 * 109)) := fun x => by
    have h1 := Int.fmod_nonneg_of_pos x (show (0 : Int) < 1152921504606846697 by decide)
    have h2 := Int.fmod_lt_of_pos x (show (0 : Int) < 1152921504606846697 by decide)
    show (if cMul (x.fmod 1152921504606846697) 109 = true then _ else _) = _
    rw [if_pos (cMul_small (small_pow (by omega)) (small_pow (by decide)))]
  have q4 : ∀ b : Bool, oMul [.int 67, .int (if b = true then 1 else 0)] = some (.int (67 * (if b = true then 1 else 0))) := fun b => by
    cases b <;> rfl
  refine ⟨.lst [.int (((if (if cell < 0 then -cell else cell) - 10 ^ 16 > 0 then (if cell < 0 then -cell else cell) - 10 ^ 16 else 0) : Int).fmod (10 ^ 117)), .int (((if cell < 0 then -cell else cell) : Int).fmod 1152921504606846697 * 109 + 1031 * spot + 67 * (if decide (cell < 0) = true then 1 else 0) + 53), .int 0], ?_, _, _, 0, rfl, Int.le_refl _, Int.le_refl _⟩
  generalize (10 : Int) ^ 117 = big at *
  generalize (10 : Int) ^ 57 = b57 at *
  generalize (10 : Int) ^ 60 = b60 at *
  generalize (10 : Int) ^ 16 = b16 at *
  generalize hm : (mIf (mT (mOp oLt [.s 1, .m (mOp oLen [.s 0])])) (mOp oInt [.m (mOp oIxx [.s 0, .s 1])]) (mOp oAdd [.m (mOp oMul [.m (mK (.int 127)), .s 1]), .m (mK (.int 71))])) = cellm at hcell
  simp only [f__law_dice, m__law_dice, hm]
  simp only [runD, runF, runR, runRF, startE, rf0, sSeq, sNil, sPass, sEx, sRt, sRtN, sIf, sSet, sSetO, sPar, sAug, sSub, sAsg, sFz, sFor, mOp, evA, evP, fill, evS, mTup, mLst, mV, mK, mT, mNot, mAnd, mOr, mAndV, mOrV, mNotV, mIf, mChain, mCall, mCallL, mCallR, mIsi, mIt, iAny, mSl, evO, mGet, mOwn, PV.val, ownV, setV, free, bindT, bindTs, wipeE, backE, R.bind, R.bs, Rs.bind, Oe.ev, Oe.sl, tYs, isLst, List.map_cons, List.map_nil, List.length_cons, List.length_nil, List.replicate, List.cons_append, List.nil_append, List.append_nil, List.getElem?_cons_zero, List.getElem?_cons_succ, List.getElem?_nil, List.set_cons_zero, List.set_cons_succ, Option.some.injEq, if_true, if_false, Bool.false_eq_true, Nat.sub_self, Nat.reduceSub, Nat.reduceAdd, Nat.reduceLT, reduceCtorEq, ite_true, ite_false, Bool.not_true, Bool.not_false, Option.bind_some, Option.map_some, ne_eq, not_false_eq_true, and_self, and_true, true_and, Nat.succ_ne_self, List.contains_cons, List.contains_nil, String.reduceBEq, Bool.or_true, Bool.true_or, Bool.or_false, Bool.false_or, Bool.and_true, Bool.and_false, Bool.false_and, Bool.true_and, beq_self_eq_true, subN, tyN, Nat.reduceEqDiff, hcell, oAbs, oSub, o1I, o2I, p1, oMax2, p2, p3, p4, q1, q2, q3, m2, oInt, q4, oAdd]
end K00
namespace K00
open PySem L2 PV BM
abbrev lawIn : En → Rs := sIf (mNot (mT (mCallR f__law_right 2 []))) (sRt (mK (.bl false))) (sNil)
abbrev lawOut : En → Rs := sSeq (sSetO 2 (mCall f__law_dice [mV 0, mV 1])) (sFor (mIt iRange1 [mK (.int 6)]) (.n 3) lawIn)
theorem in_ok {A B : D} : ∀ (l : List Nat) (n : Nat) (d : D) (x : Sl), GD n d → n + 1000 * l.length ≤ 700000 → (x = .no ∨ ∃ y, x = .fz y) → ∃ d' x', forL (.n 3) lawIn (nD l) [.fz A, .fz B, .ow d, x, .no, .no] = .nx [.fz A, .fz B, .ow d', x', .no, .no] ∧ (x' = .no ∨ ∃ y, x' = .fz y)
  | [], n, d, x, g, hn, hx => ⟨d, x, rfl, hx⟩
  | i :: r, n, d, x, g, hn, hx => by
    rw [List.length_cons] at hn
    obtain ⟨d1, h1, g1⟩ := right_ok g (by omega)
    obtain ⟨d', x', h2, h3⟩ := in_ok (A := A) (B := B) r (n + 1000) d1 (.fz (.int i)) g1 (by omega) (.inr ⟨_, rfl⟩)
    refine ⟨d', x', ?_, h3⟩
    have hb : bindT (.n 3) (.int (i : Int)) [.fz A, .fz B, .ow d, x, .no, .no] = some [.fz A, .fz B, .ow d, .fz (.int i), .no, .no] := by
      rcases hx with rfl | ⟨y, rfl⟩ <;> rfl
    have hm : lawIn [.fz A, .fz B, .ow d, .fz (.int i), .no, .no] = .nx [.fz A, .fz B, .ow d1, .fz (.int i), .no, .no] := by
      simp only [lawIn, runD, runF, runR, runRF, startE, rf0, sSeq, sNil, sPass, sEx, sRt, sRtN, sIf, sSet, sSetO, sPar, sAug, sSub, sAsg, sFz, sFor, mOp, evA, evP, fill, evS, mTup, mLst, mV, mK, mT, mNot, mAnd, mOr, mAndV, mOrV, mNotV, mIf, mChain, mCall, mCallL, mCallR, mIsi, mIt, iAny, mSl, evO, mGet, mOwn, PV.val, ownV, setV, free, bindT, bindTs, wipeE, backE, R.bind, R.bs, Rs.bind, Oe.ev, Oe.sl, tYs, isLst, List.map_cons, List.map_nil, List.length_cons, List.length_nil, List.replicate, List.cons_append, List.nil_append, List.append_nil, List.getElem?_cons_zero, List.getElem?_cons_succ, List.getElem?_nil, List.set_cons_zero, List.set_cons_succ, Option.some.injEq, if_true, if_false, Bool.false_eq_true, Nat.sub_self, Nat.reduceSub, Nat.reduceAdd, Nat.reduceLT, reduceCtorEq, ite_true, ite_false, Bool.not_true, Bool.not_false, Option.bind_some, Option.map_some, ne_eq, not_false_eq_true, and_self, and_true, true_and, Nat.succ_ne_self, List.contains_cons, List.contains_nil, String.reduceBEq, Bool.or_true, Bool.true_or, Bool.or_false, Bool.false_or, Bool.and_true, Bool.and_false, Bool.false_and, Bool.true_and, beq_self_eq_true, subN, tyN, Nat.reduceEqDiff, h1]
    show forL (.n 3) lawIn (.int (i : Int) :: nD r) _ = _
    unfold forL
    rw [hb]
    simp only [hm, h2]
theorem out_ok {ns : List Int} : ∀ (l : List Nat) (x y z : Sl), (∀ i ∈ l, i ≤ 100) → (x = .no ∨ ∃ a, x = .fz a) → (y = .no ∨ ∃ a, y = .ow a) → (z = .no ∨ ∃ a, z = .fz a) → ∃ x' y' z', forL (.n 1) lawOut (nD l) [.fz (.ro (ns.map D.int)), x, y, z, .no, .no] = .nx [.fz (.ro (ns.map D.int)), x', y', z', .no, .no]
  | [], x, y, z, _, _, _, _ => ⟨x, y, z, rfl⟩
  | i :: r, x, y, z, hl, hx, hy, hz => by
    obtain ⟨d, h1, g⟩ := dice_ok (ns := ns) (spot := i) (hl i (List.mem_cons_self ..))
    obtain ⟨d', z', h2, h3⟩ := in_ok (A := .ro (ns.map D.int)) (B := .int i) (List.range 6) 0 d z g (by decide) hz
    obtain ⟨x1, y1, z1, h4⟩ := out_ok (ns := ns) r (.fz (.int i)) (.ow d') z' (fun j hj => hl j (List.mem_cons_of_mem _ hj)) (.inr ⟨_, rfl⟩) (.inr ⟨_, rfl⟩) h3
    refine ⟨x1, y1, z1, ?_⟩
    have hb : bindT (.n 1) (.int (i : Int)) [.fz (.ro (ns.map D.int)), x, y, z, .no, .no] = some [.fz (.ro (ns.map D.int)), .fz (.int i), y, z, .no, .no] := by
      rcases hx with rfl | ⟨a, rfl⟩ <;> rfl
    have r6 : iRange1 [.int 6] = some (nD (List.range 6)) := iRange1_nat (n := 6) (by decide)
    have hm : lawOut [.fz (.ro (ns.map D.int)), .fz (.int i), y, z, .no, .no] = .nx [.fz (.ro (ns.map D.int)), .fz (.int i), .ow d', z', .no, .no] := by
      rcases hy with rfl | ⟨a, rfl⟩ <;> simp only [lawOut, runD, runF, runR, runRF, startE, rf0, sSeq, sNil, sPass, sEx, sRt, sRtN, sIf, sSet, sSetO, sPar, sAug, sSub, sAsg, sFz, sFor, mOp, evA, evP, fill, evS, mTup, mLst, mV, mK, mT, mNot, mAnd, mOr, mAndV, mOrV, mNotV, mIf, mChain, mCall, mCallL, mCallR, mIsi, mIt, iAny, mSl, evO, mGet, mOwn, PV.val, ownV, setV, free, bindT, bindTs, wipeE, backE, R.bind, R.bs, Rs.bind, Oe.ev, Oe.sl, tYs, isLst, List.map_cons, List.map_nil, List.length_cons, List.length_nil, List.replicate, List.cons_append, List.nil_append, List.append_nil, List.getElem?_cons_zero, List.getElem?_cons_succ, List.getElem?_nil, List.set_cons_zero, List.set_cons_succ, Option.some.injEq, if_true, if_false, Bool.false_eq_true, Nat.sub_self, Nat.reduceSub, Nat.reduceAdd, Nat.reduceLT, reduceCtorEq, ite_true, ite_false, Bool.not_true, Bool.not_false, Option.bind_some, Option.map_some, ne_eq, not_false_eq_true, and_self, and_true, true_and, Nat.succ_ne_self, List.contains_cons, List.contains_nil, String.reduceBEq, Bool.or_true, Bool.true_or, Bool.or_false, Bool.false_or, Bool.and_true, Bool.and_false, Bool.false_and, Bool.true_and, beq_self_eq_true, subN, tyN, Nat.reduceEqDiff, h1, r6, h2]
    show forL (.n 1) lawOut (.int (i : Int) :: nD r) _ = _
    unfold forL
    rw [hb]
    simp only [hm, h4]
theorem lot_of_dec {m : Nat} {l : List Nat} (h : (decide (l.Pairwise (· < ·)) && l.all fun i => decide (i < m)) = true) : Lot m l := by
  rw [Bool.and_eq_true, decide_eq_true_iff, List.all_eq_true] at h
  exact ⟨h.1, fun i hi => of_decide_eq_true (h.2 i hi)⟩
theorem law_true (ns : List Int) (hn : ns.length ≤ 63) : f_law [.ro (ns.map D.int)] = .ok (.bl true) := by
  obtain ⟨r, hr, hr3⟩ : ∃ r : Nat, ((if (if (ns.length : Int) < 3 then (ns.length : Int) else 3) > 1 then (if (ns.length : Int) < 3 then (ns.length : Int) else 3) else 1) : Int) = r ∧ r ≤ 3 := by
    by_cases h : (ns.length : Int) < 3
    · simp only [h, if_true]
      by_cases h2 : (ns.length : Int) > 1
      · exact ⟨ns.length, by simp only [h2, if_true], by omega⟩
      · exact ⟨1, by simp only [h2, if_false]; rfl, by decide⟩
    · simp only [h, if_false]
      exact ⟨3, rfl, by decide⟩
  have o1 : oLen [.ro (ns.map D.int)] = some (.int (ns.length : Nat)) := by
    show some (D.int (((ns.map D.int).length : Nat) : Int)) = _
    rw [List.length_map]
  have r1 : iRange1 [.int (r : Int)] = some (nD (List.range r)) := iRange1_nat (by omega)
  obtain ⟨x, y, z, h1⟩ := out_ok (ns := ns) (List.range r) .no .no .no (fun i hi => by have := List.mem_range.mp hi; omega) (.inl rfl) (.inl rfl) (.inl rfl)
  have a013 : Lot 24 [0, 1, 3] := lot_of_dec (by decide)
  have a024 : Lot 24 [0, 2, 4] := lot_of_dec (by decide)
  have anil : Lot 24 [] := lot_of_dec (by decide)
  have s1 : f_lot_sum [.tup [.int 0, .int 1, .int 3], .tup [.int 0, .int 2, .int 4]] = .ok (lotD [1, 2, 3, 4]) := by
    have := lot_sum_ok a013 a024
    rw [show bits (mask [0, 1, 3] ^^^ mask [0, 2, 4]) = [1, 2, 3, 4] by decide +kernel] at this
    exact this
  have s2 : f_lot_sum [.tup [], .tup []] = .ok (lotD []) := by
    have := lot_sum_ok anil anil
    rw [show bits (mask [] ^^^ mask []) = [] by decide +kernel] at this
    exact this
  have s3 : f_sum_of_pick [.tup [.tup [.int 0], .tup [.int 0, .int 1], .tup [.int 1]], .tup [.int 0, .int 1, .int 2]] = .ok (lotD []) := by
    have := sum_of_pick_ok (lots := [[0], [0, 1], [1]]) (pick := [0, 1, 2]) ⟨fun l hl => by
      simp only [List.mem_cons, List.not_mem_nil, or_false] at hl
      rcases hl with rfl | rfl | rfl <;> exact lot_of_dec (by decide), by decide⟩ (lot_of_dec (by decide))
    rw [show bits (xf [[0], [0, 1], [1]] [0, 1, 2]) = [] by decide +kernel] at this
    exact this
  have s4 : f_sum_of_pick [.tup [], .tup []] = .ok (lotD []) := by
    have := sum_of_pick_ok (lots := []) (pick := []) ⟨fun l hl => (nomatch hl), (by decide)⟩ (lot_of_dec (by decide))
    rw [show bits (xf [] []) = [] by decide +kernel] at this
    exact this
  have e1 : oNe [.lst [lotD [1, 2, 3, 4], lotD [], lotD [], lotD []], .lst [.tup [.int 1, .int 2, .int 3, .int 4], .tup [], .tup [], .tup []]] = some (.bl false) := by
    have := Enc.nat.tup.lst.eq (by decide) [[1, 2, 3, 4], [], [], []] [[1, 2, 3, 4], [], [], []]
    rw [decide_eq_true rfl] at this
    have e : eqD (.lst [lotD [1, 2, 3, 4], lotD [], lotD [], lotD []]) (.lst [.tup [.int 1, .int 2, .int 3, .int 4], .tup [], .tup [], .tup []]) = some true := this
    simp only [oNe, e, Option.map_some, Bool.not_true]
  have d1 : f_does_meet_oddly [.tup [.int 0, .int 1, .int 2], .tup [.int 1, .int 2, .int 5]] = .ok (.bl false) := by
    have := does_meet_ok (a := [0, 1, 2]) (b := [1, 2, 5]) (lot_of_dec (by decide)) (lot_of_dec (by decide))
    rw [show odd [0, 1, 2] [1, 2, 5] = false by decide +kernel] at this
    exact this
  have d2 : f_does_meet_oddly [.tup [.int 23], .tup [.int 0, .int 23]] = .ok (.bl true) := by
    have := does_meet_ok (a := [23]) (b := [0, 23]) (lot_of_dec (by decide)) (lot_of_dec (by decide))
    rw [show odd [23] [0, 23] = true by decide +kernel] at this
    exact this
  have j1 : f_is_lot_of [.int 3, .tup [.int 0, .int 2]] = .ok (.bl true) := is_lot_of_okB (m := 3) (by decide) (by decide) rfl
  have j2 : f_is_lot_of [.int 3, .tup [.int 0, .int 3]] = .ok (.bl false) := is_lot_of_okB (m := 3) (by decide) (by decide) rfl
  have j3 : f_is_lot_of [.int 24, .tup [.int 23]] = .ok (.bl true) := is_lot_of_okB (m := 24) (by decide) (by decide) rfl
  have j4 : f_are_lots [.tup [.tup [.int 0], .tup [.int 0]]] = .ok (.bl true) := are_lots_ok rfl
  have j5 : f_are_lots [.tup [.int 0, .int 1]] = .ok (.bl false) := are_lots_ok rfl
  have e2 : oEq [.lst [.bl true, .bl false, .bl true, .bl true, .bl false], .lst [.bl true, .bl false, .bl true, .bl true, .bl false]] = some (.bl true) := by
    have := Enc.bl.lst.eq (by decide) [true, false, true, true, false] [true, false, true, true, false]
    rw [decide_eq_true rfl] at this
    have e : eqD (.lst [.bl true, .bl false, .bl true, .bl true, .bl false]) (.lst [.bl true, .bl false, .bl true, .bl true, .bl false]) = some true := this
    simp only [oEq, e, Option.map_some]
  have e3 : oEq [.tup [.int 24, .int 64], .tup [.int 24, .int 64]] = some (.bl true) := by
    have := Enc.int.tup.eq (by decide) [24, 64] [24, 64]
    rw [decide_eq_true rfl] at this
    have e : eqD (.tup [.int 24, .int 64]) (.tup [.int 24, .int 64]) = some true := this
    simp only [oEq, e, Option.map_some]
  simp only [lawOut, lawIn, sNil] at h1
  simp only [f_law, m_law, runD, runF, runR, runRF, startE, rf0, sSeq, sNil, sPass, sEx, sRt, sRtN, sIf, sSet, sSetO, sPar, sAug, sSub, sAsg, sFz, sFor, mOp, evA, evP, fill, evS, mTup, mLst, mV, mK, mT, mNot, mAnd, mOr, mAndV, mOrV, mNotV, mIf, mChain, mCall, mCallL, mCallR, mIsi, mIt, iAny, mSl, evO, mGet, mOwn, PV.val, ownV, setV, free, bindT, bindTs, wipeE, backE, R.bind, R.bs, Rs.bind, Oe.ev, Oe.sl, tYs, isLst, List.map_cons, List.map_nil, List.length_cons, List.length_nil, List.replicate, List.cons_append, List.nil_append, List.append_nil, List.getElem?_cons_zero, List.getElem?_cons_succ, List.getElem?_nil, List.set_cons_zero, List.set_cons_succ, Option.some.injEq, if_true, if_false, Bool.false_eq_true, Nat.sub_self, Nat.reduceSub, Nat.reduceAdd, Nat.reduceLT, reduceCtorEq, ite_true, ite_false, Bool.not_true, Bool.not_false, Option.bind_some, Option.map_some, ne_eq, not_false_eq_true, and_self, and_true, true_and, Nat.succ_ne_self, List.contains_cons, List.contains_nil, String.reduceBEq, Bool.or_true, Bool.true_or, Bool.or_false, Bool.false_or, Bool.and_true, Bool.and_false, Bool.false_and, Bool.true_and, beq_self_eq_true, subN, tyN, Nat.reduceEqDiff, o1, oMin2, oMax2, o2I, hr, r1, h1, s1, s2, s3, s4, e1, d1, d2, j1, j2, j3, j4, j5, e2, e3]
end K00

open PySem PySem.W PyProof.Rows
set_option maxHeartbeats 0 in
theorem PySem.Challenge.cw_ringtables_k00_whole_sums_of_lots_holds : PySem.Challenge.rw_ringtables_k00_whole_sums_of_lots.Holds := by
  w_on; o_law; k_head; (case hw => w_witness2)
  k_fill
  refine L2.walk_of (l := PySem.Challenge.rw_ringtables_k00_whole_sums_of_lots) (n := 63) (k := 8) (x := "script") (CX := fun w => L2.CX (PySem.Challenge.rw_ringtables_k00_whole_sums_of_lots).prog w) (sp := fun w => PV.spLaw _) rfl (by decide) rfl ⟨rfl, by decide, by decide⟩ (fun w h Y => PySem.W.kIn_of Y) ?F (fun _ _ a ns hl _ hS => ⟨a, ns, rfl, hS, hl, fun _ => rfl⟩) (fun _ _ _ _ _ h => PV.cx_no h)
  case F =>
    intro w mg fa h KX G hmg
    refine' K00.all_mk KX G hmg K00.law_true ?a0 ?l0 ?c0 ?k0 ?a1 ?l1 ?c1 ?k1 ?a2 ?l2 ?c2 ?k2 ?a3 ?l3 ?c3 ?k3 ?a4 ?l4 ?c4 ?k4 ?a5 ?l5 ?c5 ?k5 ?a6 ?l6 ?c6 ?k6 ?a7 ?l7 ?c7 ?k7 ?a8 ?l8 ?c8 ?k8 ?a9 ?l9 ?c9 ?k9 ?a10 ?l10 ?c10 ?k10 ?a11 ?l11 ?c11 ?k11 ?a12 ?l12 ?c12 ?k12 ?a13 ?l13 ?c13 ?k13 ?a14 ?l14 ?c14 ?k14 ?a15 ?l15 ?c15 ?k15 ?a16 ?l16 ?c16 ?k16 ?a17 ?l17 ?c17 ?k17 ?a18 ?l18 ?c18 ?k18 ?a19 ?l19 ?c19 ?k19 ?a20 ?l20 ?c20 ?k20 ?a21 ?l21 ?c21 ?k21 ?a22 ?l22 ?c22 ?k22 ?a23 ?l23 ?c23 ?k23 ?a24 ?l24 ?c24 ?k24 ?a25 ?l25 ?c25 ?k25 ?a26 ?l26 ?c26 ?k26 ?a27 ?l27 ?c27 ?k27 ?a28 ?l28 ?c28 ?k28 ?a29 ?l29 ?c29 ?k29 ?a30 ?l30 ?c30 ?k30 ?z0 ?z1 ?z2 ?z3 ?z4 ?z5 ?z6 ?z7 ?z8 ?z9 ?z10 ?z11 ?z12 ?z13 ?z14 ?v0 ?v1 ?v2
    (case a0 => k_is); (case l0 => k_is); (case c0 => k_is); (case k0 => k_is); (case a1 => k_is); (case l1 => k_is); (case c1 => k_is); (case k1 => k_is); (case a2 => k_is); (case l2 => k_is); (case c2 => k_is); (case k2 => k_is); (case a3 => k_is); (case l3 => k_is); (case c3 => k_is); (case k3 => k_is); (case a4 => k_is); (case l4 => k_is); (case c4 => k_is); (case k4 => k_is); (case a5 => k_is); (case l5 => k_is); (case c5 => k_is); (case k5 => k_is); (case a6 => k_is); (case l6 => k_is); (case c6 => k_is); (case k6 => k_is); (case a7 => k_is); (case l7 => k_is); (case c7 => k_is); (case k7 => k_is); (case a8 => k_is); (case l8 => k_is); (case c8 => k_is); (case k8 => k_is); (case a9 => k_is); (case l9 => k_is); (case c9 => k_is); (case k9 => k_is); (case a10 => k_is); (case l10 => k_is); (case c10 => k_is); (case k10 => k_is); (case a11 => k_is); (case l11 => k_is); (case c11 => k_is); (case k11 => k_is); (case a12 => k_is); (case l12 => k_is); (case c12 => k_is); (case k12 => k_is); (case a13 => k_is); (case l13 => k_is); (case c13 => k_is); (case k13 => k_is); (case a14 => k_is); (case l14 => k_is); (case c14 => k_is); (case k14 => k_is); (case a15 => k_is); (case l15 => k_is); (case c15 => k_is); (case k15 => k_is); (case a16 => k_is); (case l16 => k_is); (case c16 => k_is); (case k16 => k_is); (case a17 => k_is); (case l17 => k_is); (case c17 => k_is); (case k17 => k_is); (case a18 => k_is); (case l18 => k_is); (case c18 => k_is); (case k18 => k_is); (case a19 => k_is); (case l19 => k_is); (case c19 => k_is); (case k19 => k_is); (case a20 => k_is); (case l20 => k_is); (case c20 => k_is); (case k20 => k_is); (case a21 => k_is); (case l21 => k_is); (case c21 => k_is); (case k21 => k_is); (case a22 => k_is); (case l22 => k_is); (case c22 => k_is); (case k22 => k_is); (case a23 => k_is); (case l23 => k_is); (case c23 => k_is); (case k23 => k_is); (case a24 => k_is); (case l24 => k_is); (case c24 => k_is); (case k24 => k_is); (case a25 => k_is); (case l25 => k_is); (case c25 => k_is); (case k25 => k_is); (case a26 => k_is); (case l26 => k_is); (case c26 => k_is); (case k26 => k_is); (case a27 => k_is); (case l27 => k_is); (case c27 => k_is); (case k27 => k_is); (case a28 => k_is); (case l28 => k_is); (case c28 => k_is); (case k28 => k_is); (case a29 => k_is); (case l29 => k_is); (case c29 => k_is); (case k29 => k_is); (case a30 => k_is); (case l30 => k_is); (case c30 => k_is); (case k30 => k_is); (case z0 => k_is); (case z1 => k_is); (case z2 => k_is); (case z3 => k_is); (case z4 => k_is); (case z5 => k_is); (case z6 => k_is); (case z7 => k_is); (case z8 => k_is); (case z9 => k_is); (case z10 => k_is); (case z11 => k_is); (case z12 => k_is); (case z13 => k_is); (case z14 => k_is); (case v0 => k_is); (case v1 => k_is); (case v2 => k_is)
