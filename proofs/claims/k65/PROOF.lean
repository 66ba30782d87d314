import PyProof.Rows.All
import Wide.All
import OpenK.AllK
import Wide.FinOn
import PyProof.EqAt
import PyProof.EqKinds
import PyProof.TupleCall
import PyProof.NoPylong
import HandS.ForSpec
import HandS.Comp
import HandS.Iter
import HandS.Zip
import HandS.IsInst
import HandS.CallSlots
import HandS.Wide
import HandS.Defaults
import HandS.Deep
import HandS.TupLe
import HandS.RevRange
import HandS.Head0
import HandS.Head1
import HandS.Head2
import HandS.HeadEnd
import HandS.HeadHook1
import HandS.HeadHook2
import HandS.EndBits
import HandS.SortRule
import HandS.SortInts
import HandS.Rev
import PyProof.WalkInts
import KE.DataMinMax
import HandS.Dict
import PySem.Challenge.RW_primetree_k65_fractions_by_figures
set_option Elab.async false
set_option linter.all false
set_option maxRecDepth 100000
set_option maxHeartbeats 4000000
/-! PT: a pure layer over HandS: data D seen through the heap, expressions as functions of an environment, statements as predicate transformers. -/
namespace PT
open PySem PySem.Spec PyProof.Rows L2
abbrev St := L2.St

/-! ### data -/
inductive D where
  | non | bl (b : Bool) | int (i : Int) | str (x : Str) | tup (ds : List D) | lst (ds : List D) | scr (ds : List D) | raw (v : V)

mutual
inductive Rep (K : PySem.W.Frag) (F : Hp) : D → V → Prop
  | non : Rep K F .non .non
  | bl (b : Bool) : Rep K F (.bl b) (.bl b)
  | int (i : Int) : Rep K F (.int i) (.int i)
  | str (x : Str) : Rep K F (.str x) (.str x)
  | tup {a : Addr} {vs : List V} {ds : List D} : SqT K F a vs → RepL K F ds vs → Rep K F (.tup ds) (.ref a)
  | lst {a : Addr} {vs : List V} {ds : List D} : F a = some (.lst vs) → RepL K F ds vs → Rep K F (.lst ds) (.ref a)
  | scr {a : Addr} {vs : List V} {ds : List D} : SqL K F a vs → RepL K F ds vs → Rep K F (.scr ds) (.ref a)
  | raw (v : V) : Rep K F (.raw v) v
inductive RepL (K : PySem.W.Frag) (F : Hp) : List D → List V → Prop
  | nil : RepL K F [] []
  | cons {d : D} {v : V} {ds : List D} {vs : List V} : Rep K F d v → RepL K F ds vs → RepL K F (d :: ds) (v :: vs)
end

theorem seqT_mono {K : PySem.W.Frag} {H H' : Hp} {a : Addr} {xs : List V} (e : Same H H') (h : SqT K H a xs) : SqT K H' a xs := by
  rcases h with (h | ⟨o, h⟩) | h
  · exact .inl (.inl (e _ _ h))
  · exact .inl (.inr ⟨o, e _ _ h⟩)
  · exact .inr h

mutual
theorem Rep.mono {K : PySem.W.Frag} {F F' : Hp} (s : Same F F') : ∀ (d : D) (v : V), Rep K F d v → Rep K F' d v
  | .non, _, h => by cases h; exact .non
  | .bl _, _, h => by cases h; exact .bl _
  | .int _, _, h => by cases h; exact .int _
  | .str _, _, h => by cases h; exact .str _
  | .tup ds, _, h => by cases h with | tup q r => exact .tup (seqT_mono s q) (RepL.mono s ds _ r)
  | .lst ds, _, h => by cases h with | lst q r => exact .lst (s _ _ q) (RepL.mono s ds _ r)
  | .scr ds, _, h => by cases h with | scr q r => exact .scr (s.seq q) (RepL.mono s ds _ r)
  | .raw _, _, h => by cases h; exact .raw _
theorem RepL.mono {K : PySem.W.Frag} {F F' : Hp} (s : Same F F') : ∀ (ds : List D) (vs : List V), RepL K F ds vs → RepL K F' ds vs
  | [], _, h => by cases h; exact .nil
  | d :: ds, _, h => by cases h with | cons a b => exact .cons (Rep.mono s d _ a) (RepL.mono s ds _ b)
end

theorem RepL.len {K : PySem.W.Frag} {F : Hp} : ∀ {ds : List D} {vs : List V}, RepL K F ds vs → ds.length = vs.length
  | [], _, h => by cases h; rfl
  | _ :: ds, _, h => by cases h with | cons a b => simp [RepL.len b]
theorem RepL.get {K : PySem.W.Frag} {F : Hp} : ∀ {ds : List D} {vs : List V} {i : Nat} {d : D}, RepL K F ds vs → ds[i]? = some d → ∃ v, vs[i]? = some v ∧ Rep K F d v
  | [], _, i, d, h, e => by simp at e
  | x :: ds, _, 0, d, h, e => by
    cases h with | cons a b => simp at e; subst e; exact ⟨_, rfl, a⟩
  | x :: ds, _, i + 1, d, h, e => by
    cases h with | cons a b =>
      obtain ⟨v, e1, e2⟩ := RepL.get (i := i) b (by simpa using e)
      exact ⟨v, by simpa using e1, e2⟩
theorem RepL.get' {K : PySem.W.Frag} {F : Hp} : ∀ {ds : List D} {vs : List V} {i : Nat} {v : V}, RepL K F ds vs → vs[i]? = some v → ∃ d, ds[i]? = some d ∧ Rep K F d v
  | [], _, i, d, h, e => by cases h; simp at e
  | x :: ds, _, 0, d, h, e => by
    cases h with | cons a b => simp at e; subst e; exact ⟨_, rfl, a⟩
  | x :: ds, _, i + 1, d, h, e => by
    cases h with | cons a b =>
      obtain ⟨v, e1, e2⟩ := RepL.get' (i := i) b (by simpa using e)
      exact ⟨v, by simpa using e1, e2⟩
theorem RepL.append {K : PySem.W.Frag} {F : Hp} : ∀ {ds : List D} {vs : List V} {es : List D} {ws : List V}, RepL K F ds vs → RepL K F es ws → RepL K F (ds ++ es) (vs ++ ws)
  | [], _, _, _, h, k => by cases h; exact k
  | _ :: ds, _, _, _, h, k => by cases h with | cons a b => exact .cons a (RepL.append b k)
theorem RepL.take {K : PySem.W.Frag} {F : Hp} (n : Nat) : ∀ {ds : List D} {vs : List V}, RepL K F ds vs → RepL K F (ds.take n) (vs.take n) := by
  induction n with
  | zero => intro ds vs h; simp; exact .nil
  | succ n ih =>
    intro ds vs h
    cases h with
    | nil => simp; exact .nil
    | cons a b => simp only [List.take_succ_cons]; exact .cons a (ih b)
theorem RepL.drop {K : PySem.W.Frag} {F : Hp} (n : Nat) : ∀ {ds : List D} {vs : List V}, RepL K F ds vs → RepL K F (ds.drop n) (vs.drop n) := by
  induction n with
  | zero => intro ds vs h; simpa using h
  | succ n ih =>
    intro ds vs h
    cases h with
    | nil => simp; exact .nil
    | cons a b => simp only [List.drop_succ_cons]; exact ih b
theorem RepL.reverse {K : PySem.W.Frag} {F : Hp} : ∀ {ds : List D} {vs : List V}, RepL K F ds vs → RepL K F ds.reverse vs.reverse
  | [], _, h => by cases h; exact .nil
  | d :: ds, _, h => by
    cases h with | cons a b =>
      simp only [List.reverse_cons]
      exact (RepL.reverse b).append (.cons a .nil)
theorem RepL.ints {K : PySem.W.Frag} {F : Hp} : ∀ {ns : List Int} {vs : List V}, RepL K F (ns.map D.int) vs → vs = ns.map V.int
  | [], _, h => by cases h; rfl
  | n :: ns, _, h => by
    simp only [List.map_cons] at h
    cases h with | cons a b => cases a; simp [RepL.ints b]
theorem RepL.ofInts {K : PySem.W.Frag} {F : Hp} : ∀ (ns : List Int), RepL K F (ns.map D.int) (ns.map V.int)
  | [] => .nil
  | n :: ns => .cons (.int n) (RepL.ofInts ns)
theorem RepL.bls {K : PySem.W.Frag} {F : Hp} : ∀ {ns : List Bool} {vs : List V}, RepL K F (ns.map D.bl) vs → vs = ns.map V.bl
  | [], _, h => by cases h; rfl
  | n :: ns, _, h => by
    simp only [List.map_cons] at h
    cases h with | cons a b => cases a; simp [RepL.bls b]

/-! ### slots, results -/
inductive SV where
  | d (x : D) | own (xs : List D)
inductive R where
  | ok (v : SV) | ex (x : Str) (p : Option Int)
inductive RL where
  | ok (ds : List D) | ex (x : Str) (p : Option Int)
inductive RB where
  | ok (b : Bool) | ex (x : Str) (p : Option Int)
abbrev En := List (Option SV)
abbrev EF := En → Option R
abbrev AF := En → Option RL
abbrev CF := En → Option RB
def toD : SV → D
  | .d x => x
  | .own xs => .lst xs

structure FR where
  K : PySem.W.Frag
  mg : Str → Option Value
  F0 : Hp
  H0 : Hp
  W : WX
  hot : Bool

def XR (mg : Str → Option Value) (H : Hp) (x : Str) (p : Option Int) (cls : Value) (d : Option Addr) : Prop :=
  mg x = some cls ∧ match p with
    | none => d = none
    | some n => ∃ dx, d = some dx ∧ H dx = some (.xd [("far", .int n)])

def RepS (K : PySem.W.Frag) (H0 F H : Hp) : SV → V → Prop
  | .d x, v => Rep K F x v
  | .own xs, v => ∃ a vs, v = .ref a ∧ H a = some (.lst vs) ∧ RepL K F xs vs ∧ F a = none ∧ H0 a = none

structure Good (C : FR) (F H : Hp) (σ : St) (ρ : En) : Prop where
  fh : Same F H
  h0 : Same C.H0 H
  f0 : Same C.F0 F
  nw : ∀ b o, F b = some o → C.F0 b = some o ∨ C.H0 b = none
  len : ρ.length = σ.length
  at_ : ∀ (i : Nat) (sv : SV), ρ[i]? = some (some sv) → ∃ v, σ[i]? = some (some v) ∧ RepS C.K C.H0 F H sv v
  ap : ∀ (i j : Nat) (xs ys : List D) (a : Addr), i ≠ j → ρ[i]? = some (some (.own xs)) → ρ[j]? = some (some (.own ys)) → σ[i]? = some (some (.ref a)) → σ[j]? = some (some (.ref a)) → False

def Apart (σ : St) (ρ : En) (sv : SV) (v : V) : Prop := ∀ xs, sv = .own xs → ∀ (i : Nat) (ys : List D), ρ[i]? = some (some (.own ys)) → σ[i]? = some (some v) → False
theorem Apart.d {σ : St} {ρ : En} {x : D} {v : V} : Apart σ ρ (.d x) v := fun _ e => by cases e
/-- a step of an expression: the data and the heap grow -/
structure Step (C : FR) (σ : St) (ρ : En) (F H F' H' : Hp) : Prop where
  g : Good C F' H' σ ρ
  s : Same F F'
  t : Same H H'
  gr : ∀ b o, F' b = some o → F b = some o ∨ H b = none
def PostE (C : FR) (σ : St) (ρ : En) (F H : Hp) (r : Option R) (Q : VK) : Prop :=
  match r with
  | none => False
  | some (.ok sv) => ∀ v F' H', Step C σ ρ F H F' H' → RepS C.K H F' H' sv v → Q v H'
  | some (.ex x p) => ∀ F' H' cls d, Step C σ ρ F H F' H' → XR C.mg H' x p cls d → C.W cls d σ H'
def PostA (C : FR) (σ : St) (ρ : En) (F H : Hp) (r : Option RL) (Q : List V → Hp → Prop) : Prop :=
  match r with
  | none => False
  | some (.ok ds) => ∀ vs F' H', Step C σ ρ F H F' H' → RepL C.K F' ds vs → Q vs H'
  | some (.ex x p) => ∀ F' H' cls d, Step C σ ρ F H F' H' → XR C.mg H' x p cls d → C.W cls d σ H'
def PostB (C : FR) (σ : St) (ρ : En) (F H : Hp) (r : Option RB) (Q : Bool → Hp → Prop) : Prop :=
  match r with
  | none => False
  | some (.ok b) => ∀ F' H', Step C σ ρ F H F' H' → Q b H'
  | some (.ex x p) => ∀ F' H' cls d, Step C σ ρ F H F' H' → XR C.mg H' x p cls d → C.W cls d σ H'

def lE (C : FR) (f : EF) : TE := fun σ H Q => ∃ ρ F, Good C F H σ ρ ∧ PostE C σ ρ F H (f ρ) Q
def lA (C : FR) (f : AF) : TA := fun σ H Q => ∃ ρ F, Good C F H σ ρ ∧ PostA C σ ρ F H (f ρ) Q
def lT (C : FR) (f : CF) : TT := fun σ H Q => ∃ ρ F, Good C F H σ ρ ∧ PostB C σ ρ F H (f ρ) Q

section
variable {X : Cx} {e : Expr} {es : List Expr}
theorem PE.imp {t t' : TE} (h : ∀ σ H Q, t' σ H Q → t σ H Q) (p : PE X e t) : PE X e t' := ⟨fun pins s σ H Q I q => p.run pins s σ H Q I (h σ H Q q)⟩
theorem PT.imp {t t' : TT} (h : ∀ σ H Q, t' σ H Q → t σ H Q) (p : L2.PT X e t) : L2.PT X e t' := ⟨fun pins s σ H Q I q => p.run pins s σ H Q I (h σ H Q q)⟩
theorem PW.imp {t t' : TT} (h : ∀ σ H Q, t' σ H Q → t σ H Q) (p : L2.PW X e t) : L2.PW X e t' := ⟨fun w pins s σ H Q I q => p.run w pins s σ H Q I (h σ H Q q)⟩
theorem PA.imp {t t' : TA} (h : ∀ σ H Q, t' σ H Q → t σ H Q) (p : PA X es t) : PA X es t' := ⟨fun pos pins s σ H Q I q => p.run pos pins s σ H Q I (h σ H Q q)⟩
theorem PSs.imp {st : List Stmt} {t t' : TS} (h : ∀ D σ H, t' D σ H → t D σ H) (p : PSs X st t) : PSs X st t' := ⟨fun pins s σ H D I q => p.run pins s σ H D I (h D σ H q)⟩
theorem PS.imp {st : Stmt} {t t' : TS} (h : ∀ D σ H, t' D σ H → t D σ H) (p : PS X st t) : PS X st t' := ⟨fun pins s σ H D I q => p.run pins s σ H D I (h D σ H q)⟩
end

section
variable {C : FR} {σ : St} {ρ : En} {F H F1 H1 : Hp} {Q : VK}
theorem Step.refl (G : Good C F H σ ρ) : Step C σ ρ F H F H := ⟨G, Same.refl F, Same.refl H, fun _ _ z => .inl z⟩
theorem Step.trans {F2 H2 : Hp} (a : Step C σ ρ F H F1 H1) (b : Step C σ ρ F1 H1 F2 H2) : Step C σ ρ F H F2 H2 :=
  ⟨b.g, a.s.trans b.s, a.t.trans b.t, fun q o z => (b.gr q o z).elim (fun z => a.gr q o z) fun z => .inr (a.t.free z)⟩
theorem RepS.base {K : PySem.W.Frag} {sv : SV} {v : V} {B B' : Hp} (s : Same B B') (r : RepS K B' F H sv v) : RepS K B F H sv v := by
  cases sv with
  | d x => exact r
  | own xs =>
    obtain ⟨a, vs, e1, e2, e3, e4, e5⟩ := r
    exact ⟨a, vs, e1, e2, e3, e4, s.free e5⟩
theorem PostE.mono {r : Option R} (h : PostE C σ ρ F H r Q) (s : Step C σ ρ F H F1 H1) : PostE C σ ρ F1 H1 r Q := by
  cases r with
  | none => exact h
  | some r =>
    cases r with
    | ok sv => exact fun v F' H' st q => h v F' H' (s.trans st) (q.base s.t)
    | ex x p => exact fun F' H' cls d st q => h F' H' cls d (s.trans st) q
theorem PostA.mono {r : Option RL} {Q : List V → Hp → Prop} (h : PostA C σ ρ F H r Q) (s : Step C σ ρ F H F1 H1) : PostA C σ ρ F1 H1 r Q := by
  cases r with
  | none => exact h
  | some r =>
    cases r with
    | ok sv => exact fun v F' H' st q => h v F' H' (s.trans st) q
    | ex x p => exact fun F' H' cls d st q => h F' H' cls d (s.trans st) q
theorem PostB.mono {r : Option RB} {Q : Bool → Hp → Prop} (h : PostB C σ ρ F H r Q) (s : Step C σ ρ F H F1 H1) : PostB C σ ρ F1 H1 r Q := by
  cases r with
  | none => exact h
  | some r =>
    cases r with
    | ok sv => exact fun F' H' st => h F' H' (s.trans st)
    | ex x p => exact fun F' H' cls d st q => h F' H' cls d (s.trans st) q
/-- a plain value comes, the heap as it stands -/
theorem PostE.val {x : D} {v : V} (h : PostE C σ ρ F H (some (.ok (.d x))) Q) (G : Good C F H σ ρ) (r : Rep C.K F x v) : Q v H := h v F H (Step.refl G) r

theorem same_upd {H : Hp} {p : Addr} {o : HO} (h : H p = none) : Same H (upd H p o) := fun b x e => by
  rw [upd_ne (ne_of_none e h)]
  exact e
/-- an own list becomes data -/
theorem Good.freeze {xs : List D} {v : V} (G : Good C F H σ ρ) (r : RepS C.K C.H0 F H (.own xs) v) (a : Apart σ ρ (.own xs) v) : ∃ F', Good C F' H σ ρ ∧ Same F F' ∧ Rep C.K F' (.lst xs) v := by
  obtain ⟨p, vs, rfl, hp, rl, fp, h0⟩ := r
  have sm : Same F (upd F p (.lst vs)) := same_upd fp
  refine ⟨upd F p (.lst vs), ⟨fun b o e => ?_, G.h0, G.f0.trans sm, fun b o e => ?_, G.len, fun i sv e => ?_, G.ap⟩, sm, .lst upd_same (RepL.mono sm _ _ rl)⟩
  · by_cases hb : b = p
    · subst hb; rw [upd_same] at e; cases e; exact hp
    · rw [upd_ne hb] at e; exact G.fh b o e
  · by_cases hb : b = p
    · subst hb; exact .inr h0
    · rw [upd_ne hb] at e; exact G.nw b o e
  · obtain ⟨w, e1, q⟩ := G.at_ i sv e
    refine ⟨w, e1, ?_⟩
    cases sv with
    | d x => exact Rep.mono sm _ _ q
    | own ys =>
      obtain ⟨p', vs', rfl, hp', rl', fp', h0'⟩ := q
      refine ⟨p', vs', rfl, hp', RepL.mono sm _ _ rl', ?_, h0'⟩
      rw [upd_ne (fun z => ?_)]
      · exact fp'
      · subst z; exact a xs rfl i ys e e1
theorem Good.apart {sv : SV} {v : V} {F' H' : Hp} (G : Good C F H σ ρ) (r : RepS C.K H F' H' sv v) : Apart σ ρ sv v := by
  intro xs ex i ys e1 e2
  subst ex
  obtain ⟨a, vs, rfl, _, _, _, h0⟩ := r
  obtain ⟨w, e3, p, ws, rfl, hp, _⟩ := G.at_ i _ e1
  rw [e2] at e3
  cases e3
  rw [hp] at h0
  cases h0
/-- a result becomes data -/
theorem Step.data {sv : SV} {v : V} (G : Good C F H σ ρ) (s : Step C σ ρ F H F1 H1) (r : RepS C.K H F1 H1 sv v) : ∃ F', Step C σ ρ F H F' H1 ∧ Rep C.K F' (toD sv) v := by
  cases sv with
  | d x => exact ⟨F1, s, r⟩
  | own xs =>
    have ap := G.apart r
    have r0 : RepS C.K C.H0 F1 H1 (.own xs) v := r.base G.h0
    obtain ⟨p, vs, rfl, hp, rl, fp, h0⟩ := r
    have sm : Same F1 (upd F1 p (.lst vs)) := same_upd fp
    obtain ⟨p', vs', ev, hp', rl', fp', h0'⟩ := r0
    cases ev
    refine ⟨upd F1 p (.lst vs), ⟨⟨fun b o e => ?_, s.g.h0, s.g.f0.trans sm, fun b o e => ?_, s.g.len, fun i sv e => ?_, s.g.ap⟩, s.s.trans sm, s.t, fun b o e => ?_⟩, .lst upd_same (RepL.mono sm _ _ rl)⟩
    · by_cases hb : b = p
      · subst hb; rw [upd_same] at e; cases e; exact hp
      · rw [upd_ne hb] at e; exact s.g.fh b o e
    · by_cases hb : b = p
      · subst hb; exact .inr h0'
      · rw [upd_ne hb] at e; exact s.g.nw b o e
    · obtain ⟨w, e1, q⟩ := s.g.at_ i sv e
      refine ⟨w, e1, ?_⟩
      cases sv with
      | d x => exact Rep.mono sm _ _ q
      | own ys =>
        obtain ⟨p2, vs2, rfl, hp2, rl2, fp2, h02⟩ := q
        refine ⟨p2, vs2, rfl, hp2, RepL.mono sm _ _ rl2, ?_, h02⟩
        rw [upd_ne (fun z => ?_)]
        · exact fp2
        · subst z; exact ap xs rfl i ys e e1
    · by_cases hb : b = p
      · subst hb; exact .inr h0
      · rw [upd_ne hb] at e; exact s.gr b o e

/-- new data laid at a free place -/
theorem Good.new {p : Addr} {o : HO} (G : Good C F H σ ρ) (h : H p = none) : Good C (upd F p o) (upd H p o) σ ρ := by
  have hF : F p = none := G.fh.free h
  have h0 : C.H0 p = none := G.h0.free h
  have sF : Same F (upd F p o) := same_upd hF
  have sH : Same H (upd H p o) := same_upd h
  refine ⟨fun b u e => ?_, G.h0.trans sH, G.f0.trans sF, fun b u e => ?_, G.len, fun i sv e => ?_, G.ap⟩
  · by_cases hb : b = p
    · subst hb; rw [upd_same] at e ⊢; exact e
    · rw [upd_ne hb] at e ⊢; exact G.fh b u e
  · by_cases hb : b = p
    · subst hb; exact .inr h0
    · rw [upd_ne hb] at e; exact G.nw b u e
  · obtain ⟨w, e1, q⟩ := G.at_ i sv e
    refine ⟨w, e1, ?_⟩
    cases sv with
    | d x => exact Rep.mono sF _ _ q
    | own ys =>
      obtain ⟨p', vs', rfl, hp', rl', fp', h0'⟩ := q
      refine ⟨p', vs', rfl, sH _ _ hp', RepL.mono sF _ _ rl', ?_, h0'⟩
      rw [upd_ne (ne_of_none hp' h)]
      exact fp'
/-- .. laid, not among the data -/
theorem Good.lay {p : Addr} {o : HO} (G : Good C F H σ ρ) (h : H p = none) : Good C F (upd H p o) σ ρ := by
  have sH : Same H (upd H p o) := same_upd h
  refine ⟨G.fh.trans sH, G.h0.trans sH, G.f0, G.nw, G.len, fun i sv e => ?_, G.ap⟩
  obtain ⟨w, e1, q⟩ := G.at_ i sv e
  refine ⟨w, e1, ?_⟩
  cases sv with
  | d x => exact q
  | own ys =>
    obtain ⟨p', vs', rfl, hp', rl', fp', h0'⟩ := q
    exact ⟨p', vs', rfl, sH _ _ hp', rl', fp', h0'⟩
/-- a new list of the def's own comes -/
theorem PostE.newOwn {xs : List D} {vs : List V} {p : Addr} (h : PostE C σ ρ F H (some (.ok (.own xs))) Q) (G : Good C F H σ ρ) (hp : H p = none) (r : RepL C.K F xs vs) : Q (.ref p) (upd H p (.lst vs)) :=
  h (.ref p) F (upd H p (.lst vs)) ⟨G.lay hp, Same.refl F, same_upd hp, fun _ _ z => .inl z⟩ ⟨p, vs, rfl, upd_same, r, G.fh.free hp, hp⟩
theorem PostE.newTup {xs : List D} {vs : List V} {p : Addr} (h : PostE C σ ρ F H (some (.ok (.d (.tup xs)))) Q) (G : Good C F H σ ρ) (hp : H p = none) (r : RepL C.K F xs vs) : Q (.ref p) (upd H p (.tup vs)) :=
  h (.ref p) (upd F p (.tup vs)) (upd H p (.tup vs)) ⟨G.new hp, same_upd (G.fh.free hp), same_upd hp, fun b o z => by
    by_cases hb : b = p
    · subst hb; exact .inr hp
    · rw [upd_ne hb] at z; exact .inl z⟩ (Rep.tup (SqT.of upd_same) (RepL.mono (same_upd (G.fh.free hp)) _ _ r))
end

/-! ### binding results -/
def bindR (r : Option R) (k : D → Option R) : Option R :=
  match r with
  | some (.ok sv) => k (toD sv)
  | some (.ex x p) => some (.ex x p)
  | none => none
def bindL (r : Option RL) (k : List D → Option R) : Option R :=
  match r with
  | some (.ok ds) => k ds
  | some (.ex x p) => some (.ex x p)
  | none => none
def bindRB (r : Option R) (k : D → Option RB) : Option RB :=
  match r with
  | some (.ok sv) => k (toD sv)
  | some (.ex x p) => some (.ex x p)
  | none => none
def bindB (r : Option RB) (k : Bool → Option R) : Option R :=
  match r with
  | some (.ok b) => k b
  | some (.ex x p) => some (.ex x p)
  | none => none
def bindBB (r : Option RB) (k : Bool → Option RB) : Option RB :=
  match r with
  | some (.ok b) => k b
  | some (.ex x p) => some (.ex x p)
  | none => none
def bindRL (r : Option R) (k : D → Option RL) : Option RL :=
  match r with
  | some (.ok sv) => k (toD sv)
  | some (.ex x p) => some (.ex x p)
  | none => none
def okD (x : D) : Option R := some (.ok (.d x))
def okI (i : Int) : Option R := some (.ok (.d (.int i)))
def okB (b : Bool) : Option R := some (.ok (.d (.bl b)))
section
variable {C : FR} {σ : St} {ρ : En} {F H : Hp} {Q : VK}
theorem PostE.bind {r : Option R} {k : D → Option R} (G : Good C F H σ ρ) (h : PostE C σ ρ F H (bindR r k) Q) :
    PostE C σ ρ F H r fun v H1 => ∃ x F1, Step C σ ρ F H F1 H1 ∧ Rep C.K F1 x v ∧ PostE C σ ρ F1 H1 (k x) Q := by
  cases r with
  | none => exact h
  | some r =>
    cases r with
    | ex x p => exact h
    | ok sv =>
      intro v F' H' st q
      obtain ⟨F2, s2, q2⟩ := st.data G q
      exact ⟨toD sv, F2, s2, q2, PostE.mono (show PostE C σ ρ F H (k (toD sv)) Q from h) s2⟩
theorem PostE.bindB' {r : Option R} {k : D → Option RB} {Q : Bool → Hp → Prop} (G : Good C F H σ ρ) (h : PostB C σ ρ F H (bindRB r k) Q) :
    PostE C σ ρ F H r fun v H1 => ∃ x F1, Step C σ ρ F H F1 H1 ∧ Rep C.K F1 x v ∧ PostB C σ ρ F1 H1 (k x) Q := by
  cases r with
  | none => exact h
  | some r =>
    cases r with
    | ex x p => exact h
    | ok sv =>
      intro v F' H' st q
      obtain ⟨F2, s2, q2⟩ := st.data G q
      exact ⟨toD sv, F2, s2, q2, PostB.mono (show PostB C σ ρ F H (k (toD sv)) Q from h) s2⟩
theorem PostE.bindA' {r : Option R} {k : D → Option RL} {Q : List V → Hp → Prop} (G : Good C F H σ ρ) (h : PostA C σ ρ F H (bindRL r k) Q) :
    PostE C σ ρ F H r fun v H1 => ∃ x F1, Step C σ ρ F H F1 H1 ∧ Rep C.K F1 x v ∧ PostA C σ ρ F1 H1 (k x) Q := by
  cases r with
  | none => exact h
  | some r =>
    cases r with
    | ex x p => exact h
    | ok sv =>
      intro v F' H' st q
      obtain ⟨F2, s2, q2⟩ := st.data G q
      exact ⟨toD sv, F2, s2, q2, PostA.mono (show PostA C σ ρ F H (k (toD sv)) Q from h) s2⟩
theorem PostA.bind {r : Option RL} {k : List D → Option R} (h : PostE C σ ρ F H (bindL r k) Q) :
    PostA C σ ρ F H r fun vs H1 => ∃ ds F1, Step C σ ρ F H F1 H1 ∧ RepL C.K F1 ds vs ∧ PostE C σ ρ F1 H1 (k ds) Q := by
  cases r with
  | none => exact h
  | some r =>
    cases r with
    | ex x p => exact h
    | ok ds =>
      intro vs F' H' st q
      exact ⟨ds, F', st, q, PostE.mono (show PostE C σ ρ F H (k ds) Q from h) st⟩
theorem PostB.bind {r : Option RB} {k : Bool → Option R} (h : PostE C σ ρ F H (bindB r k) Q) :
    PostB C σ ρ F H r fun b H1 => ∃ F1, Step C σ ρ F H F1 H1 ∧ PostE C σ ρ F1 H1 (k b) Q := by
  cases r with
  | none => exact h
  | some r =>
    cases r with
    | ex x p => exact h
    | ok b =>
      intro F' H' st
      exact ⟨F', st, PostE.mono (show PostE C σ ρ F H (k b) Q from h) st⟩
theorem PostB.bindB {r : Option RB} {k : Bool → Option RB} {Q : Bool → Hp → Prop} (h : PostB C σ ρ F H (bindBB r k) Q) :
    PostB C σ ρ F H r fun b H1 => ∃ F1, Step C σ ρ F H F1 H1 ∧ PostB C σ ρ F1 H1 (k b) Q := by
  cases r with
  | none => exact h
  | some r =>
    cases r with
    | ex x p => exact h
    | ok b =>
      intro F' H' st
      exact ⟨F', st, PostB.mono (show PostB C σ ρ F H (k b) Q from h) st⟩
end
end PT
/-! PT: expressions. -/
namespace PT
open PySem PySem.Spec PyProof.Rows L2

structure Fit (X : Cx) (C : FR) : Prop where
  K : X.K = C.K
  mg : X.mg = C.mg
  tk : Takes X C.W
  calm : C.hot = false → X.calm = true
  po : PassesOwn (model X.prog X.w) X.A X.env X.xe

/-! ### meanings -/
def eVar (i : Nat) : EF := fun ρ => match ρ[i]? with
  | some (some (.d x)) => okD x
  | _ => none
def eC (x : D) : EF := fun _ => okD x
def e1 (g : D → Option R) (f : EF) : EF := fun ρ => bindR (f ρ) g
def e2 (g : D → D → Option R) (f1 f2 : EF) : EF := fun ρ => bindR (f1 ρ) fun x => bindR (f2 ρ) fun y => g x y
def aNil : AF := fun _ => some (.ok [])
def aCons (f : EF) (fa : AF) : AF := fun ρ => bindRL (f ρ) fun x => match fa ρ with
  | some (.ok ds) => some (.ok (x :: ds))
  | some (.ex y p) => some (.ex y p)
  | none => none
def eCall (g : List D → Option R) (fa : AF) : EF := fun ρ => bindL (fa ρ) g
def tupR (ds : List D) : Option R := if ds.length ≤ 1000 then okD (.tup ds) else none
def lstR (ds : List D) : Option R := if ds.length ≤ 1000 then some (.ok (.own ds)) else none
def eTup (fa : AF) : EF := eCall tupR fa
def eLst (fa : AF) : EF := eCall lstR fa
def eIte (c : CF) (f g : EF) : EF := fun ρ => bindB (c ρ) fun b => if b then f ρ else g ρ
/-- a test by a value's truth -/
def truD : D → Option Bool
  | .non => some false
  | .bl b => some b
  | .int i => some (i != 0)
  | .str x => if x.length ≤ 1000000 then some ((x.length : Int) != 0) else none
  | .tup ds => some (!ds.isEmpty)
  | .lst ds => some (!ds.isEmpty)
  | .scr ds => some (!ds.isEmpty)
  | .raw _ => none
def truR (x : D) : Option RB := match truD x with
  | some b => some (.ok b)
  | none => none
def cT (f : EF) : CF := fun ρ => bindRB (f ρ) truR
def cAnd (c d : CF) : CF := fun ρ => bindBB (c ρ) fun b => if b then d ρ else some (.ok false)
def cOr (c d : CF) : CF := fun ρ => bindBB (c ρ) fun b => if b then some (.ok true) else d ρ
def cNot (c : CF) : CF := fun ρ => bindBB (c ρ) fun b => some (.ok (!b))
/-- and, or, not of truths, as values -/
def andV (f g : EF) : EF := fun ρ => bindR (f ρ) fun x => match x with
  | .bl b => if b then g ρ else okB false
  | _ => none
def orV (f g : EF) : EF := fun ρ => bindR (f ρ) fun x => match x with
  | .bl b => if b then okB true else g ρ
  | _ => none
def notD : D → Option R
  | .bl b => okB (!b)
  | _ => none
def addD : D → D → Option R
  | .int i, .int j => okI (i + j)
  | .lst xs, .lst ys => if xs.length + ys.length ≤ 1000000 then some (.ok (.own (xs ++ ys))) else none
  | .tup xs, .tup ys => if xs.isEmpty = false ∧ ys.isEmpty = false ∧ xs.length + ys.length ≤ 1000000 then okD (.tup (xs ++ ys)) else none
  | .str x, .str y => if x.length + y.length ≤ 1000000 then okD (.str (x ++ y)) else none
  | _, _ => none
def subD : D → D → Option R
  | .int i, .int j => okI (i - j)
  | _, _ => none
def mulOk (i j : Int) : Bool := decide (i.natAbs.log2 + j.natAbs.log2 < 4000000) || decide (j.natAbs.log2 < 60)
def divOk (j : Int) : Bool := decide (j ≠ 0) && decide (j.natAbs.log2 < 9000)
def mulD : D → D → Option R
  | .int i, .int j => if mulOk i j then okI (i * j) else none
  | _, _ => none
def fdivD : D → D → Option R
  | .int i, .int j => if divOk j then okI (i.fdiv j) else none
  | _, _ => none
def modD : D → D → Option R
  | .int i, .int j => if j ≠ 0 then okI (i.fmod j) else none
  | _, _ => none
def powOk (i j : Int) : Bool := decide (0 ≤ j) && decide (j ≤ 1000000) && decide (i.natAbs < 2 ^ 64)
def powD : D → D → Option R
  | .int i, .int j => if powOk i j then okI (i ^ j.toNat) else none
  | _, _ => none
def negD : D → Option R
  | .int i => okI (-i)
  | _ => none
/-! data compared -/
mutual
def toP : D → PyData
  | .non => .none
  | .bl b => .bool b
  | .int i => .int i
  | .str x => .str x
  | .tup ds => .tuple (toPs ds)
  | .lst ds => .list (toPs ds)
  | .scr ds => .list (toPs ds)
  | .raw _ => .none
def toPs : List D → List PyData
  | [] => []
  | d :: ds => toP d :: toPs ds
end
/-- no raw value within, at most n deep -/
def fine : Nat → D → Bool
  | _, .non => true
  | _, .bl _ => true
  | _, .int _ => true
  | _, .str x => PyData.strOk x
  | _, .raw _ => false
  | 0, .tup _ => false
  | 0, .lst _ => false
  | 0, .scr _ => false
  | n + 1, .tup ds => ds.all (fine n)
  | n + 1, .lst ds => ds.all (fine n)
  | n + 1, .scr ds => ds.all (fine n)
def eqD (x y : D) : Bool := PyData.eqv (toP x) (toP y)
def eqDs (xs ys : List D) : Bool := PyData.eqvAll (toPs xs) (toPs ys)
def eqR (x y : D) : Option R := if fine 60 x && fine 60 y then okB (eqD x y) else none
def neR (x y : D) : Option R := if fine 60 x && fine 60 y then okB (!eqD x y) else none
def ltR : D → D → Option R
  | .int i, .int j => okB (decide (i < j))
  | _, _ => none
def leR : D → D → Option R
  | .int i, .int j => okB (decide (i ≤ j))
  | _, _ => none
def gtR : D → D → Option R
  | .int i, .int j => okB (decide (j < i))
  | _, _ => none
def geR : D → D → Option R
  | .int i, .int j => okB (decide (j ≤ i))
  | _, _ => none
def isNonD : D → Bool
  | .non => true
  | _ => false
/-- is None: y is None -/
def isR : D → D → Option R
  | .raw _, _ => none
  | x, .non => okB (isNonD x)
  | .bl a, .bl b => okB (decide (a = b))
  | _, _ => none
def isntR : D → D → Option R
  | .raw _, _ => none
  | x, .non => okB (!isNonD x)
  | .bl a, .bl b => okB (!decide (a = b))
  | _, _ => none
def flatD : D → Bool
  | .non => true
  | .bl _ => true
  | .int _ => true
  | .str _ => true
  | _ => false
def inDs (x : D) (ds : List D) : Bool := ds.any fun z => eqD z x
def inR (x : D) : D → Option R
  | .tup ds => if flatD x && ds.all flatD then okB (inDs x ds) else none
  | .scr ds => if flatD x && ds.all flatD then okB (inDs x ds) else none
  | .lst ds => if fine 60 x && ds.all (fine 59) then okB (inDs x ds) else none
  | _ => none
def notInR (x : D) : D → Option R
  | .tup ds => if flatD x && ds.all flatD then okB (!inDs x ds) else none
  | .scr ds => if flatD x && ds.all flatD then okB (!inDs x ds) else none
  | .lst ds => if fine 60 x && ds.all (fine 59) then okB (!inDs x ds) else none
  | _ => none
/-! a[b] -/
def ixR : D → D → Option R
  | .tup ds, .int i => match atI ds i with
    | some x => okD x
    | none => none
  | .lst ds, .int i => match atI ds i with
    | some x => okD x
    | none => none
  | .scr ds, .int i => match atI ds i with
    | some x => okD x
    | none => none
  | .str z, .int i => if z.length ≤ 1000000 then (match atI z.cps.toList i with
    | some c => okD (.str ⟨#[c]⟩)
    | none => none) else none
  | _, _ => none
/-! built-ins -/
def lenR : List D → Option R
  | [.tup ds] => okI ds.length
  | [.lst ds] => okI ds.length
  | [.scr ds] => okI ds.length
  | [.str x] => if x.length ≤ 1000000 then okI x.length else none
  | _ => none
def absR : List D → Option R
  | [.int i] => okI (if i < 0 then -i else i)
  | _ => none
def max2R : List D → Option R
  | [.int i, .int j] => okI (if j > i then j else i)
  | _ => none
def min2R : List D → Option R
  | [.int i, .int j] => okI (if j < i then j else i)
  | _ => none
def intR : List D → Option R
  | [.int i] => okI i
  | [.bl b] => okI (if b then 1 else 0)
  | _ => none
def tyD : D → Option String
  | .non => some "NoneType"
  | .bl _ => some "bool"
  | .int _ => some "int"
  | .str _ => some "str"
  | .tup _ => some "tuple"
  | .lst _ => some "list"
  | .scr _ => some "list"
  | .raw _ => none
/-- isinstance(x, T), T one of bool, int, str, tuple, list -/
def isiB (t : String) (T : String) : Option Bool :=
  if T = "int" then some (t == "int" || t == "bool")
  else if T = "bool" then some (t == "bool")
  else if T = "str" then some (t == "str")
  else if T = "tuple" then some (t == "tuple")
  else if T = "list" then some (t == "list")
  else none
def isiR : List D → Option R
  | [x, .raw (.ty T)] => match tyD x with
    | some t => match isiB t T with
      | some b => okB b
      | none => none
    | none => none
  | _ => none
def blsOf : List D → Option (List Bool)
  | [] => some []
  | .bl b :: ds => match blsOf ds with
    | some bs => some (b :: bs)
    | none => none
  | _ :: _ => none
def intsOf : List D → Option (List Int)
  | [] => some []
  | .int b :: ds => match intsOf ds with
    | some bs => some (b :: bs)
    | none => none
  | _ :: _ => none
def allR : List D → Option R
  | [.lst ds] => match blsOf ds with
    | some bs => okB (bs.all id)
    | none => none
  | _ => none
def anyR : List D → Option R
  | [.lst ds] => match blsOf ds with
    | some bs => okB (bs.any id)
    | none => none
  | _ => none
def sumR : List D → Option R
  | [.lst ds] => match intsOf ds with
    | some bs => okI bs.sum
    | none => none
  | _ => none
def leastI : List Int → Int
  | [] => 0
  | [x] => x
  | x :: xs => if leastI xs < x then leastI xs else x
def greatestI : List Int → Int
  | [] => 0
  | [x] => x
  | x :: xs => if x < greatestI xs then greatestI xs else x
def minR : List D → Option R
  | [.lst ds] => match intsOf ds with
    | some (b :: bs) => okI (leastI (b :: bs))
    | _ => none
  | _ => none
def maxR : List D → Option R
  | [.lst ds] => match intsOf ds with
    | some (b :: bs) => okI (greatestI (b :: bs))
    | _ => none
  | _ => none
def tupleR : List D → Option R
  | [.lst ds] => okD (.tup ds)
  | [.tup ds] => okD (.tup ds)
  | _ => none
def listR : List D → Option R
  | [.lst ds] => some (.ok (.own ds))
  | [.tup ds] => some (.ok (.own ds))
  | [.scr ds] => some (.ok (.own ds))
  | _ => none
def strR : List D → Option R
  | [.int i] => if i.natAbs.log2 < 1920 then okD (.str (toString i)) else none
  | _ => none
/-! slices -/
def cutD (xs : List D) (lo hi : Option Int) : List D := (xs.drop (HT.sIx xs.length 0 lo)).take (HT.sIx xs.length xs.length hi - HT.sIx xs.length 0 lo)
abbrev OF := En → Option (Option R)

/-! ### rules -/
section
variable {X : Cx} {C : FR} {e a b : Expr} {es : List Expr} {f fa fb : EF} {ff : AF} {pos : Pos}

theorem rep_dp {K : PySem.W.Frag} {F H : Hp} (s : Same F H) : ∀ (n : Nat) (d : D) (v : V), fine n d = true → Rep K F d v → Dp K H v (toP d) := by
  intro n
  induction n with
  | zero =>
    intro d v hf r
    cases d <;> first | (simp [fine] at hf; done) | (cases r; constructor)
  | succ n ih =>
    have all : ∀ (ds : List D) (vs : List V), ds.all (fine n) = true → RepL K F ds vs → DpAll K H vs (toPs ds) := by
      intro ds
      induction ds with
      | nil => intro vs _ r; cases r; exact .nil
      | cons d ds ih2 =>
        intro vs hf r
        cases r with | cons p q =>
          simp only [List.all_cons, Bool.and_eq_true] at hf
          exact .cons (ih d _ hf.1 p) (ih2 _ hf.2 q)
    intro d v hf r
    cases d with
    | non => cases r; exact .non
    | bl b => cases r; exact .bl b
    | int i => cases r; exact .int i
    | str x => cases r; exact .str x
    | raw w => simp [fine] at hf
    | tup ds => cases r with | tup q r => exact .tup (seqT_mono s q) (all ds _ (by simpa [fine] using hf) r)
    | lst ds => cases r with | lst q r => exact .lst (SqL.of (s _ _ q)) (all ds _ (by simpa [fine] using hf) r)
    | scr ds => cases r with | scr q r => exact .lst (s.seq q) (all ds _ (by simpa [fine] using hf) r)
theorem fine_shape : ∀ (n : Nat) (d : D), fine n d = true → (toP d).canLay0 = true ∧ (toP d).depth ≤ n := by
  intro n
  induction n with
  | zero =>
    intro d hf
    cases d <;> simp_all [fine, toP, PyData.canLay0, PyData.depth]
  | succ n ih =>
    have all : ∀ (ds : List D), ds.all (fine n) = true → PyData.canLayAll0 (toPs ds) = true ∧ PyData.depthAll (toPs ds) ≤ n := by
      intro ds
      induction ds with
      | nil => intro _; simp [toPs, PyData.canLayAll0, PyData.depthAll]
      | cons d ds ih2 =>
        intro hf
        simp only [List.all_cons, Bool.and_eq_true] at hf
        obtain ⟨a1, a2⟩ := ih d hf.1
        obtain ⟨b1, b2⟩ := ih2 hf.2
        simp only [toPs, PyData.canLayAll0, PyData.depthAll, a1, b1]
        exact ⟨rfl, by omega⟩
    intro d hf
    cases d with
    | non => simp [toP, PyData.canLay0, PyData.depth]
    | bl b => simp [toP, PyData.canLay0, PyData.depth]
    | int i => simp [toP, PyData.canLay0, PyData.depth]
    | str x => simpa [fine, toP, PyData.canLay0, PyData.depth] using hf
    | raw w => simp [fine] at hf
    | tup ds =>
      obtain ⟨a1, a2⟩ := all ds (by simpa [fine] using hf)
      simp only [toP, PyData.canLay0, PyData.depth, a1]; exact ⟨trivial, by omega⟩
    | lst ds =>
      obtain ⟨a1, a2⟩ := all ds (by simpa [fine] using hf)
      simp only [toP, PyData.canLay0, PyData.depth, a1]; exact ⟨trivial, by omega⟩
    | scr ds =>
      obtain ⟨a1, a2⟩ := all ds (by simpa [fine] using hf)
      simp only [toP, PyData.canLay0, PyData.depth, a1]; exact ⟨trivial, by omega⟩
theorem fine_shaped {n : Nat} {d : D} (h : fine n d = true) (hn : n ≤ 64) : SeqAt.shaped (toP d) = true := by
  obtain ⟨a, b⟩ := fine_shape n d h
  unfold SeqAt.shaped
  rw [a, decide_eq_true (by omega)]
  rfl

theorem x_var (i : Nat) {x : Str} (hN : X.N[i]? = some x := by rfl) (hv : Vis X.env.scope x := by first | exact Or.inl rfl | exact Or.inr (Or.inl rfl) | exact Or.inr (Or.inr rfl)) (hd : (x == ("__debug__" : Str)) = false := by decide)
    (hcd : (x == ("__classdict__" : Str)) = false := by decide) : PE X (.Name x pos) (lE C (eVar i)) := by
  refine PE.imp ?_ (pe_var hN hv hd hcd)
  rintro σ H Q ⟨ρ, F, G, h⟩
  unfold eVar at h
  split at h
  · rename_i x' e1
    obtain ⟨v, e2, q⟩ := G.at_ i _ e1
    exact ⟨v, e2, h.val G q⟩
  · exact h.elim
theorem x_c {v : V} {x : D} (p : PE X e (tC v)) (r : ∀ F, Rep C.K F x v) : PE X e (lE C (eC x)) := by
  refine PE.imp ?_ p
  rintro σ H Q ⟨ρ, F, G, h⟩
  exact h.val G (r F)
theorem x_int {i : Int} {j : Nat} : PE X (.Constant (.int i) j pos) (lE C (eC (.int i))) := x_c pe_int fun _ => .int _
theorem x_bl {i : Bool} {j : Nat} : PE X (.Constant (.bool i) j pos) (lE C (eC (.bl i))) := x_c pe_bl fun _ => .bl _
theorem x_non {j : Nat} : PE X (.Constant .none j pos) (lE C (eC .non)) := x_c pe_non fun _ => .non
theorem x_str {x : Str} {j : Nat} : PE X (.Constant (.str x) j pos) (lE C (eC (.str x))) := x_c pe_str fun _ => .str _
/-- a module's constant -/
structure GC (K : PySem.W.Frag) (mg : Str → Option Value) (x : Str) (d : D) : Prop where
  ex : ∃ v u, mg x = some u ∧ RelV v u ∧ ∀ F, Rep K F d v
theorem x_glob {x : Str} {d : D} (ft : Fit X C) (g : GC C.K C.mg x d) (hg : Gl X x) (hd : (x == ("__debug__" : Str)) = false := by decide) : PE X (.Name x pos) (lE C (eC d)) := by
  obtain ⟨v, u, e1, e2, e3⟩ := g.ex
  exact x_c (pe_glob hg (by rw [ft.mg]; exact e1) e2 hd) e3
/-- a built-in type as a value -/
theorem x_ty {x : Str} {T : String} (ft : Fit X C) (hg : Gl X x) (hm : C.mg x = none) (hv : bootBuiltins x = some (.type T)) (hn : x ≠ "__name__" := by decide) (hd : (x == ("__debug__" : Str)) = false := by decide) :
    PE X (.Name x pos) (lE C (eC (.raw (.ty T)))) := x_c (v := V.ty T) (pe_bltn hg (by rw [ft.mg]; exact hm) hv (show RelV (V.ty T) (Value.type T) from rfl) hn hd) fun _ => .raw _

theorem OpR.any {g : Value → Value → Sem Value} : OpR X g (fun v w H Q => ∃ r : R2, OpR X g r ∧ r v w H Q) := fun pins s σ H x y v u Q I rx ry ⟨_, o, h⟩ => o pins s σ H x y v u Q I rx ry h
def Bin (X : Cx) (C : FR) (f : Value → Value → Sem Value) (g : D → D → Option R) : Prop :=
  ∀ (σ : St) (ρ : En) (F H : Hp) (x y : D) (v w : V) (Q : VK), Good C F H σ ρ → Rep C.K F x v → Rep C.K F y w → PostE C σ ρ F H (g x y) Q → ∃ r : R2, OpR X f r ∧ r v w H Q
theorem lE2 {g : D → D → Option R} {f1 f2 : EF} {σ : St} {H : Hp} {Q : VK} {R : V → V → Hp → Prop}
    (k : ∀ (ρ : En) (F H : Hp) (x y : D) (v w : V), Good C F H σ ρ → Rep C.K F x v → Rep C.K F y w → PostE C σ ρ F H (g x y) Q → R v w H) :
    lE C (e2 g f1 f2) σ H Q → lE C f1 σ H fun v H1 => lE C f2 σ H1 fun w H2 => R v w H2 := by
  rintro ⟨ρ, F, G, h⟩
  refine ⟨ρ, F, G, ?_⟩
  have h1 := PostE.bind G h
  refine (show PostE C σ ρ F H (f1 ρ) _ from ?_)
  cases e : f1 ρ with
  | none => rw [e] at h1; exact h1
  | some r =>
    rw [e] at h1
    cases r with
    | ex x p => exact h1
    | ok sv =>
      intro v F' H' st q1
      obtain ⟨x, F1, st1, rx, h2⟩ := h1 v F' H' st q1
      refine ⟨ρ, F1, st1.g, ?_⟩
      have h3 := PostE.bind st1.g h2
      cases e' : f2 ρ with
      | none => rw [e'] at h3; exact h3
      | some r =>
        rw [e'] at h3
        cases r with
        | ex x p => exact h3
        | ok sv' =>
          intro w F'' H'' st2 q2
          obtain ⟨y, F2, st3, ry, h4⟩ := h3 w F'' H'' st2 q2
          exact k ρ F2 H'' x y v w st3.g (Rep.mono st3.s _ _ rx) ry h4
theorem lE1 {g : D → Option R} {f1 : EF} {σ : St} {H : Hp} {Q : VK} {R : V → Hp → Prop}
    (k : ∀ (ρ : En) (F H : Hp) (x : D) (v : V), Good C F H σ ρ → Rep C.K F x v → PostE C σ ρ F H (g x) Q → R v H) :
    lE C (e1 g f1) σ H Q → lE C f1 σ H fun v H1 => R v H1 := by
  rintro ⟨ρ, F, G, h⟩
  refine ⟨ρ, F, G, ?_⟩
  have h1 := PostE.bind G h
  cases e : f1 ρ with
  | none => rw [e] at h1; exact h1
  | some r =>
    rw [e] at h1
    cases r with
    | ex x p => exact h1
    | ok sv =>
      intro v F' H' st q1
      obtain ⟨x, F1, st1, rx, h2⟩ := h1 v F' H' st q1
      exact k ρ F1 H' x v st1.g rx h2
theorem lA1 {g : List D → Option R} {ff : AF} {σ : St} {H : Hp} {Q : VK} {R : List V → Hp → Prop}
    (k : ∀ (ρ : En) (F H : Hp) (ds : List D) (vs : List V), Good C F H σ ρ → RepL C.K F ds vs → PostE C σ ρ F H (g ds) Q → R vs H) :
    lE C (eCall g ff) σ H Q → lA C ff σ H R := by
  rintro ⟨ρ, F, G, h⟩
  refine ⟨ρ, F, G, ?_⟩
  have h1 := PostA.bind h
  cases e : ff ρ with
  | none => rw [e] at h1; exact h1
  | some r =>
    rw [e] at h1
    cases r with
    | ex x p => exact h1
    | ok ds =>
      intro vs F' H' st q1
      obtain ⟨ds', F1, st1, rx, h2⟩ := h1 vs F' H' st q1
      exact k ρ F1 H' ds' vs st1.g rx h2
theorem x_bin {op : Operator} {g : D → D → Option R} (hg : Bin X C (binaryOp op) g) (ha : PE X a (lE C fa)) (hb : PE X b (lE C fb)) : PE X (.BinOp a op b pos) (lE C (e2 g fa fb)) :=
  PE.imp (fun σ H Q => lE2 fun ρ F H x y v w G rx ry h => hg σ ρ F H x y v w Q G rx ry h) (pe_op OpR.any ha hb)
theorem x_cmp {op : CmpOp} {g : D → D → Option R} (hg : Bin X C (compareOp op) g) (ha : PE X a (lE C fa)) (hb : PE X b (lE C fb)) (hm : behindInMarks op b = false) : PE X (.Compare a [op] [b] pos) (lE C (e2 g fa fb)) :=
  PE.imp (fun σ H Q => lE2 fun ρ F H x y v w G rx ry h => hg σ ρ F H x y v w Q G rx ry h) (pe_cmpR OpR.any ha hb hm)

/-- a test over a value -/
theorem lT1 {f1 : EF} {σ : St} {H : Hp} {Q : Bool → Hp → Prop} {R : V → Hp → Prop}
    (k : ∀ (ρ : En) (F H : Hp) (x : D) (v : V), Good C F H σ ρ → Rep C.K F x v → PostB C σ ρ F H (truR x) Q → R v H) :
    lT C (cT f1) σ H Q → lE C f1 σ H R := by
  rintro ⟨ρ, F, G, h⟩
  refine ⟨ρ, F, G, ?_⟩
  have h1 := PostE.bindB' G h
  cases e : f1 ρ with
  | none => rw [e] at h1; exact h1
  | some r =>
    rw [e] at h1
    cases r with
    | ex x p => exact h1
    | ok sv =>
      intro v F' H' st q1
      obtain ⟨x, F1, st1, rx, h2⟩ := h1 v F' H' st q1
      exact k ρ F1 H' x v st1.g rx h2
theorem PostB.val {σ : St} {ρ : En} {F H : Hp} {b : Bool} {Q : Bool → Hp → Prop} (h : PostB C σ ρ F H (some (.ok b)) Q) (G : Good C F H σ ρ) : Q b H := h F H (Step.refl G)
/-- a comparison of truth values as a test -/
theorem x_tcmp {op : CmpOp} {g : D → D → Option R} (hg : Bin X C (compareOp op) g) (hbl : ∀ x y r, g x y = some r → ∃ b, r = .ok (.d (.bl b))) (ha : PE X a (lE C fa)) (hb : PE X b (lE C fb)) (hm : behindInMarks op b = false) :
    L2.PT X (.Compare a [op] [b] pos) (lT C (cT (e2 g fa fb))) := by
  refine PT.imp ?_ (pt_cmpR OpR.any ha hb hm)
  rintro σ H Q ⟨ρ, F, G, h⟩
  -- the value's reading, then its truth
  have h1 := PostE.bindB' G h
  refine lE2 (g := g) (Q := fun z H' => ∃ k, z = .bl k ∧ Q k H') (fun ρ F H x y v w G rx ry h => hg σ ρ F H x y v w _ G rx ry h) ⟨ρ, F, G, ?_⟩
  cases e : e2 g fa fb ρ with
  | none => rw [e] at h1; exact h1
  | some r =>
    rw [e] at h1
    cases r with
    | ex x p => exact h1
    | ok sv =>
      -- sv is a truth
      obtain ⟨b', hb'⟩ : ∃ b', sv = .d (.bl b') := by
        unfold e2 at e
        cases e1 : fa ρ with
        | none => rw [e1] at e; cases e
        | some r1 =>
          rw [e1] at e
          cases r1 with
          | ex x p => cases e
          | ok s1 =>
            cases e2' : fb ρ with
            | none => simp only [bindR, e2'] at e; cases e
            | some r2 =>
              cases r2 with
              | ex x p => simp only [bindR, e2'] at e; cases e
              | ok s2 =>
                simp only [bindR, e2'] at e
                obtain ⟨b', hb'⟩ := hbl _ _ _ e
                exact ⟨b', by injection hb'⟩
      subst hb'
      intro v F' H' st q1
      obtain ⟨x, F1, st1, rx, h2⟩ := h1 v F' H' st q1
      cases q1
      cases rx with
      | bl b => exact ⟨_, rfl, (show PostB C σ ρ F1 H' (some (.ok b')) Q from h2).val st1.g⟩
      | raw w => exact h2.elim

theorem TruR.d {K : PySem.W.Frag} {F H : Hp} {x : D} {v : V} {b : Bool} (s : Same F H) (r : Rep K F x v) (h : truD x = some b) : TruV K v H b := by
  cases r with
  | non => exact (Option.some.inj h).symm
  | bl c => exact (Option.some.inj h).symm
  | int i => exact (Option.some.inj h).symm
  | str x =>
    have h : (if x.length ≤ 1000000 then some ((x.length : Int) != 0) else none) = some b := h
    split at h
    · rename_i hl
      exact ⟨Nat.le_trans hl (by rw [sizeLine_eq]; decide), (Option.some.inj h).symm⟩
    · cases h
  | tup q rl =>
    rename_i ds
    have e := Option.some.inj h
    subst e
    refine Or.inr (.inl ⟨_, seqT_mono s q, ?_⟩)
    have := rl.len
    cases ds <;> cases rl <;> rfl
  | lst q rl =>
    rename_i ds
    have e := Option.some.inj h
    subst e
    refine Or.inl ⟨_, SqL.of (s _ _ q), ?_⟩
    cases ds <;> cases rl <;> rfl
  | scr q rl =>
    rename_i ds
    have e := Option.some.inj h
    subst e
    refine Or.inl ⟨_, s.seq q, ?_⟩
    cases ds <;> cases rl <;> rfl
  | raw w => cases h
theorem x_truth (ft : Fit X C) (ha : PE X a (lE C fa)) (he : ∀ whole, isTrue a X.env whole = (do let v ← whole; standAt a.pos; holding [v] (truthy v)) := by intro _; rfl) : L2.PT X a (lT C (cT fa)) := by
  refine PT.imp ?_ (pt_truth ha he)
  intro σ H Q
  refine lT1 fun ρ F H x v G rx h => ?_
  unfold truR at h
  cases e : truD x with
  | none => rw [e] at h; exact h.elim
  | some b =>
    rw [e] at h
    exact ⟨b, by rw [ft.K]; exact TruR.d G.fh rx e, PostB.val h G⟩
theorem x_and1 {t : CF} (ha : L2.PT X a (lT C t)) : L2.PW X (.BoolOp .And [a] pos) (lT C t) := pw_and1 ha
theorem x_or1 {t : CF} (ha : L2.PT X a (lT C t)) : L2.PW X (.BoolOp .Or [a] pos) (lT C t) := pw_or1 ha
theorem lT2 {t u : CF} {k : Bool → CF} {σ : St} {H : Hp} {Q : Bool → Hp → Prop} {R : Bool → Hp → Prop} (hk : ∀ (b : Bool) (ρ : En) (F H : Hp), Good C F H σ ρ → PostB C σ ρ F H (k b ρ) Q → R b H) :
    lT C (fun ρ => bindBB (t ρ) fun b => k b ρ) σ H Q → lT C t σ H R := by
  rintro ⟨ρ, F, G, h⟩
  refine ⟨ρ, F, G, ?_⟩
  have h1 := PostB.bindB h
  cases e : t ρ with
  | none => rw [e] at h1; exact h1
  | some r =>
    rw [e] at h1
    cases r with
    | ex x p => exact h1
    | ok b =>
      intro F' H' st
      obtain ⟨F1, st1, h2⟩ := h1 F' H' st
      exact hk b ρ F1 H' st1.g h2
theorem x_and {t u : CF} {rest : List Expr} (ha : L2.PT X a (lT C t)) (hb : L2.PW X (.BoolOp .And (b :: rest) pos) (lT C u)) : L2.PW X (.BoolOp .And (a :: b :: rest) pos) (lT C (cAnd t u)) := by
  refine PW.imp ?_ (pw_and ha hb)
  intro σ H Q
  refine lT2 (u := u) (k := fun b ρ => if b then u ρ else some (.ok false)) fun b ρ F H G h => ?_
  cases b with
  | true => rw [if_pos rfl]; exact ⟨ρ, F, G, h⟩
  | false => rw [if_neg Bool.false_ne_true]; exact PostB.val h G
theorem x_or {t u : CF} {rest : List Expr} (ha : L2.PT X a (lT C t)) (hb : L2.PW X (.BoolOp .Or (b :: rest) pos) (lT C u)) : L2.PW X (.BoolOp .Or (a :: b :: rest) pos) (lT C (cOr t u)) := by
  refine PW.imp ?_ (pw_or ha hb)
  intro σ H Q
  refine lT2 (u := u) (k := fun b ρ => if b then some (.ok true) else u ρ) fun b ρ F H G h => ?_
  cases b with
  | true => rw [if_pos rfl]; exact PostB.val h G
  | false => rw [if_neg Bool.false_ne_true]; exact ⟨ρ, F, G, h⟩
theorem x_not {t : CF} (ha : L2.PT X a (lT C t)) : L2.PT X (.UnaryOp .Not a pos) (lT C (cNot t)) := by
  refine PT.imp ?_ (pt_not ha)
  intro σ H Q
  refine lT2 (u := t) (k := fun b _ => some (.ok (!b))) fun b ρ F H G h => ?_
  exact PostB.val h G
theorem x_ite {c : Expr} {t : CF} (hc : L2.PT X c (lT C t)) (ha : PE X a (lE C fa)) (hb : PE X b (lE C fb)) : PE X (.IfExp c a b pos) (lE C (eIte t fa fb)) := by
  refine PE.imp ?_ (pe_ifExp hc ha hb)
  rintro σ H Q ⟨ρ, F, G, h⟩
  refine ⟨ρ, F, G, ?_⟩
  have h1 := PostB.bind h
  cases e : t ρ with
  | none => rw [e] at h1; exact h1
  | some r =>
    rw [e] at h1
    cases r with
    | ex x p => exact h1
    | ok d =>
      intro F' H' st
      obtain ⟨F1, st1, h2⟩ := h1 F' H' st
      cases d with
      | true => rw [if_pos rfl]; exact ⟨ρ, F1, st1.g, h2⟩
      | false => rw [if_neg Bool.false_ne_true]; exact ⟨ρ, F1, st1.g, h2⟩
/-! truths as values -/
theorem x_one {op} (h : PE X a (lE C fa)) : PE X (.BoolOp op [a] pos) (lE C fa) := pe_one h
theorem lE1' {k : D → EF} {f1 : EF} {σ : St} {H : Hp} {Q : VK} {R : V → Hp → Prop}
    (hk : ∀ (ρ : En) (F H : Hp) (x : D) (v : V), Good C F H σ ρ → Rep C.K F x v → PostE C σ ρ F H (k x ρ) Q → R v H) :
    lE C (fun ρ => bindR (f1 ρ) fun x => k x ρ) σ H Q → lE C f1 σ H fun v H1 => R v H1 := by
  rintro ⟨ρ, F, G, h⟩
  refine ⟨ρ, F, G, ?_⟩
  have h1 := PostE.bind G h
  cases e : f1 ρ with
  | none => rw [e] at h1; exact h1
  | some r =>
    rw [e] at h1
    cases r with
    | ex x p => exact h1
    | ok sv =>
      intro v F' H' st q1
      obtain ⟨x, F1, st1, rx, h2⟩ := h1 v F' H' st q1
      exact hk ρ F1 H' x v st1.g rx h2
theorem x_andV {rest : List Expr} (ha : PE X a (lE C fa)) (hb : PE X (.BoolOp .And (b :: rest) pos) (lE C fb)) : PE X (.BoolOp .And (a :: b :: rest) pos) (lE C (andV fa fb)) := by
  refine PE.imp ?_ (pe_and ha hb)
  intro σ H Q
  refine lE1' (k := fun x ρ => match x with | .bl b => if b then fb ρ else okB false | _ => none) fun ρ F H x v G rx h => ?_
  cases x with
  | bl c =>
    cases rx
    refine ⟨c, rfl, ?_⟩
    cases c with
    | true => rw [if_pos rfl]; exact ⟨ρ, F, G, h⟩
    | false => rw [if_neg Bool.false_ne_true]; exact PostE.val h G (.bl _)
  | _ => exact h.elim
theorem x_orV {rest : List Expr} (ha : PE X a (lE C fa)) (hb : PE X (.BoolOp .Or (b :: rest) pos) (lE C fb)) : PE X (.BoolOp .Or (a :: b :: rest) pos) (lE C (orV fa fb)) := by
  refine PE.imp ?_ (pe_or ha hb)
  intro σ H Q
  refine lE1' (k := fun x ρ => match x with | .bl b => if b then okB true else fb ρ | _ => none) fun ρ F H x v G rx h => ?_
  cases x with
  | bl c =>
    cases rx
    refine ⟨c, rfl, ?_⟩
    cases c with
    | true => rw [if_pos rfl]; exact PostE.val h G (.bl _)
    | false => rw [if_neg Bool.false_ne_true]; exact ⟨ρ, F, G, h⟩
  | _ => exact h.elim
theorem x_notV (ha : PE X a (lE C fa)) : PE X (.UnaryOp .Not a pos) (lE C (e1 notD fa)) := by
  refine PE.imp ?_ (pe_not ha)
  intro σ H Q
  refine lE1 fun ρ F H x v G rx h => ?_
  cases x with
  | bl c => cases rx; exact ⟨c, rfl, PostE.val h G (.bl _)⟩
  | _ => exact h.elim
end
end PT
/-! PT: operators, built-ins, calls. -/
namespace PT
open PySem PySem.Spec PyProof.Rows L2
section
variable {X : Cx} {C : FR} {e a b : Expr} {es : List Expr} {f fa fb : EF} {ff : AF} {pos : Pos}

theorem none_post {σ : St} {ρ : En} {F H : Hp} {Q : VK} {P : Prop} (h : PostE C σ ρ F H none Q) : P := False.elim h

theorem bin_add (ft : Fit X C) : Bin X C (binaryOp .Add) addD := by
  intro σ ρ F H x y v w Q G rx ry h
  unfold addD at h
  split at h
  · cases rx; cases ry; exact ⟨_, op_add, _, _, rfl, rfl, h.val G (.int _)⟩
  · split at h
    · cases rx with | lst q1 r1 => cases ry with | lst q2 r2 =>
        refine ⟨_, op_cat, _, _, _, _, rfl, rfl, G.fh _ _ q1, G.fh _ _ q2, ?_, fun p hp => PostE.newOwn h G hp (r1.append r2)⟩
        rw [← r1.len, ← r2.len, sizeLine_eq]; omega
    · exact none_post h
  · split at h
    · rename_i hc
      cases rx with | tup q1 r1 => cases ry with | tup q2 r2 =>
        refine ⟨_, op_catT, _, _, _, _, rfl, rfl, by rw [ft.K]; exact seqT_mono G.fh q1, by rw [ft.K]; exact seqT_mono G.fh q2, ?_, ?_, ?_, fun _ p hp => PostE.newTup h G hp (r1.append r2)⟩
        · rintro rfl; cases r1; simp at hc
        · rw [← r1.len, ← r2.len, sizeLine_eq]; omega
        · rintro rfl; cases r2; simp at hc
    · exact none_post h
  · split at h
    · cases rx; cases ry
      exact ⟨_, op_add_str, _, _, rfl, rfl, by rw [sizeLine_eq]; omega, h.val G (.str _)⟩
    · exact none_post h
  · exact none_post h
theorem bin_sub : Bin X C (binaryOp .Sub) subD := by
  intro σ ρ F H x y v w Q G rx ry h
  unfold subD at h
  split at h
  · cases rx; cases ry; exact ⟨_, op_sub, _, _, rfl, rfl, h.val G (.int _)⟩
  · exact none_post h
theorem mulOk_ok {i j : Int} (h : mulOk i j = true) : PySem.IntMulOk i j := by
  unfold mulOk at h
  rw [Bool.or_eq_true] at h
  rcases h with h | h
  · have b : ∀ x : Int, Builtin.Int.intBits x ≤ x.natAbs.log2 + 1 := fun x => by
      unfold Builtin.Int.intBits
      split <;> omega
    have h1 := b i
    have h2 := b j
    have h3 : i.natAbs.log2 + j.natAbs.log2 < 4000000 := of_decide_eq_true h
    have e : bitsLine = 134217728 := by decide
    intro z
    rw [Bool.and_eq_true] at z
    have z3 := of_decide_eq_true z.2
    rw [e] at z3
    omega
  · refine PySem.IntMulOk.of_right ?_
    have := of_decide_eq_true h
    unfold Builtin.Int.intBits
    split <;> omega
theorem op_mulN : OpR X (binaryOp .Mult) (rI PySem.IntMulOk fun i j => .int (i * j)) := opI fun _ _ _ _ _ _ _ hc q => mul_int q hc
theorem bin_mul : Bin X C (binaryOp .Mult) mulD := by
  intro σ ρ F H x y v w Q G rx ry h
  unfold mulD at h
  split at h
  · split at h
    · rename_i hc
      cases rx; cases ry; exact ⟨_, op_mulN, _, _, rfl, rfl, mulOk_ok hc, h.val G (.int _)⟩
    · exact none_post h
  · exact none_post h
theorem op_fdivNW : OpR X (binaryOp .FloorDiv) (rI (fun _ j => j ≠ 0 ∧ j.natAbs.log2 < 9000) fun i j => .int (i.fdiv j)) := opI fun _ _ _ _ _ _ _ hc q => floordiv_int hc.1 q (.inl (PyProof.noPylong_of_log2 hc.2))
theorem bin_fdiv : Bin X C (binaryOp .FloorDiv) fdivD := by
  intro σ ρ F H x y v w Q G rx ry h
  unfold fdivD at h
  split at h
  · split at h
    · rename_i hc
      unfold divOk at hc
      rw [Bool.and_eq_true] at hc
      cases rx; cases ry; exact ⟨_, op_fdivNW, _, _, rfl, rfl, ⟨of_decide_eq_true hc.1, of_decide_eq_true hc.2⟩, h.val G (.int _)⟩
    · exact none_post h
  · exact none_post h
theorem bin_mod : Bin X C (binaryOp .Mod) modD := by
  intro σ ρ F H x y v w Q G rx ry h
  unfold modD at h
  split at h
  · split at h
    · rename_i hc
      cases rx; cases ry; exact ⟨_, op_modN, _, _, rfl, rfl, hc, h.val G (.int _)⟩
    · exact none_post h
  · exact none_post h
theorem bin_pow : Bin X C (binaryOp .Pow) powD := by
  intro σ ρ F H x y v w Q G rx ry h
  unfold powD at h
  split at h
  · split at h
    · rename_i hc
      unfold powOk at hc
      rw [Bool.and_eq_true, Bool.and_eq_true] at hc
      cases rx; cases ry; exact ⟨_, op_pow, _, _, rfl, rfl, ⟨of_decide_eq_true hc.1.1, of_decide_eq_true hc.1.2, of_decide_eq_true hc.2⟩, h.val G (.int _)⟩
    · exact none_post h
  · exact none_post h
theorem x_neg (ha : PE X a (lE C fa)) : PE X (.UnaryOp .USub a pos) (lE C (e1 negD fa)) := by
  refine PE.imp ?_ (pe_un un_neg ha)
  intro σ H Q
  refine lE1 fun ρ F H x v G rx h => ?_
  cases x with
  | int i => cases rx; exact ⟨_, rfl, h.val G (.int _)⟩
  | _ => exact h.elim
/-! comparisons -/
theorem bin_eq (ft : Fit X C) (hu : X.A.units + 64 < cLine) : Bin X C (compareOp .Eq) eqR := by
  intro σ ρ F H x y v w Q G rx ry h
  unfold eqR at h
  split at h
  · rename_i hc
    rw [Bool.and_eq_true] at hc
    exact ⟨_, op_eqD hu, _, _, by rw [ft.K]; exact rep_dp G.fh 60 x v hc.1 rx, by rw [ft.K]; exact rep_dp G.fh 60 y w hc.2 ry, fine_shaped hc.1 (by omega), fine_shaped hc.2 (by omega), h.val G (.bl _)⟩
  · exact none_post h
theorem bin_ne (ft : Fit X C) (hu : X.A.units + 64 < cLine) : Bin X C (compareOp .NotEq) neR := by
  intro σ ρ F H x y v w Q G rx ry h
  unfold neR at h
  split at h
  · rename_i hc
    rw [Bool.and_eq_true] at hc
    exact ⟨_, op_neD hu, _, _, by rw [ft.K]; exact rep_dp G.fh 60 x v hc.1 rx, by rw [ft.K]; exact rep_dp G.fh 60 y w hc.2 ry, fine_shaped hc.1 (by omega), fine_shaped hc.2 (by omega), h.val G (.bl _)⟩
  · exact none_post h
theorem bin_lt : Bin X C (compareOp .Lt) ltR := by
  intro σ ρ F H x y v w Q G rx ry h
  unfold ltR at h
  split at h
  · cases rx; cases ry; exact ⟨_, op_lt, _, _, rfl, rfl, h.val G (.bl _)⟩
  · exact none_post h
theorem bin_le : Bin X C (compareOp .LtE) leR := by
  intro σ ρ F H x y v w Q G rx ry h
  unfold leR at h
  split at h
  · cases rx; cases ry; exact ⟨_, op_le, _, _, rfl, rfl, h.val G (.bl _)⟩
  · exact none_post h
theorem bin_gt : Bin X C (compareOp .Gt) gtR := by
  intro σ ρ F H x y v w Q G rx ry h
  unfold gtR at h
  split at h
  · cases rx; cases ry; exact ⟨_, op_gt, _, _, rfl, rfl, h.val G (.bl _)⟩
  · exact none_post h
theorem bin_ge : Bin X C (compareOp .GtE) geR := by
  intro σ ρ F H x y v w Q G rx ry h
  unfold geR at h
  split at h
  · cases rx; cases ry; exact ⟨_, op_ge, _, _, rfl, rfl, h.val G (.bl _)⟩
  · exact none_post h
theorem isNon_dec {K : PySem.W.Frag} {F : Hp} {x : D} {v : V} (h : ∀ w, x ≠ .raw w) (r : Rep K F x v) : decide (v = .non) = isNonD x := by
  cases r <;> first | rfl | exact absurd rfl (h _) | simp [isNonD]
theorem bin_is : Bin X C (compareOp .Is) isR := by
  intro σ ρ F H x y v w Q G rx ry h
  unfold isR at h
  split at h
  · exact none_post h
  · rename_i hx
    cases ry
    exact ⟨_, op_isN, rfl, by rw [isNon_dec (fun w e => hx w e) rx]; exact h.val G (.bl _)⟩
  · cases rx; cases ry
    exact ⟨_, op_is_bl, _, _, rfl, rfl, h.val G (.bl _)⟩
  · exact none_post h
theorem bin_isnt : Bin X C (compareOp .IsNot) isntR := by
  intro σ ρ F H x y v w Q G rx ry h
  unfold isntR at h
  split at h
  · exact none_post h
  · rename_i hx
    cases ry
    exact ⟨_, op_notN, rfl, by rw [isNon_dec (fun w e => hx w e) rx]; exact h.val G (.bl _)⟩
  · cases rx; cases ry
    exact ⟨_, op_isnot_bl, _, _, rfl, rfl, h.val G (.bl _)⟩
  · exact none_post h
theorem flat_of {K : PySem.W.Frag} {F : Hp} {x : D} {v : V} (r : Rep K F x v) (h : flatD x = true) : flatV v = true := by
  cases r <;> first | rfl | exact absurd h Bool.false_ne_true
theorem flats_of {K : PySem.W.Frag} {F : Hp} : ∀ {ds : List D} {vs : List V}, RepL K F ds vs → ds.all flatD = true → vs.all flatV = true
  | [], _, h, _ => by cases h; rfl
  | d :: ds, _, h, k => by
    cases h with | cons p q =>
      simp only [List.all_cons, Bool.and_eq_true] at k ⊢
      exact ⟨flat_of p k.1, flats_of q k.2⟩
theorem eqV_of {K : PySem.W.Frag} {F : Hp} {x y : D} {v w : V} (r : Rep K F x v) (q : Rep K F y w) (h : flatD x = true) (k : flatD y = true) : eqV v w = eqD x y := by
  cases r <;> first | exact absurd h Bool.false_ne_true | (cases q <;> first | exact absurd k Bool.false_ne_true | simp [eqV, eqD, toP, PyData.eqv])
theorem inV_of {K : PySem.W.Frag} {F : Hp} {x : D} {v : V} (r : Rep K F x v) (h : flatD x = true) : ∀ {ds : List D} {vs : List V}, RepL K F ds vs → ds.all flatD = true → inV v vs = inDs x ds
  | [], _, q, _ => by cases q; rfl
  | d :: ds, _, q, k => by
    cases q with | cons p q =>
      simp only [List.all_cons, Bool.and_eq_true] at k
      have ih := inV_of r h q k.2
      unfold inV inDs at ih ⊢
      simp only [List.any_cons]
      rw [eqV_of p r k.1 h, ih]
theorem any_toPs (x : D) : ∀ ds : List D, ((toPs ds).any fun z => PyData.eqv z (toP x)) = inDs x ds
  | [] => rfl
  | d :: ds => by
    have ih := any_toPs x ds
    unfold inDs at ih ⊢
    simp only [toPs, List.any_cons, ih, eqD]
theorem bin_in (ft : Fit X C) (hu : X.A.units + 65 < cLine) : Bin X C (compareOp .In) inR := by
  intro σ ρ F H x y v w Q G rx ry h
  unfold inR at h
  split at h
  · split at h
    · rename_i hc
      rw [Bool.and_eq_true] at hc
      cases ry with | tup q r =>
        refine ⟨_, op_in_seq, _, _, rfl, .inr (by rw [ft.K]; exact seqT_mono G.fh q), flat_of rx hc.1, flats_of r hc.2, ?_⟩
        rw [if_neg Bool.false_ne_true, inV_of rx hc.1 r hc.2]
        exact h.val G (.bl _)
    · exact none_post h
  · split at h
    · rename_i hc
      rw [Bool.and_eq_true] at hc
      cases ry with | scr q r =>
        refine ⟨_, op_in_seq, _, _, rfl, .inl (by rw [ft.K]; exact G.fh.seq q), flat_of rx hc.1, flats_of r hc.2, ?_⟩
        rw [if_neg Bool.false_ne_true, inV_of rx hc.1 r hc.2]
        exact h.val G (.bl _)
    · exact none_post h
  · split at h
    · rename_i ds hc
      rw [Bool.and_eq_true] at hc
      have f2 : fine 60 (.lst ds) = true := by simpa [fine] using hc.2
      have dp := rep_dp G.fh 60 _ w f2 ry
      refine ⟨_, op_inD hu, toP x, toPs ds, by rw [ft.K]; exact rep_dp G.fh 60 x v hc.1 rx, by rw [ft.K]; exact dp, fine_shaped hc.1 (by omega), fine_shaped f2 (by omega), ?_⟩
      rw [any_toPs]
      exact h.val G (.bl _)
    · exact none_post h
  · exact none_post h
theorem bin_notin (ft : Fit X C) (hu : X.A.units + 65 < cLine) : Bin X C (compareOp .NotIn) notInR := by
  intro σ ρ F H x y v w Q G rx ry h
  unfold notInR at h
  split at h
  · split at h
    · rename_i hc
      rw [Bool.and_eq_true] at hc
      cases ry with | tup q r =>
        refine ⟨_, op_notIn_seq, _, _, rfl, .inr (by rw [ft.K]; exact seqT_mono G.fh q), flat_of rx hc.1, flats_of r hc.2, ?_⟩
        rw [if_pos rfl, inV_of rx hc.1 r hc.2]
        exact h.val G (.bl _)
    · exact none_post h
  · split at h
    · rename_i hc
      rw [Bool.and_eq_true] at hc
      cases ry with | scr q r =>
        refine ⟨_, op_notIn_seq, _, _, rfl, .inl (by rw [ft.K]; exact G.fh.seq q), flat_of rx hc.1, flats_of r hc.2, ?_⟩
        rw [if_pos rfl, inV_of rx hc.1 r hc.2]
        exact h.val G (.bl _)
    · exact none_post h
  · split at h
    · rename_i ds hc
      rw [Bool.and_eq_true] at hc
      have f2 : fine 60 (.lst ds) = true := by simpa [fine] using hc.2
      have dp := rep_dp G.fh 60 _ w f2 ry
      refine ⟨_, op_notInD hu, toP x, toPs ds, by rw [ft.K]; exact rep_dp G.fh 60 x v hc.1 rx, by rw [ft.K]; exact dp, fine_shaped hc.1 (by omega), fine_shaped f2 (by omega), ?_⟩
      rw [any_toPs]
      exact h.val G (.bl _)
    · exact none_post h
  · exact none_post h
/-! what a comparison gives is a truth -/
theorem bl_eq : ∀ x y r, eqR x y = some r → ∃ b, r = .ok (.d (.bl b)) := fun x y r h => by
  unfold eqR at h
  split at h
  · exact ⟨_, (Option.some.inj h).symm⟩
  · cases h
theorem bl_ne : ∀ x y r, neR x y = some r → ∃ b, r = .ok (.d (.bl b)) := fun x y r h => by
  unfold neR at h
  split at h
  · exact ⟨_, (Option.some.inj h).symm⟩
  · cases h
theorem bl_lt : ∀ x y r, ltR x y = some r → ∃ b, r = .ok (.d (.bl b)) := fun x y r h => by
  unfold ltR at h
  split at h
  · exact ⟨_, (Option.some.inj h).symm⟩
  · cases h
theorem bl_le : ∀ x y r, leR x y = some r → ∃ b, r = .ok (.d (.bl b)) := fun x y r h => by
  unfold leR at h
  split at h
  · exact ⟨_, (Option.some.inj h).symm⟩
  · cases h
theorem bl_gt : ∀ x y r, gtR x y = some r → ∃ b, r = .ok (.d (.bl b)) := fun x y r h => by
  unfold gtR at h
  split at h
  · exact ⟨_, (Option.some.inj h).symm⟩
  · cases h
theorem bl_ge : ∀ x y r, geR x y = some r → ∃ b, r = .ok (.d (.bl b)) := fun x y r h => by
  unfold geR at h
  split at h
  · exact ⟨_, (Option.some.inj h).symm⟩
  · cases h
theorem bl_is : ∀ x y r, isR x y = some r → ∃ b, r = .ok (.d (.bl b)) := fun x y r h => by
  unfold isR at h
  split at h
  · cases h
  · exact ⟨_, (Option.some.inj h).symm⟩
  · exact ⟨_, (Option.some.inj h).symm⟩
  · cases h
theorem bl_isnt : ∀ x y r, isntR x y = some r → ∃ b, r = .ok (.d (.bl b)) := fun x y r h => by
  unfold isntR at h
  split at h
  · cases h
  · exact ⟨_, (Option.some.inj h).symm⟩
  · exact ⟨_, (Option.some.inj h).symm⟩
  · cases h
theorem bl_in : ∀ x y r, inR x y = some r → ∃ b, r = .ok (.d (.bl b)) := fun x y r h => by
  unfold inR at h
  split at h <;> first | cases h | (split at h <;> first | exact ⟨_, (Option.some.inj h).symm⟩ | cases h)
theorem bl_notin : ∀ x y r, notInR x y = some r → ∃ b, r = .ok (.d (.bl b)) := fun x y r h => by
  unfold notInR at h
  split at h <;> first | cases h | (split at h <;> first | exact ⟨_, (Option.some.inj h).symm⟩ | cases h)

/-! ### a[b] -/
theorem IxR.any : IxR X (fun v w H Q => ∃ r : R2, IxR X r ∧ r v w H Q) := fun value slice pins s σ H x y v u Q I rx ry ⟨_, o, h⟩ hs => o value slice pins s σ H x y v u Q I rx ry h hs
theorem RepL.at {K : PySem.W.Frag} {F : Hp} {ds : List D} {vs : List V} {i : Int} {d : D} (r : RepL K F ds vs) (h : atI ds i = some d) : ∃ v, atI vs i = some v ∧ Rep K F d v := by
  unfold atI at h ⊢
  rw [← r.len]
  cases e : ixN ds.length i with
  | none => rw [e] at h; cases h
  | some j =>
    rw [e] at h
    exact r.get h
theorem x_ix (ft : Fit X C) (ha : PE X a (lE C fa)) (hb : PE X b (lE C fb)) (hs : PlainIx b := by exact fun _ _ => rfl) : PE X (.Subscript a b pos) (lE C (e2 ixR fa fb)) := by
  refine PE.imp ?_ (pe_ix IxR.any ha hb hs)
  intro σ H Q
  refine lE2 fun ρ F H x y v w G rx ry h => ?_
  unfold ixR at h
  split at h
  · split at h
    · rename_i e
      cases ry
      cases rx with | tup q r =>
        obtain ⟨u, e1, r1⟩ := r.at e
        exact ⟨_, ix_tup, _, _, _, u, rfl, rfl, by rw [ft.K]; exact seqT_mono G.fh q, e1, h.val G r1⟩
    · exact none_post h
  · split at h
    · rename_i e
      cases ry
      cases rx with | lst q r =>
        obtain ⟨u, e1, r1⟩ := r.at e
        exact ⟨_, ix_list, _, _, _, u, rfl, rfl, SqL.of (G.fh _ _ q), e1, h.val G r1⟩
    · exact none_post h
  · split at h
    · rename_i e
      cases ry
      cases rx with | scr q r =>
        obtain ⟨u, e1, r1⟩ := r.at e
        exact ⟨_, ix_list, _, _, _, u, rfl, rfl, by rw [ft.K]; exact G.fh.seq q, e1, h.val G r1⟩
    · exact none_post h
  · split at h
    · split at h
      · rename_i hz e
        cases ry
        cases rx
        exact ⟨_, ix_str, _, _, _, rfl, rfl, by rw [sizeLine_eq]; omega, e, h.val G (.str _)⟩
      · exact none_post h
    · exact none_post h
  · exact none_post h

/-! ### arguments, displays -/
theorem x_nil : PA X [] (lA C aNil) := by
  refine PA.imp ?_ pa_nil
  rintro σ H Q ⟨ρ, F, G, h⟩
  exact h [] F H (Step.refl G) .nil
theorem x_cons {h1 : PE X e (lE C f)} (hr : PA X es (lA C ff)) (hs : starEach (e :: es) X.env = (false, eval e X.env) :: starEach es X.env := by rfl) : PA X (e :: es) (lA C (aCons f ff)) := by
  refine PA.imp ?_ (pa_cons h1 hr hs)
  rintro σ H Q ⟨ρ, F, G, h⟩
  refine ⟨ρ, F, G, ?_⟩
  have h1 := PostE.bindA' G h
  cases e : f ρ with
  | none => rw [e] at h1; exact h1
  | some r =>
    rw [e] at h1
    cases r with
    | ex x p => exact h1
    | ok sv =>
      intro v F' H' st q1
      obtain ⟨x, F1, st1, rx, h2⟩ := h1 v F' H' st q1
      refine ⟨ρ, F1, st1.g, ?_⟩
      cases e2 : ff ρ with
      | none => rw [e2] at h2; exact h2
      | some r =>
        rw [e2] at h2
        cases r with
        | ex y p => exact h2
        | ok ds =>
          intro vs F2 H2 st2 q2
          exact h2 (v :: vs) F2 H2 st2 (.cons (Rep.mono st2.s _ _ rx) q2)
theorem x_tup {k : Nat} (h : PA X es (lA C ff)) : PE X (.Tuple es k pos) (lE C (eTup ff)) := by
  refine PE.imp ?_ (pe_tup h)
  intro σ H Q
  refine lA1 fun ρ F H ds vs G r h => ?_
  unfold tupR at h
  split at h
  · exact ⟨by rw [← r.len, sizeLine_eq]; omega, fun p hp => PostE.newTup h G hp r⟩
  · exact none_post h
theorem x_lst (h : PA X es (lA C ff)) : PE X (.List es pos) (lE C (eLst ff)) := by
  refine PE.imp ?_ (pe_lst h)
  intro σ H Q
  refine lA1 fun ρ F H ds vs G r h => ?_
  unfold lstR at h
  split at h
  · exact ⟨by rw [← r.len, sizeLine_eq]; omega, fun p hp => PostE.newOwn h G hp r⟩
  · exact none_post h

/-! ### built-ins -/
theorem CallR.any {v : Value} : CallR X v (fun vs H Q => ∃ r : List V → Hp → VK → Prop, CallR X v r ∧ r vs H Q) := fun pins s σ H xs us Q I r ⟨_, o, h⟩ => o pins s σ H xs us Q I r h
def Blt (X : Cx) (C : FR) (v : Value) (g : List D → Option R) : Prop :=
  ∀ (σ : St) (ρ : En) (F H : Hp) (ds : List D) (vs : List V) (Q : VK), Good C F H σ ρ → RepL C.K F ds vs → PostE C σ ρ F H (g ds) Q → ∃ r : List V → Hp → VK → Prop, CallR X v r ∧ r vs H Q
theorem x_blt {id : String} {x : Str} {p : Pos} {g : List D → Option R} (ft : Fit X C) (hc : Blt X C (.builtin id) g) (hg : Gl X x) (hm : C.mg x = none) (hv : bootBuiltins x = some (.builtin id)) (ha : PA X (e :: es) (lA C ff))
    (hn : x ≠ "__name__" := by decide) (hdb : (x == ("__debug__" : Str)) = false := by decide)
    (he : starEach (e :: es) X.env = (false, eval e X.env) :: starEach es X.env := by rfl) (hpl : (backTo pos (starEach es X.env)).any (·.1) = false := by rfl) : PE X (.Call (.Name x p) (e :: es) [] pos) (lE C (eCall g ff)) :=
  PE.imp (fun σ H Q => lA1 fun ρ F H ds vs G r h => hc σ ρ F H ds vs Q G r h) (pe_callB CallR.any hg (by rw [ft.mg]; exact hm) hv ha hn hdb he hpl)
theorem x_bty {T : String} {x : Str} {p : Pos} {g : List D → Option R} (ft : Fit X C) (hc : Blt X C (.type T) g) (hg : Gl X x) (hm : C.mg x = none) (hv : bootBuiltins x = some (.type T)) (ha : PA X (e :: es) (lA C ff))
    (hn : x ≠ "__name__" := by decide) (hdb : (x == ("__debug__" : Str)) = false := by decide)
    (he : starEach (e :: es) X.env = (false, eval e X.env) :: starEach es X.env := by rfl) (hpl : (backTo pos (starEach es X.env)).any (·.1) = false := by rfl) : PE X (.Call (.Name x p) (e :: es) [] pos) (lE C (eCall g ff)) :=
  PE.imp (fun σ H Q => lA1 fun ρ F H ds vs G r h => hc σ ρ F H ds vs Q G r h) (pe_callTy CallR.any hg (by rw [ft.mg]; exact hm) hv ha hn hdb he hpl)
theorem b_len (ft : Fit X C) : Blt X C (.builtin "len") lenR := by
  intro σ ρ F H ds vs Q G r h
  unfold lenR at h
  split at h
  · cases r with | cons p q => cases q; cases p with | tup q r =>
      exact ⟨_, call_len, _, _, rfl, .inr ⟨_, by rw [ft.K]; exact seqT_mono G.fh q, rfl⟩, by rw [← r.len]; exact h.val G (.int _)⟩
  · cases r with | cons p q => cases q; cases p with | lst q r =>
      exact ⟨_, call_len, _, _, rfl, .inl ⟨_, SqL.of (G.fh _ _ q), rfl⟩, by rw [← r.len]; exact h.val G (.int _)⟩
  · cases r with | cons p q => cases q; cases p with | scr q r =>
      exact ⟨_, call_len, _, _, rfl, .inl ⟨_, by rw [ft.K]; exact G.fh.seq q, rfl⟩, by rw [← r.len]; exact h.val G (.int _)⟩
  · split at h
    · cases r with | cons p q => cases q; cases p
                                 exact ⟨_, call_len, _, _, rfl, ⟨by rw [sizeLine_eq]; omega, rfl⟩, h.val G (.int _)⟩
    · exact none_post h
  · exact none_post h
theorem b_abs : Blt X C (.builtin "abs") absR := by
  intro σ ρ F H ds vs Q G r h
  unfold absR at h
  split at h
  · cases r with | cons p q => cases q; cases p
                               exact ⟨_, call_abs, _, rfl, h.val G (.int _)⟩
  · exact none_post h
theorem intsOf_eq : ∀ {ds : List D} {bs : List Int}, intsOf ds = some bs → ds = bs.map D.int
  | [], _, h => by cases h; rfl
  | d :: ds, bs, h => by
    cases d <;> try (cases h)
    rename_i i
    unfold intsOf at h
    split at h
    · rename_i e
      cases h
      simp [intsOf_eq e]
    · cases h
theorem blsOf_eq : ∀ {ds : List D} {bs : List Bool}, blsOf ds = some bs → ds = bs.map D.bl
  | [], _, h => by cases h; rfl
  | d :: ds, bs, h => by
    cases d <;> try (cases h)
    rename_i i
    unfold blsOf at h
    split at h
    · rename_i e
      cases h
      simp [blsOf_eq e]
    · cases h
theorem leastI_spec : ∀ (x : Int) (xs : List Int), leastI (x :: xs) ∈ x :: xs ∧ ∀ y ∈ x :: xs, leastI (x :: xs) ≤ y
  | x, [] => by simp [leastI]
  | x, z :: zs => by
    obtain ⟨h1, h2⟩ := leastI_spec z zs
    show (if leastI (z :: zs) < x then leastI (z :: zs) else x) ∈ _ ∧ ∀ y ∈ x :: z :: zs, (if leastI (z :: zs) < x then leastI (z :: zs) else x) ≤ y
    split
    · refine ⟨List.mem_cons_of_mem _ h1, fun y hy => ?_⟩
      rcases List.mem_cons.mp hy with rfl | hy
      · omega
      · exact h2 y hy
    · refine ⟨List.mem_cons_self, fun y hy => ?_⟩
      rcases List.mem_cons.mp hy with rfl | hy
      · omega
      · have := h2 y hy; omega
theorem greatestI_spec : ∀ (x : Int) (xs : List Int), greatestI (x :: xs) ∈ x :: xs ∧ ∀ y ∈ x :: xs, y ≤ greatestI (x :: xs)
  | x, [] => by simp [greatestI]
  | x, z :: zs => by
    obtain ⟨h1, h2⟩ := greatestI_spec z zs
    show (if x < greatestI (z :: zs) then greatestI (z :: zs) else x) ∈ _ ∧ ∀ y ∈ x :: z :: zs, y ≤ (if x < greatestI (z :: zs) then greatestI (z :: zs) else x)
    split
    · refine ⟨List.mem_cons_of_mem _ h1, fun y hy => ?_⟩
      rcases List.mem_cons.mp hy with rfl | hy
      · omega
      · exact h2 y hy
    · refine ⟨List.mem_cons_self, fun y hy => ?_⟩
      rcases List.mem_cons.mp hy with rfl | hy
      · omega
      · have := h2 y hy; omega
theorem b_min2 (ft : Fit X C) (hh : C.hot = false := by rfl) : Blt X C (.builtin "min") min2R := by
  intro σ ρ F H ds vs Q G r h
  unfold min2R at h
  split at h
  · cases r with | cons p q => cases q with | cons p2 q => cases q; cases p; cases p2
                                                           exact ⟨_, call_min2 (ft.calm hh), _, _, rfl, h.val G (.int _)⟩
  · exact none_post h
theorem b_max2 (ft : Fit X C) (hh : C.hot = false := by rfl) : Blt X C (.builtin "max") max2R := by
  intro σ ρ F H ds vs Q G r h
  unfold max2R at h
  split at h
  · cases r with | cons p q => cases q with | cons p2 q => cases q; cases p; cases p2
                                                           exact ⟨_, call_max2 (ft.calm hh), _, _, rfl, h.val G (.int _)⟩
  · exact none_post h
theorem b_min (ft : Fit X C) (hh : C.hot = false := by rfl) : Blt X C (.builtin "min") minR := by
  intro σ ρ F H ds vs Q G r h
  unfold minR at h
  split at h
  · split at h
    · rename_i b bs e
      cases r with | cons p q => cases q; cases p with | lst q r =>
          have e1 := intsOf_eq e
          subst e1
          refine ⟨_, cr_min (ft.calm hh), _, b :: bs, rfl, by rw [← r.ints]; exact SqL.of (G.fh _ _ q), by simp, fun m h1 h2 => ?_⟩
          obtain ⟨k1, k2⟩ := leastI_spec b bs
          have a1 := h2 _ k1
          have a2 := k2 _ h1
          have : m = leastI (b :: bs) := by omega
          subst this
          exact h.val G (.int _)
    · exact none_post h
  · exact none_post h
theorem b_max (ft : Fit X C) (hh : C.hot = false := by rfl) : Blt X C (.builtin "max") maxR := by
  intro σ ρ F H ds vs Q G r h
  unfold maxR at h
  split at h
  · split at h
    · rename_i b bs e
      cases r with | cons p q => cases q; cases p with | lst q r =>
          have e1 := intsOf_eq e
          subst e1
          refine ⟨_, cr_max (ft.calm hh), _, b :: bs, rfl, by rw [← r.ints]; exact SqL.of (G.fh _ _ q), by simp, fun m h1 h2 => ?_⟩
          obtain ⟨k1, k2⟩ := greatestI_spec b bs
          have a1 := h2 _ k1
          have a2 := k2 _ h1
          have : m = greatestI (b :: bs) := by omega
          subst this
          exact h.val G (.int _)
    · exact none_post h
  · exact none_post h
theorem b_sum (ft : Fit X C) (hh : C.hot = false := by rfl) : Blt X C (.builtin "sum") sumR := by
  intro σ ρ F H ds vs Q G r h
  unfold sumR at h
  split at h
  · split at h
    · rename_i bs e
      cases r with | cons p q => cases q; cases p with | lst q r =>
          have e1 := intsOf_eq e
          subst e1
          exact ⟨_, cr_sum (ft.calm hh), _, bs, rfl, by rw [← r.ints]; exact SqL.of (G.fh _ _ q), h.val G (.int _)⟩
    · exact none_post h
  · exact none_post h
theorem b_all (ft : Fit X C) (hh : C.hot = false := by rfl) : Blt X C (.builtin "all") allR := by
  intro σ ρ F H ds vs Q G r h
  unfold allR at h
  split at h
  · split at h
    · rename_i bs e
      cases r with | cons p q => cases q; cases p with | lst q r =>
          have e1 := blsOf_eq e
          subst e1
          exact ⟨_, cr_all (ft.calm hh), _, bs, rfl, by rw [← r.bls]; exact SqL.of (G.fh _ _ q), h.val G (.bl _)⟩
    · exact none_post h
  · exact none_post h
theorem b_any (ft : Fit X C) (hh : C.hot = false := by rfl) : Blt X C (.builtin "any") anyR := by
  intro σ ρ F H ds vs Q G r h
  unfold anyR at h
  split at h
  · split at h
    · rename_i bs e
      cases r with | cons p q => cases q; cases p with | lst q r =>
          have e1 := blsOf_eq e
          subst e1
          exact ⟨_, cr_any (ft.calm hh), _, bs, rfl, by rw [← r.bls]; exact SqL.of (G.fh _ _ q), h.val G (.bl _)⟩
    · exact none_post h
  · exact none_post h
theorem b_int : Blt X C (.type "int") intR := by
  intro σ ρ F H ds vs Q G r h
  unfold intR at h
  split at h
  · cases r with | cons p q => cases q; cases p
                               exact ⟨_, call_int1, .inl ⟨_, rfl, h.val G (.int _)⟩⟩
  · cases r with | cons p q => cases q; cases p
                               exact ⟨_, call_int1, .inr ⟨_, rfl, h.val G (.int _)⟩⟩
  · exact none_post h
theorem b_tuple (ft : Fit X C) : Blt X C (.type "tuple") tupleR := by
  intro σ ρ F H ds vs Q G r h
  unfold tupleR at h
  split at h
  · cases r with | cons p q => cases q; cases p with | lst q r =>
      exact ⟨_, call_tuple_of, _, _, rfl, .inl ⟨SqL.of (G.fh _ _ q), fun l hl => PostE.newTup h G hl r⟩⟩
  · cases r with | cons p q => cases q; cases p with | tup q r =>
      exact ⟨_, call_tuple_of, _, _, rfl, .inr ⟨by rw [ft.K]; exact seqT_mono G.fh q, h.val G (.tup q r)⟩⟩
  · exact none_post h
theorem b_list (ft : Fit X C) : Blt X C (.type "list") listR := by
  intro σ ρ F H ds vs Q G r h
  unfold listR at h
  split at h
  · cases r with | cons p q => cases q; cases p with | lst q r =>
      exact ⟨_, call_list_of, _, _, rfl, .inl (SqL.of (G.fh _ _ q)), fun l hl => PostE.newOwn h G hl r⟩
  · cases r with | cons p q => cases q; cases p with | tup q r =>
      exact ⟨_, call_list_of, _, _, rfl, .inr (by rw [ft.K]; exact seqT_mono G.fh q), fun l hl => PostE.newOwn h G hl r⟩
  · cases r with | cons p q => cases q; cases p with | scr q r =>
      exact ⟨_, call_list_of, _, _, rfl, .inl (by rw [ft.K]; exact G.fh.seq q), fun l hl => PostE.newOwn h G hl r⟩
  · exact none_post h
theorem b_str : Blt X C (.type "str") strR := by
  intro σ ρ F H ds vs Q G r h
  unfold strR at h
  split at h
  · split at h
    · cases r with | cons p q => cases q; cases p
                                 exact ⟨_, call_str_int, _, rfl, by assumption, h.val G (.str _)⟩
    · exact none_post h
  · exact none_post h
theorem tyX_of {K : PySem.W.Frag} {F H : Hp} {x : D} {v : V} {t : String} (s : Same F H) (r : Rep K F x v) (h : tyD x = some t) : TyX K H v (.type t) := by
  cases r with
  | non => cases h; exact .base .non
  | bl b => cases h; exact .base (.bl b)
  | int i => cases h; exact .base (.int i)
  | str i => cases h; exact .base (.str i)
  | tup q r =>
    cases h
    rcases q with (q | ⟨o, q⟩) | ⟨o, its, n, k, c, _⟩
    · exact .base (.tup (s _ _ q))
    · exact .fTuple (s _ _ q)
    · exact .kTuple k c
  | lst q r => cases h; exact .base (.lst (s _ _ q))
  | scr q r =>
    cases h
    rcases q with (q | ⟨o, q⟩) | ⟨o, its, n, k, c, _⟩
    · exact .base (.lst (s _ _ q))
    · exact .base (.frz (s _ _ q))
    · exact .kList k c
  | raw w => cases h
theorem isi_kit {t T : String} {b : Bool} (ht : t = "NoneType" ∨ t = "bool" ∨ t = "int" ∨ t = "str" ∨ t = "tuple" ∨ t = "list") (h : isiB t T = some b) : kitB t T = some b := by
  unfold isiB at h
  split at h
  · rename_i e; subst e; rcases ht with rfl | rfl | rfl | rfl | rfl | rfl <;> (cases h; decide +kernel)
  · split at h
    · rename_i e; subst e; rcases ht with rfl | rfl | rfl | rfl | rfl | rfl <;> (cases h; decide +kernel)
    · split at h
      · rename_i e; subst e; rcases ht with rfl | rfl | rfl | rfl | rfl | rfl <;> (cases h; decide +kernel)
      · split at h
        · rename_i e; subst e; rcases ht with rfl | rfl | rfl | rfl | rfl | rfl <;> (cases h; decide +kernel)
        · split at h
          · rename_i e; subst e; rcases ht with rfl | rfl | rfl | rfl | rfl | rfl <;> (cases h; decide +kernel)
          · cases h
theorem tyD_in {x : D} {t : String} (h : tyD x = some t) : t = "NoneType" ∨ t = "bool" ∨ t = "int" ∨ t = "str" ∨ t = "tuple" ∨ t = "list" := by
  cases x <;> cases h <;> simp
theorem b_isi (ft : Fit X C) : Blt X C (.builtin "isinstance") isiR := by
  intro σ ρ F H ds vs Q G r h
  unfold isiR at h
  split at h
  · split at h
    · split at h
      · rename_i x T _ t e _ b e2
        cases r with | cons p q => cases q with | cons p2 q =>
          cases q
          cases p2
          exact ⟨_, call_isi, _, _, _, _, b, rfl, .ty T, by rw [ft.K]; exact tyX_of G.fh p e, kit_ty (isi_kit (tyD_in e) e2), h.val G (.bl _)⟩
      · exact none_post h
    · exact none_post h
  · exact none_post h

/-! ### calls of defs -/
/-- a def's promise: what a function of data says -/
def spF (K : PySem.W.Frag) (mg : Str → Option Value) (fn : List D → Option R) : Sp := fun vs H Q E => ∃ F ds, Same F H ∧ RepL K F ds vs ∧ match fn ds with
  | none => False
  | some (.ok sv) => ∀ v F' H', Same F F' → Same F' H' → Same H H' → (∀ b o, F' b = some o → F b = some o ∨ H b = none) → RepS K H F' H' sv v → Q v H'
  | some (.ex x p) => ∀ H' cls d, Same H H' → XR mg H' x p cls d → E cls d H'
theorem Good.after {σ : St} {ρ : En} {F H F' H' : Hp} (G : Good C F H σ ρ) (s1 : Same F F') (s2 : Same F' H') (s3 : Same H H') (nw : ∀ b o, F' b = some o → F b = some o ∨ H b = none) : Good C F' H' σ ρ := by
  refine ⟨s2, G.h0.trans s3, G.f0.trans s1, fun b o e => ?_, G.len, fun i sv e => ?_, G.ap⟩
  · rcases nw b o e with z | z
    · exact G.nw b o z
    · exact .inr (G.h0.free z)
  · obtain ⟨w, e1, q⟩ := G.at_ i sv e
    refine ⟨w, e1, ?_⟩
    cases sv with
    | d x => exact Rep.mono s1 _ _ q
    | own ys =>
      obtain ⟨p, vs, rfl, hp, rl, fp, h0⟩ := q
      refine ⟨p, vs, rfl, s3 _ _ hp, RepL.mono s1 _ _ rl, ?_, h0⟩
      cases z : F' p with
      | none => rfl
      | some o =>
        rcases nw p o z with z | z
        · rw [fp] at z; cases z
        · rw [hp] at z; cases z
theorem spF_of {σ : St} {ρ : En} {F H : Hp} {Q : VK} {fn : List D → Option R} {ds : List D} {vs : List V} (G : Good C F H σ ρ) (r : RepL C.K F ds vs) (h : PostE C σ ρ F H (fn ds) Q) : spF C.K C.mg fn vs H Q (WE C.W σ) := by
  refine ⟨F, ds, G.fh, r, ?_⟩
  cases e : fn ds with
  | none => rw [e] at h; exact h
  | some q =>
    rw [e] at h
    cases q with
    | ok sv =>
      intro v F' H' s1 s2 s3 nw rs
      exact h v F' H' ⟨G.after s1 s2 s3 nw, s1, s3, nw⟩ rs
    | ex x p =>
      intro H' cls d s3 xr
      exact h F H' cls d ⟨G.after (Same.refl F) (G.fh.trans s3) s3 fun b o z => .inl z, Same.refl F, s3, fun _ _ z => .inl z⟩ xr
/-- f(e, ..): the written arguments, then the defaults dds -/
theorem x_call {k : Nat} {fp : Addr} {fd : FuncData} {ps : List Str} {x : Str} {p : Pos} {fn : List D → Option R} {dds : List D} {dvs : List V} {ds : List Value} (ft : Fit X C) (F : FnOk X.prog X.w X.K X.mg X.base (L2.CX X.prog X.w) k fp fd ps (spF C.K C.mg fn)) (hr : Room k X.A) (hg : Gl X x) (hm : C.mg x = some (.ref fp))
    (hk : PySem.W.keepIn C.K (.ref fp) = true) (hb : Binds C.K fd ps ds) (hd : Vals dvs ds) (hD : ∀ F, RepL C.K F dds dvs) (ha : PA X (e :: es) (lA C ff)) (hdb : (x == ("__debug__" : Str)) = false := by decide) (he : starEach (e :: es) X.env = (false, eval e X.env) :: starEach es X.env := by rfl) (hpl : (backTo pos (starEach es X.env)).any (·.1) = false := by rfl) :
    PE X (.Call (.Name x p) (e :: es) [] pos) (lE C (eCall (fun us => fn (us ++ dds)) ff)) := by
  refine PE.imp ?_ (pe_callSD F hr hg (by rw [ft.mg]; exact hm) (by rw [ft.K]; exact hk) (by rw [ft.K]; exact hb) hd (fun σ => passAt ft.tk σ) ha hdb he hpl)
  intro σ H Q
  exact lA1 fun ρ F H ds vs G r h => spF_of G (r.append (hD F)) h
/-- no defaults -/
theorem x_calln {k : Nat} {fp : Addr} {fd : FuncData} {ps : List Str} {x : Str} {p : Pos} {fn : List D → Option R} (ft : Fit X C) (F : FnOk X.prog X.w X.K X.mg X.base (L2.CX X.prog X.w) k fp fd ps (spF C.K C.mg fn)) (hr : Room k X.A) (hg : Gl X x) (hm : C.mg x = some (.ref fp))
    (hk : PySem.W.keepIn C.K (.ref fp) = true) (hb : Binds C.K fd ps []) (ha : PA X (e :: es) (lA C ff)) (hdb : (x == ("__debug__" : Str)) = false := by decide) (he : starEach (e :: es) X.env = (false, eval e X.env) :: starEach es X.env := by rfl) (hpl : (backTo pos (starEach es X.env)).any (·.1) = false := by rfl) :
    PE X (.Call (.Name x p) (e :: es) [] pos) (lE C (eCall fn ff)) := by
  refine PE.imp ?_ (pe_callS F hr hg (by rw [ft.mg]; exact hm) (by rw [ft.K]; exact hk) (by rw [ft.K]; exact hb) (fun σ => passAt ft.tk σ) ha hdb he hpl)
  intro σ H Q
  exact lA1 fun ρ F H ds vs G r h => spF_of G r h
theorem passL0 {X : Cx} {σ : St} {W : WX} (tk : Takes X W) : PassesAt (L2.CX X.prog X.w) X σ (WE W σ) := passAt tk σ
/-- f() -/
theorem x_call0 {k : Nat} {fp : Addr} {fd : FuncData} {x : Str} {p : Pos} {fn : List D → Option R} (ft : Fit X C) (F : FnOk X.prog X.w X.K X.mg X.base (L2.CX X.prog X.w) k fp fd [] (spF C.K C.mg fn)) (hr : Room k X.A) (hg : Gl X x) (hm : C.mg x = some (.ref fp))
    (hk : PySem.W.keepIn C.K (.ref fp) = true) (hb : Binds C.K fd [] []) (hdb : (x == ("__debug__" : Str)) = false := by decide) :
    PE X (.Call (.Name x p) [] [] pos) (lE C (eCall fn aNil)) := by
  refine ⟨fun pins s σ H Q I h => ?_⟩
  obtain ⟨ρ, F0, G, h⟩ := h
  refine wpAny_Call_Name_kw (ld_glob I hg (by rw [ft.mg]; exact hm) ?_ hdb)
  exact PySem.W.callWith_K0 I.kIn (by rw [ft.K]; exact hk) (run_fnS (us := []) (vs := []) (E := WE C.W) F hr (by rw [ft.K]; exact hb) (passAt ft.tk σ) I .nil (spF_of (ds := []) G .nil h))
end
end PT
/-! PT: statements. -/
namespace PT
open PySem PySem.Spec PyProof.Rows L2

structure PD where
  nx : En → Prop
  rt : SV → Prop
  bk : En → Prop
  ct : En → Prop
  ex : Str → Option Int → Prop
abbrev SF := PD → En → Prop
/-- B: the data ahead of the statement, which stay -/
structure Fits (C : FR) (B : Hp) (P : PD) (D : Ends) : Prop where
  nx : ∀ σ ρ F H, Good C F H σ ρ → Same B F → P.nx ρ → D.nx σ H
  rt : ∀ σ ρ F H v sv, Good C F H σ ρ → Same B F → RepS C.K C.H0 F H sv v → P.rt sv → D.rt v H
  bk : ∀ σ ρ F H, Good C F H σ ρ → Same B F → P.bk ρ → D.bk σ H
  ct : ∀ σ ρ F H, Good C F H σ ρ → Same B F → P.ct ρ → D.ct σ H
  ex : ∀ σ ρ F H x p cls d, Good C F H σ ρ → Same B F → XR C.mg H x p cls d → P.ex x p → C.W cls d σ H
theorem Fits.up {C : FR} {B B' : Hp} {P : PD} {D : Ends} (f : Fits C B P D) (s : Same B B') : Fits C B' P D :=
  ⟨fun σ ρ F H g t => f.nx σ ρ F H g (s.trans t), fun σ ρ F H v sv g t => f.rt σ ρ F H v sv g (s.trans t), fun σ ρ F H g t => f.bk σ ρ F H g (s.trans t), fun σ ρ F H g t => f.ct σ ρ F H g (s.trans t), fun σ ρ F H x p cls d g t => f.ex σ ρ F H x p cls d g (s.trans t)⟩
def lS (C : FR) (w : SF) : TS := fun D σ H => ∃ ρ F P, Good C F H σ ρ ∧ w P ρ ∧ Fits C F P D

def wR (r : Option R) (k : SV → Prop) (ex : Str → Option Int → Prop) : Prop :=
  match r with
  | some (.ok sv) => k sv
  | some (.ex x p) => ex x p
  | none => False
def wRB (r : Option RB) (k : Bool → Prop) (ex : Str → Option Int → Prop) : Prop :=
  match r with
  | some (.ok sv) => k sv
  | some (.ex x p) => ex x p
  | none => False
def wRL (r : Option RL) (k : List D → Prop) (ex : Str → Option Int → Prop) : Prop :=
  match r with
  | some (.ok sv) => k sv
  | some (.ex x p) => ex x p
  | none => False
def wNop : SF := fun P ρ => P.nx ρ
def wSeq (a b : SF) : SF := fun P ρ => a { P with nx := fun ρ' => b P ρ' } ρ
/-- name = e, as data; as an own list -/
def wSet (i : Nat) (f : EF) : SF := fun P ρ => wR (f ρ) (fun sv => P.nx (ρ.set i (some (.d (toD sv))))) P.ex
def wOwn (i : Nat) (f : EF) : SF := fun P ρ => wR (f ρ) (fun sv => P.nx (ρ.set i (some sv))) P.ex
def wRet (f : EF) : SF := fun P ρ => wR (f ρ) P.rt P.ex
def wRetN : SF := fun P _ => P.rt (.d .non)
/-- return name, an own list too -/
def wRetV (i : Nat) : SF := fun P ρ => match ρ[i]? with
  | some (some sv) => P.rt sv
  | _ => False
def wIf (c : CF) (a b : SF) : SF := fun P ρ => wRB (c ρ) (fun t => if t then a P ρ else b P ρ) P.ex
def wExpr (f : EF) : SF := fun P ρ => wR (f ρ) (fun _ => P.nx ρ) P.ex
def wApp (i : Nat) (f : EF) : SF := fun P ρ => match ρ[i]? with
  | some (some (.own xs)) => wR (f ρ) (fun sv => xs.length ≤ 1000000 ∧ P.nx (ρ.set i (some (.own (xs ++ [toD sv]))))) P.ex
  | _ => False
def wRaise (x : Str) : SF := fun P _ => P.ex x none
def wBreak : SF := fun P ρ => P.bk ρ
def wCont : SF := fun P ρ => P.ct ρ
/-- the list in slot i is data from here on -/
def wFrz (i : Nat) (w : SF) : SF := fun P ρ => match ρ[i]? with
  | some (some sv) => w P (ρ.set i (some (.d (toD sv))))
  | _ => w P ρ
def wWhileN (c : CF) (b : SF) (P : PD) : Nat → En → Prop
  | 0, _ => False
  | n + 1, ρ => wRB (c ρ) (fun t => if t then b { P with nx := wWhileN c b P n, ct := wWhileN c b P n, bk := P.nx } ρ else P.nx ρ) P.ex
def wWhile (c : CF) (b : SF) : SF := fun P ρ => ∃ n, wWhileN c b P n ρ
/-! targets -/
abbrev GF := D → En → Option En
abbrev GLF := List D → En → Option En
def gN (i : Nat) : GF := fun x ρ => some (ρ.set i (some (.d x)))
def gNil : GLF := fun ds ρ => match ds with
  | [] => some ρ
  | _ => none
def gCons (g : GF) (gs : GLF) : GLF := fun ds ρ => match ds with
  | d :: r => (match g d ρ with
    | some ρ' => gs r ρ'
    | none => none)
  | [] => none
def gTup (gs : GLF) : GF := fun x ρ => match x with
  | .tup ds => gs ds ρ
  | _ => none
def gLs (gs : GLF) : GF := fun x ρ => match x with
  | .lst ds => gs ds ρ
  | .scr ds => gs ds ρ
  | _ => none
def wAsg (f : EF) (g : GF) : SF := fun P ρ => wR (f ρ) (fun sv => match g (toD sv) ρ with
  | some ρ' => P.nx ρ'
  | none => False) P.ex
/-- a, b = x, y at once -/
def wPar (i j : Nat) (fa : AF) : SF := fun P ρ => wRL (fa ρ) (fun ds => match ds with
  | [x, y] => P.nx ((ρ.set i (some (.d x))).set j (some (.d y)))
  | _ => False) P.ex
def wForL (g : GF) (b : SF) (P : PD) : List D → En → Prop
  | [], ρ => P.nx ρ
  | d :: ds, ρ => match g d ρ with
    | some ρ1 => b { P with nx := wForL g b P ds, ct := wForL g b P ds, bk := P.nx } ρ1
    | none => False
def wFor (it : AF) (g : GF) (b : SF) : SF := fun P ρ => wRL (it ρ) (fun ds => wForL g b P ds ρ) P.ex

section
variable {X : Cx} {C : FR} {e a b : Expr} {es : List Expr} {f fa fb : EF} {ff : AF} {pos : Pos} {st : Stmt} {sts : List Stmt} {w u : SF}

theorem Good.set {F H : Hp} {σ : St} {ρ : En} {sv : SV} {v : V} (G : Good C F H σ ρ) (i : Nat) (r : RepS C.K C.H0 F H sv v) (a : Apart σ ρ sv v) : Good C F H (σ.set i (some v)) (ρ.set i (some sv)) := by
  refine ⟨G.fh, G.h0, G.f0, G.nw, by simp [G.len], fun j w e => ?_, fun j k xs ys p hjk e1 e2 e3 e4 => ?_⟩
  · by_cases hij : i = j
    · subst hij
      by_cases hl : i < ρ.length
      · rw [List.getElem?_set_self hl] at e
        cases e
        exact ⟨v, by rw [List.getElem?_set_self (by rw [← G.len]; exact hl)], r⟩
      · rw [List.getElem?_eq_none (by simpa using hl)] at e; cases e
    · rw [List.getElem?_set_ne hij] at e
      obtain ⟨x, e', q⟩ := G.at_ j w e
      exact ⟨x, by rw [List.getElem?_set_ne hij]; exact e', q⟩
  · have hl : ∀ (j : Nat) (z : SV), (ρ.set i (some sv))[j]? = some (some z) → i = j → z = sv ∧ i < ρ.length := fun j z e hij => by
      subst hij
      by_cases hl : i < ρ.length
      · rw [List.getElem?_set_self hl] at e; cases e; exact ⟨rfl, hl⟩
      · rw [List.getElem?_eq_none (by simpa using hl)] at e; cases e
    by_cases hj : i = j
    · obtain ⟨q1, q2⟩ := hl j _ e1 hj
      have hk : i ≠ k := fun z => hjk (hj.symm.trans z)
      rw [List.getElem?_set_ne hk] at e2 e4
      subst hj
      rw [List.getElem?_set_self (by rw [← G.len]; exact q2)] at e3
      cases e3
      exact a xs q1.symm k ys e2 e4
    · by_cases hk : i = k
      · obtain ⟨q1, q2⟩ := hl k _ e2 hk
        rw [List.getElem?_set_ne hj] at e1 e3
        subst hk
        rw [List.getElem?_set_self (by rw [← G.len]; exact q2)] at e4
        cases e4
        exact a ys q1.symm j xs e1 e3
      · rw [List.getElem?_set_ne hj] at e1 e3
        rw [List.getElem?_set_ne hk] at e2 e4
        exact G.ap j k xs ys p hjk e1 e2 e3 e4
/-- an own list is rewritten -/
theorem Good.write {F H : Hp} {σ : St} {ρ : En} {i : Nat} {xs ys : List D} {p : Addr} {ws : List V} (G : Good C F H σ ρ) (e : ρ[i]? = some (some (.own xs))) (es : σ[i]? = some (some (.ref p))) (r : RepL C.K F ys ws) : Good C F (upd H p (.lst ws)) σ (ρ.set i (some (.own ys))) := by
  obtain ⟨v, e', p', vs, rfl, hp, rl, fp, h0⟩ := G.at_ i _ e
  rw [es] at e'
  cases e'
  have hil : i < ρ.length := (List.getElem?_eq_some_iff.mp e).1
  refine ⟨fun q o z => ?_, fun q o z => ?_, G.f0, G.nw, by simp [G.len], fun j sv z => ?_, fun j k as bs q hjk z1 z2 z3 z4 => ?_⟩
  · rw [upd_ne (fun h => by subst h; rw [fp] at z; cases z)]; exact G.fh q o z
  · rw [upd_ne (fun h => by subst h; rw [h0] at z; cases z)]; exact G.h0 q o z
  · by_cases hij : i = j
    · subst hij
      rw [List.getElem?_set_self hil] at z
      cases z
      exact ⟨_, es, p, ws, rfl, upd_same, r, fp, h0⟩
    · rw [List.getElem?_set_ne hij] at z
      obtain ⟨x, e2, q⟩ := G.at_ j sv z
      refine ⟨x, e2, ?_⟩
      cases sv with
      | d y => exact q
      | own bs =>
        obtain ⟨p2, vs2, rfl, hp2, rl2, fp2, h02⟩ := q
        refine ⟨p2, vs2, rfl, ?_, rl2, fp2, h02⟩
        rw [upd_ne (fun h => ?_)]
        · exact hp2
        · subst h; exact G.ap i j xs bs p2 hij e z es e2
  · have own : ∀ (j : Nat) (as : List D), (ρ.set i (some (.own ys)))[j]? = some (some (.own as)) → ∃ cs, ρ[j]? = some (some (.own cs)) := fun j as z => by
      by_cases hij : i = j
      · subst hij; exact ⟨xs, e⟩
      · rw [List.getElem?_set_ne hij] at z; exact ⟨as, z⟩
    obtain ⟨c1, y1⟩ := own j as z1
    obtain ⟨c2, y2⟩ := own k bs z2
    exact G.ap j k c1 c2 q hjk y1 y2 z3 z4

theorem s_nil : PSs X [] (lS C wNop) := PSs.imp (fun D σ H ⟨ρ, F, P, G, h, ft⟩ => ft.nx σ ρ F H G (Same.refl F) h) pss_nil
theorem s_one (h : PS X st (lS C w)) : PSs X [st] (lS C w) := pss_one h
theorem s_cons (h1 : PS X st (lS C w)) (h2 : PSs X sts (lS C u)) : PSs X (st :: sts) (lS C (wSeq w u)) := by
  refine PSs.imp ?_ (pss_cons h1 h2)
  rintro D σ H ⟨ρ, F, P, G, h, ft⟩
  exact ⟨ρ, F, _, G, h, ⟨fun σ' ρ' F' H' G' s q => ⟨ρ', F', P, G', q, ft.up s⟩, ft.rt, ft.bk, ft.ct, ft.ex⟩⟩
/-- from an expression's reading -/
theorem lS_E {k : SV → Prop} {P : PD} {D : Ends} {σ : St} {ρ : En} {F H : Hp} {Q : VK} (G : Good C F H σ ρ) (ft : Fits C F P D) (h : wR (f ρ) k P.ex) (hq : ∀ sv v F' H', Step C σ ρ F H F' H' → RepS C.K H F' H' sv v → k sv → Q v H') : lE C f σ H Q := by
  refine ⟨ρ, F, G, ?_⟩
  cases e : f ρ with
  | none => rw [e] at h; exact h
  | some r =>
    rw [e] at h
    cases r with
    | ok sv => exact fun v F' H' st q => hq sv v F' H' st q h
    | ex x p => exact fun F' H' cls d st q => ft.ex σ ρ F' H' x p cls d st.g st.s q h
theorem lS_B {c : CF} {k : Bool → Prop} {P : PD} {D : Ends} {σ : St} {ρ : En} {F H : Hp} {Q : Bool → Hp → Prop} (G : Good C F H σ ρ) (ft : Fits C F P D) (h : wRB (c ρ) k P.ex) (hq : ∀ t F' H', Step C σ ρ F H F' H' → k t → Q t H') : lT C c σ H Q := by
  refine ⟨ρ, F, G, ?_⟩
  cases e : c ρ with
  | none => rw [e] at h; exact h
  | some r =>
    rw [e] at h
    cases r with
    | ok t => exact fun F' H' st => hq t F' H' st h
    | ex x p => exact fun F' H' cls d st q => ft.ex σ ρ F' H' x p cls d st.g st.s q h
theorem lS_A {c : AF} {k : List D → Prop} {P : PD} {D : Ends} {σ : St} {ρ : En} {F H : Hp} {Q : List V → Hp → Prop} (G : Good C F H σ ρ) (ft : Fits C F P D) (h : wRL (c ρ) k P.ex) (hq : ∀ ds vs F' H', Step C σ ρ F H F' H' → RepL C.K F' ds vs → k ds → Q vs H') : lA C c σ H Q := by
  refine ⟨ρ, F, G, ?_⟩
  cases e : c ρ with
  | none => rw [e] at h; exact h
  | some r =>
    rw [e] at h
    cases r with
    | ok t => exact fun vs F' H' st q => hq t vs F' H' st q h
    | ex x p => exact fun F' H' cls d st q => ft.ex σ ρ F' H' x p cls d st.g st.s q h
theorem s_own {i : Nat} {x : Str} {pos' : Pos} (he : PE X e (lE C f)) (hN : X.N.Nodup) (hi : X.N[i]? = some x := by rfl) (hx : Loc X.env.scope x := by first | exact Or.inl rfl | exact Or.inr rfl) (hs : swapsWith e (some (.Name x pos')) pos.line X.env = pure false := by rfl)
    (hf : X.fn x = true ∨ X.env.scope.names.lookup x = some .local := by first | exact .inl rfl | exact .inr rfl) : PS X (.Assign [.Name x pos'] e pos) (lS C (wOwn i f)) := by
  refine PS.imp ?_ (ps_set hN hi hx he hs hf)
  rintro D σ H ⟨ρ, F, P, G, h, ft⟩
  exact lS_E G ft h fun sv v F' H' st q k => ft.nx _ _ F' H' (st.g.set i (q.base G.h0) (G.apart q)) st.s k
theorem s_set {i : Nat} {x : Str} {pos' : Pos} (he : PE X e (lE C f)) (hN : X.N.Nodup) (hi : X.N[i]? = some x := by rfl) (hx : Loc X.env.scope x := by first | exact Or.inl rfl | exact Or.inr rfl) (hs : swapsWith e (some (.Name x pos')) pos.line X.env = pure false := by rfl)
    (hf : X.fn x = true ∨ X.env.scope.names.lookup x = some .local := by first | exact .inl rfl | exact .inr rfl) : PS X (.Assign [.Name x pos'] e pos) (lS C (wSet i f)) := by
  refine PS.imp ?_ (ps_set hN hi hx he hs hf)
  rintro D σ H ⟨ρ, F, P, G, h, ft⟩
  refine lS_E G ft h fun sv v F' H' st q k => ?_
  obtain ⟨F2, s2, q2⟩ := st.data G q
  exact ft.nx _ _ F2 H' (s2.g.set i (sv := .d (toD sv)) q2 Apart.d) s2.s k
theorem s_ret (he : PE X e (lE C f)) : PS X (.Return (some e) pos) (lS C (wRet f)) := by
  refine PS.imp ?_ (ps_ret he)
  rintro D σ H ⟨ρ, F, P, G, h, ft⟩
  exact lS_E G ft h fun sv v F' H' st q k => ft.rt σ ρ F' H' v sv st.g st.s (q.base G.h0) k
theorem s_retN : PS X (.Return none pos) (lS C wRetN) := by
  refine PS.imp ?_ ps_retN
  rintro D σ H ⟨ρ, F, P, G, h, ft⟩
  exact ft.rt σ ρ F H .non (.d .non) G (Same.refl F) .non h
theorem s_retV (i : Nat) {x : Str} {p : Pos} (hN : X.N[i]? = some x := by rfl) (hv : Vis X.env.scope x := by first | exact Or.inl rfl | exact Or.inr (Or.inl rfl) | exact Or.inr (Or.inr rfl)) (hd : (x == ("__debug__" : Str)) = false := by decide)
    (hcd : (x == ("__classdict__" : Str)) = false := by decide) : PS X (.Return (some (.Name x p)) pos) (lS C (wRetV i)) := by
  refine PS.imp ?_ (ps_ret (pe_var hN hv hd hcd))
  rintro D σ H ⟨ρ, F, P, G, h, ft⟩
  unfold wRetV at h
  split at h
  · rename_i sv e
    obtain ⟨v, e2, q⟩ := G.at_ i _ e
    exact ⟨v, e2, ft.rt σ ρ F H v sv G (Same.refl F) q h⟩
  · exact h.elim
theorem s_if {c : Expr} {t : CF} {as bs : List Stmt} (hc : L2.PT X c (lT C t)) (ha : PSs X as (lS C w)) (hb : PSs X bs (lS C u)) : PS X (.If c as bs pos) (lS C (wIf t w u)) := by
  refine PS.imp ?_ (ps_if hc ha hb)
  rintro D σ H ⟨ρ, F, P, G, h, ft⟩
  refine lS_B G ft h fun t F' H' st k => ?_
  cases t with
  | true => rw [if_pos rfl] at k ⊢; exact ⟨ρ, F', P, st.g, k, ft.up st.s⟩
  | false => rw [if_neg Bool.false_ne_true] at k ⊢; exact ⟨ρ, F', P, st.g, k, ft.up st.s⟩
theorem s_expr (he : PE X e (lE C f)) (hs : swapsWith e none pos.line X.env = pure false := by rfl) : PS X (.Expr e pos) (lS C (wExpr f)) := by
  refine PS.imp ?_ (ps_expr he hs)
  rintro D σ H ⟨ρ, F, P, G, h, ft⟩
  exact lS_E G ft h fun sv v F' H' st q k => ft.nx σ ρ F' H' st.g st.s k
theorem s_break : PS X (.Break pos) (lS C wBreak) := PS.imp (fun D σ H ⟨ρ, F, P, G, h, ft⟩ => ft.bk σ ρ F H G (Same.refl F) h) ps_break
theorem s_cont : PS X (.Continue pos) (lS C wCont) := PS.imp (fun D σ H ⟨ρ, F, P, G, h, ft⟩ => ft.ct σ ρ F H G (Same.refl F) h) ps_continue
theorem s_pass : PS X (.Pass pos) (lS C wNop) := PS.imp (fun D σ H ⟨ρ, F, P, G, h, ft⟩ => ft.nx σ ρ F H G (Same.refl F) h) ps_pass
theorem ss_frz (i : Nat) (h : PSs X sts (lS C w)) : PSs X sts (lS C (wFrz i w)) := by
  refine PSs.imp ?_ h
  rintro D σ H ⟨ρ, F, P, G, h, ft⟩
  unfold wFrz at h
  split at h
  · rename_i sv e
    obtain ⟨v, e2, q⟩ := G.at_ i _ e
    cases sv with
    | d x =>
      refine ⟨_, F, P, ?_, h, ft⟩
      have : ρ.set i (some (.d (toD (.d x)))) = ρ := by
        apply List.ext_getElem? ; intro j
        by_cases hij : i = j
        · subst hij; rw [List.getElem?_set_self (List.getElem?_eq_some_iff.mp e).1, e]; rfl
        · rw [List.getElem?_set_ne hij]
      rw [this]; exact G
    | own xs =>
      -- forget the slot, freeze, set it anew
      obtain ⟨p, vs, rfl, hp, rl, fp, h0⟩ := q
      have hil : i < ρ.length := (List.getElem?_eq_some_iff.mp e).1
      have G0 : Good C F H σ (ρ.set i none) := by
        refine ⟨G.fh, G.h0, G.f0, G.nw, by simp [G.len], fun j sv z => ?_, fun j k as bs q hjk z1 z2 z3 z4 => ?_⟩
        · by_cases hij : i = j
          · subst hij; rw [List.getElem?_set_self hil] at z; cases z
          · rw [List.getElem?_set_ne hij] at z; exact G.at_ j sv z
        · by_cases hij : i = j
          · subst hij; rw [List.getElem?_set_self hil] at z1; cases z1
          · by_cases hik : i = k
            · subst hik; rw [List.getElem?_set_self hil] at z2; cases z2
            · rw [List.getElem?_set_ne hij] at z1; rw [List.getElem?_set_ne hik] at z2; exact G.ap j k as bs q hjk z1 z2 z3 z4
      obtain ⟨F2, g2, s2, q2⟩ := G0.freeze (xs := xs) (v := .ref p) ⟨p, vs, rfl, hp, rl, fp, h0⟩ (fun xs' _ j ys z1 z2 => by
        by_cases hij : i = j
        · subst hij; rw [List.getElem?_set_self hil] at z1; cases z1
        · rw [List.getElem?_set_ne hij] at z1; exact G.ap i j xs ys p hij e z1 e2 z2)
      have g3 := g2.set i (sv := .d (.lst xs)) q2 Apart.d
      have e3 : σ.set i (some (.ref p)) = σ := by
        apply List.ext_getElem? ; intro j
        by_cases hij : i = j
        · subst hij; rw [List.getElem?_set_self (by rw [← G.len]; exact hil), e2]
        · rw [List.getElem?_set_ne hij]
      rw [e3, List.set_set] at g3
      exact ⟨_, F2, P, g3, h, ft.up s2⟩
  · exact ⟨ρ, F, P, G, h, ft⟩
/-- x.append(e), x an own list -/
theorem s_app (i : Nat) {x : Str} {p apos cpos : Pos} (he : PE X e (lE C f)) (hN : X.N[i]? = some x := by rfl) (hv : Vis X.env.scope x := by first | exact Or.inl rfl | exact Or.inr (Or.inl rfl) | exact Or.inr (Or.inr rfl)) (hd : (x == ("__debug__" : Str)) = false := by decide)
    (hcd : (x == ("__classdict__" : Str)) = false := by decide) (hs : swapsWith (.Call (.Attribute (.Name x p) "append" apos) [e] [] cpos) none pos.line X.env = pure false := by rfl)
    (hbase : attributeBase (.Name x p) "append" X.env (eval (.Name x p) X.env) = eval (.Name x p) X.env := by rfl)
    (hfew : ((backTo cpos (starEach [e] X.env)).all (fun x => !x.1) && (backToKw cpos (keywordEach [] X.env)).all (fun x => x.1.isSome) && decide ([e].length + ([] : List Keyword).length + (if ([] : List Keyword).isEmpty then 0 else 1) < 30)) = true := by rfl)
    (hline : (apos.endLine == cpos.line) = true := by rfl) (hst : starEach [e] X.env = (false, eval e X.env) :: starEach [] X.env := by rfl) :
    PS X (.Expr (.Call (.Attribute (.Name x p) "append" apos) [e] [] cpos) pos) (lS C (wApp i f)) := by
  refine PS.imp ?_ (ps_expr (pe_bm PySem.F.plainAttrs_list PySem.F.slot_list_append PySem.F.type_list_append mt_append (pe_var hN hv hd hcd) (pa_cons he pa_nil hst) hbase hfew hline hst rfl) hs)
  rintro D σ H ⟨ρ, F, P, G, h, ft⟩
  unfold wApp at h
  split at h
  · rename_i xs e
    obtain ⟨v, e2, p, vs, rfl, hp, rl, fp, h0⟩ := G.at_ i _ e
    refine ⟨_, e2, .inl ⟨rfl, _, SqL.of hp⟩, ?_⟩
    refine lS_E G ft h fun sv v F' H' st q k => ?_
    obtain ⟨F2, s2, q2⟩ := st.data G q
    obtain ⟨v', e2', p', vs', ev, hp', rl', fp', h0'⟩ := s2.g.at_ i _ e
    rw [e2] at e2'
    cases e2'
    cases ev
    refine ⟨p, vs', v, rfl, rfl, hp', by rw [← rl'.len, sizeLine_eq]; omega, ?_⟩
    exact ft.nx _ _ F2 _ (s2.g.write e e2 (rl'.append (.cons q2 .nil))) s2.s k.2
  · exact h.elim
/-! ### targets -/
/-- what a target takes: names at the places is, the heap stays -/
def lG (C : FR) (g : GF) (is : List Nat) : TG := fun v σ H Q => ∃ ρ F x ρ', Good C F H σ ρ ∧ Rep C.K F x v ∧ g x ρ = some ρ' ∧ ∀ σ', σ'.length = σ.length → (∀ j, j ∉ is → σ'[j]? = σ[j]?) → Good C F H σ' ρ' → Q σ' H
def lGs (C : FR) (g : GLF) (is : List Nat) : TGs := fun vs σ H Q => ∃ ρ F xs ρ', Good C F H σ ρ ∧ RepL C.K F xs vs ∧ g xs ρ = some ρ' ∧ ∀ σ', σ'.length = σ.length → (∀ j, j ∉ is → σ'[j]? = σ[j]?) → Good C F H σ' ρ' → Q σ' H
theorem PG.imp {t t' : TG} (h : ∀ v σ H Q, t' v σ H Q → t v σ H Q) (p : PG X e t) : PG X e t' := ⟨fun pins s σ H v u Q I r q => p.run pins s σ H v u Q I r (h v σ H Q q)⟩
theorem PGs.imp {t t' : TGs} (h : ∀ v σ H Q, t' v σ H Q → t v σ H Q) (p : PGs X es t) : PGs X es t' := ⟨fun pins s σ H v u Q I r q => p.run pins s σ H v u Q I r (h v σ H Q q)⟩
theorem g_name {i : Nat} {x : Str} (hN : X.N.Nodup) (hi : X.N[i]? = some x := by rfl) (hx : Loc X.env.scope x := by first | exact Or.inl rfl | exact Or.inr rfl) (hf : X.fn x = true ∨ X.env.scope.names.lookup x = some .local := by first | exact .inl rfl | exact .inr rfl) : PG X (.Name x pos) (lG C (gN i) [i]) := by
  refine PG.imp ?_ (pg_name hN hi hx hf)
  rintro v σ H Q ⟨ρ, F, y, ρ', G, r, e, q⟩
  cases e
  refine q _ (by simp) (fun j hj => ?_) (G.set i (sv := .d y) r Apart.d)
  rw [List.getElem?_set_ne (fun z => hj (by simp [z]))]
theorem g_nil : PGs X [] (lGs C gNil []) := by
  refine PGs.imp ?_ pgs_nil
  rintro vs σ H Q ⟨ρ, F, xs, ρ', G, r, e, q⟩
  cases r with
  | nil => cases e; exact ⟨rfl, q σ rfl (fun _ _ => rfl) G⟩
  | cons _ _ => cases e
theorem g_cons {g : GF} {gs : GLF} {is js : List Nat} (h1 : PG X e (lG C g is)) (h2 : PGs X es (lGs C gs js)) (hs : (assignEach (e :: es) X.env).map (·.2) = assign e X.env :: (assignEach es X.env).map (·.2) := by rfl) : PGs X (e :: es) (lGs C (gCons g gs) (is ++ js)) := by
  refine PGs.imp ?_ (pgs_cons h1 h2 hs)
  rintro vs σ H Q ⟨ρ, F, xs, ρ', G, r, e, q⟩
  cases r with
  | nil => cases e
  | cons a b =>
    rename_i d v ds vs
    unfold gCons at e
    dsimp only at e
    cases e1 : g d ρ with
    | none => rw [e1] at e; cases e
    | some ρ1 =>
      rw [e1] at e
      refine ⟨v, vs, rfl, ρ, F, d, ρ1, G, a, e1, fun σ1 l1 k1 G1 => ⟨ρ1, F, ds, ρ', G1, b, e, fun σ2 l2 k2 G2 => ?_⟩⟩
      refine q σ2 (l2.trans l1) (fun j hj => ?_) G2
      rw [List.mem_append, not_or] at hj
      rw [k2 j hj.2, k1 j hj.1]
theorem g_tup {k n : Nat} {gs : GLF} {is : List Nat} (ft : Fit X C) (h : PGs X es (lGs C gs is)) (hl : ∀ ds ρ ρ', gs ds ρ = some ρ' → ds.length = n) (hn : (assignEach es X.env).length = n := by rfl) (hst : (assignEach es X.env).findIdx? (·.1) = none := by rfl) (hh : C.hot = false := by rfl) : PG X (.Tuple es k pos) (lG C (gTup gs) is) := by
  refine PG.imp ?_ (pg_tup (ft.calm hh) h hn hst)
  rintro v σ H Q ⟨ρ, F, x, ρ', G, r, e, q⟩
  unfold gTup at e
  split at e
  · cases r with | tup s rl =>
      exact ⟨_, _, rfl, by rw [ft.K]; exact seqT_mono G.fh s, by rw [← rl.len]; exact hl _ _ _ e, ρ, F, _, ρ', G, rl, e, q⟩
  · cases e
theorem g_lst {k n : Nat} {gs : GLF} {is : List Nat} (ft : Fit X C) (h : PGs X es (lGs C gs is)) (hl : ∀ ds ρ ρ', gs ds ρ = some ρ' → ds.length = n) (hn : (assignEach es X.env).length = n := by rfl) (hst : (assignEach es X.env).findIdx? (·.1) = none := by rfl) (hh : C.hot = false := by rfl) : PG X (.Tuple es k pos) (lG C (gLs gs) is) := by
  refine PG.imp ?_ (pg_lst (ft.calm hh) h hn hst)
  rintro v σ H Q ⟨ρ, F, x, ρ', G, r, e, q⟩
  unfold gLs at e
  split at e
  · cases r with | lst s rl =>
      exact ⟨_, _, rfl, SqL.of (G.fh _ _ s), by rw [← rl.len]; exact hl _ _ _ e, ρ, F, _, ρ', G, rl, e, q⟩
  · cases r with | scr s rl =>
      exact ⟨_, _, rfl, by rw [ft.K]; exact G.fh.seq s, by rw [← rl.len]; exact hl _ _ _ e, ρ, F, _, ρ', G, rl, e, q⟩
  · cases e
theorem gl_nil (ds : List D) (ρ ρ' : En) (h : gNil ds ρ = some ρ') : ds.length = 0 := by
  cases ds with
  | nil => rfl
  | cons _ _ => cases h
theorem gl_cons {g : GF} {gs : GLF} {n : Nat} (h : ∀ ds ρ ρ', gs ds ρ = some ρ' → ds.length = n) (ds : List D) (ρ ρ' : En) (e : gCons g gs ds ρ = some ρ') : ds.length = n + 1 := by
  cases ds with
  | nil => cases e
  | cons d ds =>
    unfold gCons at e
    dsimp only at e
    split at e
    · simp [h _ _ _ e]
    · cases e
theorem s_asg {tg : Expr} {g : GF} {is : List Nat} (he : PE X e (lE C f)) (hg : PG X tg (lG C g is)) (hs : swapsWithSole [tg] e pos.line X.env = pure false := by rfl) (hw : swappedStores [tg] e X.env = pure none := by rfl)
    (h1 : (assignEach [tg] X.env).map (·.2) = [assign tg X.env] := by rfl) : PS X (.Assign [tg] e pos) (lS C (wAsg f g)) := by
  refine PS.imp ?_ (ps_asg he hg hs hw h1)
  rintro D σ H ⟨ρ, F, P, G, h, ft⟩
  refine lS_E G ft h fun sv v F' H' st q k => ?_
  obtain ⟨F2, s2, q2⟩ := st.data G q
  cases e1 : g (toD sv) ρ with
  | none => rw [e1] at k; exact k.elim
  | some ρ' =>
    rw [e1] at k
    exact ⟨ρ, F2, toD sv, ρ', s2.g, q2, e1, fun σ' _ _ G' => ft.nx σ' ρ' F2 H' G' s2.s k⟩
theorem s_par {i j : Nat} {x y : Str} {px py pt : Pos} {kt k2 : Nat} {pt2 : Pos} (fit : Fit X C) (hN : X.N.Nodup) (hij : i ≠ j) (ha : PA X [a, b] (lA C ff)) (hi : X.N[i]? = some x := by rfl) (hj : X.N[j]? = some y := by rfl)
    (hx : X.env.scope.names.lookup x = some .local := by rfl) (hy : X.env.scope.names.lookup y = some .local := by rfl)
    (hw : swappedStores [.Tuple [.Name x px, .Name y py] kt pt] (.Tuple [a, b] k2 pt2) X.env = pure (some [x, y]) := by rfl)
    (hs : swapsWithSole [.Tuple [.Name x px, .Name y py] kt pt] (.Tuple [a, b] k2 pt2) pos.line X.env = pure false := by rfl) (hh : C.hot = false := by rfl) :
    PS X (.Assign [.Tuple [.Name x px, .Name y py] kt pt] (.Tuple [a, b] k2 pt2) pos) (lS C (wPar i j ff)) := by
  refine PS.imp ?_ (ps_par (fit.calm hh) hN hi hj hij hx hy ha hw hs)
  rintro D σ H ⟨ρ, F, P, G, h, ft⟩
  refine lS_A G ft h fun ds vs F' H' st q k => ?_
  split at k
  · cases q with | cons q1 q => cases q with | cons q2 q =>
      cases q
      exact ⟨_, _, rfl, ft.nx _ _ F' H' ((st.g.set i (sv := .d _) q1 Apart.d).set j (sv := .d _) q2 Apart.d) st.s k⟩
  · exact k.elim

/-! ### loops -/
theorem s_while {c : Expr} {t : CF} {body : List Stmt} (fit : Fit X C) (hc : L2.PT X c (lT C t)) (hb : PSs X body (lS C w)) : PS X (.While c body [] pos) (lS C (wWhile t w)) := by
  refine PS.imp ?_ (ps_while fit.po hc hb)
  rintro D σ H ⟨ρ, F, P, G, ⟨n, h⟩, ft⟩
  refine ⟨fun m σ' H' => ∃ ρ' F', Good C F' H' σ' ρ' ∧ Same F F' ∧ wWhileN t w P m ρ', ⟨n, ρ, F, G, Same.refl F, h⟩, ?_⟩
  rintro m σ' H' ⟨ρ', F', G', s0, h'⟩
  cases m with
  | zero => exact h'.elim
  | succ m =>
    refine lS_B G' (ft.up s0) h' fun b F2 H2 st k => ?_
    cases b with
    | false => rw [if_neg Bool.false_ne_true] at k ⊢; exact ft.nx _ _ F2 H2 st.g (s0.trans st.s) k
    | true =>
      rw [if_pos rfl] at k ⊢
      refine ⟨fun σ3 H3 => ∃ ρ3 F3, Good C F3 H3 σ3 ρ3 ∧ Same F F3 ∧ wWhileN t w P m ρ3, fun σ3 H3 q => ⟨m, Nat.lt_succ_self m, q⟩, ρ', F2, _, st.g, k, ?_⟩
      have f2 := ft.up (s0.trans st.s)
      exact ⟨fun σ4 ρ4 F4 H4 G4 z q => ⟨ρ4, F4, G4, (s0.trans st.s).trans z, q⟩, f2.rt, f2.nx, fun σ4 ρ4 F4 H4 G4 z q => ⟨ρ4, F4, G4, (s0.trans st.s).trans z, q⟩, f2.ex⟩

/-- what a walked thing yields -/
def Yields (K : PySem.W.Frag) (J : It) (F0 : Hp) (ds : List D) : Prop := ∀ (i : Nat) (F H : Hp), Same F0 F → Same F H →
  (∀ d, ds[i]? = some d → J.go i H ∧ ∀ x H', J.yld i H x H' → ∃ F', Same F F' ∧ Same F' H' ∧ Same H H' ∧ (∀ b o, F' b = some o → F b = some o ∨ H b = none) ∧ Rep K F' d x) ∧ (ds.length ≤ i → J.stop i H)
def PostI (C : FR) (σ : St) (ρ : En) (F H : Hp) (r : Option RL) (Q : It → Hp → Prop) : Prop :=
  match r with
  | none => False
  | some (.ok ds) => ∀ J F' H', Step C σ ρ F H F' H' → Yields C.K J F' ds → Q J H'
  | some (.ex x p) => ∀ F' H' cls d, Step C σ ρ F H F' H' → XR C.mg H' x p cls d → C.W cls d σ H'
def lI (C : FR) (it : AF) : TI := fun σ H R => ∃ ρ F, Good C F H σ ρ ∧ PostI C σ ρ F H (it ρ) R
theorem PI.imp {tg : Expr} {t t' : TI} (h : ∀ σ H Q, t' σ H Q → t σ H Q) (p : PI X tg e t) : PI X tg e t' := ⟨fun pins s σ H R I q => p.run pins s σ H R I (h σ H R q)⟩

theorem s_for {tg iter : Expr} {it : AF} {g : GF} {is : List Nat} {body : List Stmt} (fit : Fit X C) (hi : PI X tg iter (lI C it)) (hg : PG X tg (lG C g is)) (hb : PSs X body (lS C w)) (hs : ∀ x, foldedSetIterable iter X.env x = pure x := by intro _; rfl) (hh : C.hot = false := by rfl) :
    PS X (.For tg iter body [] pos) (lS C (wFor it g w)) := by
  refine PS.imp ?_ (ps_for fit.po (fit.calm hh) hi hg hb hs)
  rintro D σ H ⟨ρ, F, P, G, h, ft⟩
  refine ⟨ρ, F, G, ?_⟩
  unfold wFor at h
  cases e : it ρ with
  | none => rw [e] at h; exact h
  | some r =>
    rw [e] at h
    cases r with
    | ex x p => exact fun F' H' cls d st q => ft.ex σ ρ F' H' x p cls d st.g st.s q h
    | ok ds =>
      intro J F' H' st Y
      have G1 := st.g
      have s := st.s
      refine ⟨fun i m σ2 H2 => ∃ ρ2 F2, Same F' F2 ∧ Good C F2 H2 σ2 ρ2 ∧ m + i = ds.length ∧ wForL g w P (ds.drop i) ρ2, ⟨ds.length, ρ, F', Same.refl F', G1, by omega, h⟩, ?_⟩
      rintro i m σ2 H2 ⟨ρ2, F2, s2, G2, em, h2⟩
      obtain ⟨y1, y2⟩ := Y i F2 H2 s2 G2.fh
      by_cases hi : i < ds.length
      · right
        obtain ⟨go, yl⟩ := y1 ds[i] (List.getElem?_eq_getElem hi)
        rw [List.drop_eq_getElem_cons hi] at h2
        unfold wForL at h2
        refine ⟨go, fun σ3 H3 => ∃ ρ3 F3, Same F' F3 ∧ Good C F3 H3 σ3 ρ3 ∧ wForL g w P (ds.drop (i + 1)) ρ3, fun σ3 H3 ⟨ρ3, F3, s3, G3, h3⟩ => ⟨m - 1, by omega, ρ3, F3, s3, G3, by omega, h3⟩, fun x H3 hy => ?_⟩
        obtain ⟨F3, a1, a2, a3, a4, a5⟩ := yl x H3 hy
        have G3 : Good C F3 H3 σ2 ρ2 := G2.after a1 a2 a3 a4
        cases e1 : g ds[i] ρ2 with
        | none => rw [e1] at h2; exact h2.elim
        | some ρ3 =>
          rw [e1] at h2
          refine ⟨ρ2, F3, _, ρ3, G3, a5, e1, fun σ4 _ _ G4 => ?_⟩
          have s3 := s2.trans a1
          have f3 := ft.up (s.trans s3)
          exact ⟨ρ3, F3, _, G4, h2, fun σ5 ρ5 F5 H5 G5 z q => ⟨ρ5, F5, s3.trans z, G5, q⟩, f3.rt, f3.nx, fun σ5 ρ5 F5 H5 G5 z q => ⟨ρ5, F5, s3.trans z, G5, q⟩, f3.ex⟩
      · left
        have : ds.drop i = [] := List.drop_eq_nil_of_le (by omega)
        rw [this] at h2
        exact ⟨y2 (by omega), ft.nx _ _ F2 H2 G2 (s.trans s2) h2⟩
end
end PT
/-! PT: what is walked, comprehensions, defs. -/
namespace PT
open PySem PySem.Spec PyProof.Rows L2
/-! ### what is walked -/
def itemsOf : D → Option RL
  | .tup ds => some (.ok ds)
  | .lst ds => some (.ok ds)
  | .scr ds => some (.ok ds)
  | _ => none
def itD (f : EF) : AF := fun ρ => bindRL (f ρ) itemsOf
def bindLL (r : Option RL) (k : List D → Option RL) : Option RL :=
  match r with
  | some (.ok ds) => k ds
  | some (.ex x p) => some (.ex x p)
  | none => none
def itA (g : List D → Option RL) (fa : AF) : AF := fun ρ => bindLL (fa ρ) g
def rangeD (lo : Int) (n : Nat) : List D := (List.range n).map fun (k : Nat) => D.int (lo + (k : Int))
def rangeC (lo c : Int) (n : Nat) : List D := (List.range n).map fun (k : Nat) => D.int (lo + (k : Int) * c)
def r62 (i : Int) : Bool := Nat.ble (i.natAbs + 1) 4611686018427387904
theorem r62_iff {i : Int} : r62 i = true ↔ -4611686018427387904 < i ∧ i < 4611686018427387904 := by
  unfold r62
  rw [Nat.ble_eq]
  omega
def range1L : List D → Option RL
  | [.int j] => if r62 j then some (.ok (rangeD 0 j.toNat)) else none
  | _ => none
def range2L : List D → Option RL
  | [.int i, .int j] => if r62 i && r62 j then some (.ok (rangeD i (j - i).toNat)) else none
  | _ => none
def rng3 (i j c : Int) : Bool := decide (c ≠ 0) && decide (c.natAbs < 1073741824) && Builtin.Range.small i j c
def range3L : List D → Option RL
  | [.int i, .int j, .int c] => if rng3 i j c then some (.ok (rangeC i c (Builtin.Range.rangeSize i j c).toNat)) else none
  | _ => none
def revL : List D → Option RL
  | [.lst ds] => some (.ok ds.reverse)
  | [.scr ds] => some (.ok ds.reverse)
  | _ => none
def zipD : List D → List D → List D
  | a :: as, b :: bs => .tup [a, b] :: zipD as bs
  | _, _ => []
def zipL : List D → Option RL
  | [.lst as, .lst bs] => some (.ok (zipD as bs))
  | [.tup as, .tup bs] => some (.ok (zipD as bs))
  | _ => none
section
variable {X : Cx} {C : FR} {e a b tg : Expr} {es : List Expr} {f fa fb : EF} {ff : AF} {pos : Pos}

theorem yields_seq {K : PySem.W.Frag} {F0 : Hp} {J : It} {ds : List D} {vs : List V} (r : RepL K F0 ds vs)
    (h : ∀ i H, Same F0 H → (∀ v, vs[i]? = some v → J.go i H ∧ ∀ x H', J.yld i H x H' → H' = H ∧ x = v) ∧ (vs.length ≤ i → J.stop i H)) : Yields K J F0 ds := by
  intro i F H s t
  obtain ⟨h1, h2⟩ := h i H (s.trans t)
  refine ⟨fun d e => ?_, fun hi => h2 (by rw [← r.len]; exact hi)⟩
  obtain ⟨v, e1, q⟩ := r.get e
  obtain ⟨go, yl⟩ := h1 v e1
  refine ⟨go, fun x H' y => ?_⟩
  obtain ⟨rfl, rfl⟩ := yl x H' y
  exact ⟨F, Same.refl F, t, Same.refl H', fun b o z => .inl z, Rep.mono s _ _ q⟩
theorem yields_list {K : PySem.W.Frag} {F0 : Hp} {a : Addr} {ds : List D} {vs : List V} (q : SqL K F0 a vs) (r : RepL K F0 ds vs) : Yields K (Itl K a) F0 ds :=
  yields_seq r fun i H s => ⟨fun v e => ⟨⟨vs, v, s.seq q, e⟩, fun x H' ⟨e1, y⟩ => ⟨e1, by
    have := y vs (s.seq q)
    rw [e] at this
    exact (Option.some.inj this).symm⟩⟩, fun hi => ⟨vs, s.seq q, hi⟩⟩
theorem yields_tup {K : PySem.W.Frag} {F0 : Hp} {a : Addr} {ds : List D} {vs : List V} (q : SqT K F0 a vs) (r : RepL K F0 ds vs) : Yields K (Itt K a) F0 ds :=
  yields_seq r fun i H s => ⟨fun v e => ⟨⟨vs, v, seqT_mono s q, e⟩, fun x H' ⟨e1, y⟩ => ⟨e1, by
    have := y vs (seqT_mono s q)
    rw [e] at this
    exact (Option.some.inj this).symm⟩⟩, fun hi => ⟨vs, seqT_mono s q, hi⟩⟩
theorem repL_map {K : PySem.W.Frag} {F : Hp} (g : Nat → Int) : ∀ l : List Nat, RepL K F (l.map fun k => D.int (g k)) (l.map fun k => V.int (g k))
  | [] => .nil
  | k :: l => .cons (.int _) (repL_map g l)
theorem range_get {α : Type} {g : Nat → α} {n i : Nat} {v : α} (e : ((List.range n).map g)[i]? = some v) : i < n ∧ v = g i := by
  rw [List.getElem?_map] at e
  by_cases hi : i < n
  · rw [List.getElem?_range hi] at e
    exact ⟨hi, (Option.some.inj e).symm⟩
  · rw [List.getElem?_eq_none (by simpa using hi)] at e
    cases e
theorem yields_range {K : PySem.W.Frag} {F0 : Hp} {lo : Int} {n : Nat} : Yields K (Itr lo n) F0 (rangeD lo n) :=
  yields_seq (repL_map (fun k => lo + (k : Int)) _) fun i H s => ⟨fun v e => by
    obtain ⟨hi, rfl⟩ := range_get e
    exact ⟨hi, fun x H' y => y⟩, fun hi => by
    rw [List.length_map, List.length_range] at hi
    exact hi⟩
theorem yields_rangeC {K : PySem.W.Frag} {F0 : Hp} {lo c : Int} {n : Nat} : Yields K (Itc lo c n) F0 (rangeC lo c n) :=
  yields_seq (repL_map (fun k => lo + (k : Int) * c) _) fun i H s => ⟨fun v e => by
    obtain ⟨hi, rfl⟩ := range_get e
    exact ⟨hi, fun x H' y => y⟩, fun hi => by
    rw [List.length_map, List.length_range] at hi
    exact hi⟩
/-- from an argument list's reading to a walk -/
theorem lI_A {g : List D → Option RL} {σ : St} {H : Hp} {R : It → Hp → Prop} {T : List V → Hp → Prop}
    (k : ∀ (ρ : En) (F H : Hp) (us : List D) (vs : List V), Good C F H σ ρ → RepL C.K F us vs → PostI C σ ρ F H (g us) R → T vs H) (h : lI C (itA g ff) σ H R) : lA C ff σ H T := by
  obtain ⟨ρ, F, G, h⟩ := h
  refine ⟨ρ, F, G, ?_⟩
  unfold itA at h
  cases e : ff ρ with
  | none => rw [e] at h; exact h
  | some r =>
    rw [e] at h
    cases r with
    | ex x p => exact h
    | ok us =>
      intro vs F' H' st q
      refine k ρ F' H' us vs st.g q ?_
      have h' : PostI C σ ρ F H (g us) R := h
      cases e2 : g us with
      | none => rw [e2] at h'; exact h'
      | some z =>
        rw [e2] at h'
        cases z with
        | ok ds => exact fun J F2 H2 st2 Y => h' J F2 H2 (st.trans st2) Y
        | ex x p => exact fun F2 H2 cls d st2 q => h' F2 H2 cls d (st.trans st2) q
theorem PostI.ok {σ : St} {ρ : En} {F H : Hp} {ds : List D} {Q : It → Hp → Prop} {J : It} (h : PostI C σ ρ F H (some (.ok ds)) Q) (G : Good C F H σ ρ) (Y : Yields C.K J F ds) : Q J H := h J F H (Step.refl G) Y
theorem i_val (ft : Fit X C) (ha : PE X e (lE C f)) : PI X tg e (lI C (itD f)) := by
  refine ⟨fun pins s σ H R I h => ?_⟩
  obtain ⟨ρ, F, G, h⟩ := h
  unfold itD at h
  -- which kind it is: known by the value
  have go : ∀ {T : V → Hp → Prop}, (∀ sv v F' H', f ρ = some (.ok sv) → Step C σ ρ F H F' H' → Rep C.K F' (toD sv) v → T v H') → lE C f σ H T := fun {T} k => by
    refine ⟨ρ, F, G, ?_⟩
    cases e : f ρ with
    | none => rw [e] at h; exact h
    | some r =>
      cases r with
      | ex x p => rw [e] at h; exact h
      | ok sv =>
        intro v F' H' st q1
        obtain ⟨F2, s2, q2⟩ := st.data G q1
        exact k sv v F2 H' e s2 q2
  have up : ∀ {ds : List D} {F' H' : Hp}, PostI C σ ρ F H (some (.ok ds)) R → Step C σ ρ F H F' H' → PostI C σ ρ F' H' (some (.ok ds)) R := fun {ds F' H'} z s1 J F2 H2 s2 Y => z J F2 H2 (s1.trans s2) Y
  cases e : f ρ with
  | none => rw [e] at h; exact h.elim
  | some r =>
    cases r with
    | ex x p =>
      rw [e] at h
      exact (pi_list ha).run pins s σ H R I ⟨ρ, F, G, by rw [e]; exact h⟩
    | ok sv =>
      rw [e] at h
      have h : PostI C σ ρ F H (itemsOf (toD sv)) R := h
      cases e2 : toD sv with
      | tup ds =>
        rw [e2] at h
        refine (pi_tup ha).run pins s σ H R I (go fun sv' v F' H' z s1 q => ?_)
        rw [e] at z; cases z
        rw [e2] at q
        cases q with | tup q r => exact ⟨_, rfl, ⟨_, by rw [ft.K]; exact seqT_mono s1.g.fh q⟩, by rw [ft.K]; exact PostI.ok (up h s1) s1.g (yields_tup q r)⟩
      | lst ds =>
        rw [e2] at h
        refine (pi_list ha).run pins s σ H R I (go fun sv' v F' H' z s1 q => ?_)
        rw [e] at z; cases z
        rw [e2] at q
        cases q with | lst q r => exact ⟨_, rfl, ⟨_, SqL.of (s1.g.fh _ _ q)⟩, by rw [ft.K]; exact PostI.ok (up h s1) s1.g (yields_list (SqL.of q) r)⟩
      | scr ds =>
        rw [e2] at h
        refine (pi_list ha).run pins s σ H R I (go fun sv' v F' H' z s1 q => ?_)
        rw [e] at z; cases z
        rw [e2] at q
        cases q with | scr q r => exact ⟨_, rfl, ⟨_, by rw [ft.K]; exact s1.g.fh.seq q⟩, by rw [ft.K]; exact PostI.ok (up h s1) s1.g (yields_list q r)⟩
      | _ => rw [e2] at h; exact h.elim
theorem i_range1 {p : Pos} (ft : Fit X C) (hm : C.mg "range" = none) (ha : PA X [a] (lA C ff)) (hg : Gl X "range" := by rfl) (hs : starEach [a] X.env = [(false, eval a X.env)] := by rfl) : PI X tg (.Call (.Name "range" p) [a] [] pos) (lI C (itA range1L ff)) := by
  refine PI.imp ?_ (pi_range1 hg (by rw [ft.mg]; exact hm) ha hs)
  intro σ H R h
  refine lI_A (fun ρ F H us vs G r h => ?_) h
  unfold range1L at h
  split at h
  · split at h
    · rename_i hc
      have hc := r62_iff.mp hc
      cases r with | cons p q => cases q; cases p
                                 exact ⟨_, rfl, by omega, by omega, PostI.ok h G yields_range⟩
    · exact h.elim
  · exact h.elim
theorem i_range2 {p : Pos} (ft : Fit X C) (hm : C.mg "range" = none) (ha : PA X [a, b] (lA C ff)) (hg : Gl X "range" := by rfl) (hs : starEach [a, b] X.env = [(false, eval a X.env), (false, eval b X.env)] := by rfl) (hs2 : starEach [b] X.env = [(false, eval b X.env)] := by rfl) : PI X tg (.Call (.Name "range" p) [a, b] [] pos) (lI C (itA range2L ff)) := by
  refine PI.imp ?_ (pi_range2 hg (by rw [ft.mg]; exact hm) ha hs hs2)
  intro σ H R h
  refine lI_A (fun ρ F H us vs G r h => ?_) h
  unfold range2L at h
  split at h
  · split at h
    · rename_i hc
      have hc1 := r62_iff.mp ((Bool.and_eq_true _ _).mp hc).1
      have hc2 := r62_iff.mp ((Bool.and_eq_true _ _).mp hc).2
      cases r with | cons p q => cases q with | cons p2 q => cases q; cases p; cases p2
                                                             exact ⟨_, _, rfl, ⟨by omega, by omega, by omega, by omega⟩, PostI.ok h G yields_range⟩
    · exact h.elim
  · exact h.elim
theorem rangeSize_nn (i j c : Int) (hc : c ≠ 0) : 0 ≤ Builtin.Range.rangeSize i j c := by
  unfold Builtin.Range.rangeSize
  split
  · split
    · have := Int.ediv_nonneg (a := j - i - 1) (b := c) (by omega) (by omega); omega
    · omega
  · split
    · have := Int.ediv_nonneg (a := i - j - 1) (b := -c) (by omega) (by omega); omega
    · omega
theorem i_range3 {c : Expr} {p : Pos} (ft : Fit X C) (hm : C.mg "range" = none) (ha : PA X [a, b, c] (lA C ff)) (hg : Gl X "range" := by rfl) (hs : starEach [a, b, c] X.env = (false, eval a X.env) :: starEach [b, c] X.env := by rfl) (hs1 : (backTo pos (starEach [b, c] X.env)).any (·.1) = false := by rfl) : PI X tg (.Call (.Name "range" p) [a, b, c] [] pos) (lI C (itA range3L ff)) := by
  refine PI.imp ?_ (pi_range3 hg (by rw [ft.mg]; exact hm) ha hs hs1)
  intro σ H R h
  refine lI_A (fun ρ F H us vs G r h => ?_) h
  unfold range3L at h
  split at h
  · split at h
    · rename_i i j k hc
      unfold rng3 at hc
      rw [Bool.and_eq_true, Bool.and_eq_true] at hc
      have h0 : k ≠ 0 := of_decide_eq_true hc.1.1
      cases r with | cons p q => cases q with | cons p2 q => cases q with | cons p3 q => cases q; cases p; cases p2; cases p3
                                                                                         exact ⟨_, _, _, _, rfl, ⟨h0, of_decide_eq_true hc.1.2, hc.2, (Int.toNat_of_nonneg (rangeSize_nn i j k h0)).symm⟩, PostI.ok h G yields_rangeC⟩
    · exact h.elim
  · exact h.elim
theorem yields_rev {K : PySem.W.Frag} {F0 : Hp} {a : Addr} {ds : List D} {vs : List V} (q : SqL K F0 a vs) (r : RepL K F0 ds vs) : Yields K (Itv K a vs.length) F0 ds.reverse := by
  refine yields_seq r.reverse fun i H s => ⟨fun v e => ?_, fun hi => by rw [List.length_reverse] at hi; exact hi⟩
  have hi : i < vs.length := by
    have := (List.getElem?_eq_some_iff.mp e).1
    rw [List.length_reverse] at this
    exact this
  rw [List.getElem?_reverse hi] at e
  refine ⟨⟨hi, vs, v, s.seq q, e⟩, fun x H' ⟨e1, y⟩ => ⟨e1, ?_⟩⟩
  have := y vs (s.seq q)
  rw [e] at this
  exact (Option.some.inj this).symm
theorem i_rev {p : Pos} (ft : Fit X C) (hm : C.mg "reversed" = none) (ha : PA X [a] (lA C ff)) (hg : Gl X "reversed" := by rfl) (hs : starEach [a] X.env = [(false, eval a X.env)] := by rfl) : PI X tg (.Call (.Name "reversed" p) [a] [] pos) (lI C (itA revL ff)) := by
  refine PI.imp ?_ (pi_reversed hg (by rw [ft.mg]; exact hm) ha hs)
  intro σ H R h
  refine lI_A (fun ρ F H us vs G r h => ?_) h
  unfold revL at h
  split at h
  · cases r with | cons p q => cases q; cases p with | lst q r =>
      exact ⟨_, _, rfl, SqL.of (G.fh _ _ q), by rw [ft.K]; exact PostI.ok h G (yields_rev (SqL.of q) r)⟩
  · cases r with | cons p q => cases q; cases p with | scr q r =>
      exact ⟨_, _, rfl, by rw [ft.K]; exact G.fh.seq q, by rw [ft.K]; exact PostI.ok h G (yields_rev q r)⟩
  · exact h.elim
theorem zipD_get : ∀ {as bs : List D} {i : Nat} {d : D}, (zipD as bs)[i]? = some d → ∃ x y, as[i]? = some x ∧ bs[i]? = some y ∧ d = .tup [x, y]
  | [], _, i, d, h => by simp [zipD] at h
  | _ :: _, [], i, d, h => by simp [zipD] at h
  | a :: as, b :: bs, 0, d, h => by
    have h : some (D.tup [a, b]) = some d := h
    exact ⟨a, b, rfl, rfl, (Option.some.inj h).symm⟩
  | a :: as, b :: bs, i + 1, d, h => by
    obtain ⟨x, y, e1, e2, e3⟩ := zipD_get (as := as) (bs := bs) (i := i) (d := d) (by simpa [zipD] using h)
    exact ⟨x, y, by simpa using e1, by simpa using e2, e3⟩
theorem zipD_len : ∀ as bs : List D, (zipD as bs).length = min as.length bs.length
  | [], _ => by simp [zipD]
  | _ :: _, [] => by simp [zipD]
  | a :: as, b :: bs => by simp only [zipD, List.length_cons, zipD_len as bs]; omega
theorem yields_zip {K : PySem.W.Frag} {F0 : Hp} {as bs : List D} {xs ys : List V} {J : It} (r1 : RepL K F0 as xs) (r2 : RepL K F0 bs ys)
    (h : ∀ i H, Same F0 H → (∀ x y, xs[i]? = some x → ys[i]? = some y → J.go i H ∧ ∀ v H', J.yld i H v H' → ∃ T, v = .ref T ∧ H T = none ∧ H' = upd H T (.tup [x, y])) ∧ (xs.length ≤ i ∨ ys.length ≤ i → J.stop i H)) : Yields K J F0 (zipD as bs) := by
  intro i F H s t
  obtain ⟨h1, h2⟩ := h i H (s.trans t)
  refine ⟨fun d e => ?_, fun hi => h2 (by rw [zipD_len] at hi; rw [← r1.len, ← r2.len]; omega)⟩
  obtain ⟨x, y, e1, e2, rfl⟩ := zipD_get e
  obtain ⟨v, e3, q1⟩ := r1.get e1
  obtain ⟨w, e4, q2⟩ := r2.get e2
  obtain ⟨go, yl⟩ := h1 v w e3 e4
  refine ⟨go, fun z H' hz => ?_⟩
  obtain ⟨T, rfl, hT, rfl⟩ := yl z H' hz
  have fT : F T = none := t.free hT
  have sm : Same F (upd F T (.tup [v, w])) := same_upd fT
  refine ⟨upd F T (.tup [v, w]), sm, fun b o z => ?_, same_upd hT, fun b o z => ?_, .tup (SqT.of upd_same) (.cons (Rep.mono (s.trans sm) _ _ q1) (.cons (Rep.mono (s.trans sm) _ _ q2) .nil))⟩
  · by_cases hb : b = T
    · subst hb; rw [upd_same] at z ⊢; exact z
    · rw [upd_ne hb] at z ⊢; exact t b o z
  · by_cases hb : b = T
    · subst hb; exact .inr hT
    · rw [upd_ne hb] at z; exact .inl z
theorem i_zip {p tpos : Pos} {elts : List Expr} {kk : Nat} (ft : Fit X C) (hm : C.mg "zip" = none) (ha : PA X [a, b] (lA C ff)) (hg : Gl X "zip" := by rfl) (hs : starEach [a, b] X.env = (false, eval a X.env) :: starEach [b] X.env := by rfl) (hpl : (backTo pos (starEach [b] X.env)).any (·.1) = false := by rfl) :
    PI X (.Tuple elts kk tpos) (.Call (.Name "zip" p) [a, b] [] pos) (lI C (itA zipL ff)) := by
  refine PI.imp ?_ (RZ.pi_zipA hg (by rw [ft.mg]; exact hm) ha hs hpl)
  intro σ H R h
  refine lI_A (fun ρ F H us vs G r h => ?_) h
  unfold zipL at h
  split at h
  · cases r with | cons p q => cases q with | cons p2 q =>
      cases q
      cases p with | lst q1 r1 => cases p2 with | lst q2 r2 =>
        refine ⟨_, _, _, _, rfl, .inl ⟨SqL.of (G.fh _ _ q1), SqL.of (G.fh _ _ q2), ?_⟩⟩
        rw [ft.K]
        refine PostI.ok h G (yields_zip r1 r2 fun i H s => ⟨fun x y e1 e2 => ⟨⟨_, _, x, y, SqL.of (s _ _ q1), SqL.of (s _ _ q2), e1, e2⟩, fun v H' ⟨T, x', y', ev, hT, eH, k1, k2⟩ => ⟨T, ev, hT, ?_⟩⟩, fun hi => ⟨_, _, SqL.of (s _ _ q1), SqL.of (s _ _ q2), hi⟩⟩)
        have z1 := k1 _ (SqL.of (s _ _ q1))
        have z2 := k2 _ (SqL.of (s _ _ q2))
        rw [e1] at z1; rw [e2] at z2
        cases z1; cases z2
        exact eH
  · cases r with | cons p q => cases q with | cons p2 q =>
      cases q
      cases p with | tup q1 r1 => cases p2 with | tup q2 r2 =>
        refine ⟨_, _, _, _, rfl, .inr ⟨by rw [ft.K]; exact seqT_mono G.fh q1, by rw [ft.K]; exact seqT_mono G.fh q2, ?_⟩⟩
        rw [ft.K]
        refine PostI.ok h G (yields_zip r1 r2 fun i H s => ⟨fun x y e1 e2 => ⟨⟨_, _, x, y, seqT_mono s q1, seqT_mono s q2, e1, e2⟩, fun v H' ⟨T, x', y', ev, hT, eH, k1, k2⟩ => ⟨T, ev, hT, ?_⟩⟩, fun hi => ⟨_, _, seqT_mono s q1, seqT_mono s q2, hi⟩⟩)
        have z1 := k1 _ (seqT_mono s q1)
        have z2 := k2 _ (seqT_mono s q2)
        rw [e1] at z1; rw [e2] at z2
        cases z1; cases z2
        exact eH
  · exact h.elim
end

/-! ### comprehensions -/
def cYes : CF := fun _ => some (.ok true)
def wipeE (ρ : En) : List Nat → En
  | [] => ρ
  | v :: vs => (wipeE ρ vs).set v none
/-- the items that a comprehension makes -/
def lcL (g : GF) (c : CF) (fe : EF) (ρ : En) : List D → Option (List D)
  | [] => some []
  | d :: ds => match g d ρ with
    | some ρ1 => match c ρ1 with
      | some (.ok true) => match fe ρ1 with
        | some (.ok sv) => match lcL g c fe ρ ds with
          | some r => some (toD sv :: r)
          | none => none
        | _ => none
      | some (.ok false) => lcL g c fe ρ ds
      | _ => none
    | none => none
def eLc (it : AF) (g : GF) (c : CF) (fe : EF) (vs : List Nat) : EF := fun ρ => bindL (it ρ) fun ds => match lcL g c fe (wipeE ρ vs) ds with
  | some r => if r.length ≤ 1000000 then some (.ok (.own r)) else none
  | none => none
abbrev FR.blk (C : FR) : FR := { C with W := fun _ _ _ _ => False }
section
variable {X : Cx} {C : FR}
theorem Good.blk {F H : Hp} {σ : St} {ρ : En} (G : Good C F H σ ρ) : Good C.blk F H σ ρ := ⟨G.fh, G.h0, G.f0, G.nw, G.len, G.at_, G.ap⟩
theorem Good.unblk {F H : Hp} {σ : St} {ρ : En} (G : Good C.blk F H σ ρ) : Good C F H σ ρ := ⟨G.fh, G.h0, G.f0, G.nw, G.len, G.at_, G.ap⟩
theorem Good.forget {F H : Hp} {σ : St} {ρ : En} (G : Good C F H σ ρ) (i : Nat) : Good C F H (σ.set i none) (ρ.set i none) := by
  refine ⟨G.fh, G.h0, G.f0, G.nw, by simp [G.len], fun j sv z => ?_, fun j k as bs q hjk z1 z2 z3 z4 => ?_⟩
  · by_cases hij : i = j
    · subst hij
      by_cases hl : i < ρ.length
      · rw [List.getElem?_set_self hl] at z; cases z
      · rw [List.getElem?_eq_none (by simpa using hl)] at z; cases z
    · rw [List.getElem?_set_ne hij] at z
      obtain ⟨v, e, q⟩ := G.at_ j sv z
      exact ⟨v, by rw [List.getElem?_set_ne hij]; exact e, q⟩
  · have ne : ∀ (j : Nat) (as : List D), (ρ.set i none)[j]? = some (some (SV.own as)) → i ≠ j := fun j as z hij => by
      subst hij
      by_cases hl : i < ρ.length
      · rw [List.getElem?_set_self hl] at z; cases z
      · rw [List.getElem?_eq_none (by simpa using hl)] at z; cases z
    have n1 := ne j as z1
    have n2 := ne k bs z2
    rw [List.getElem?_set_ne n1] at z1 z3
    rw [List.getElem?_set_ne n2] at z2 z4
    exact G.ap j k as bs q hjk z1 z2 z3 z4
theorem Good.wipe {F H : Hp} {σ : St} {ρ : En} (G : Good C F H σ ρ) : ∀ vs : List Nat, Good C F H (L2.wipe σ vs) (wipeE ρ vs)
  | [] => G
  | v :: vs => (G.wipe vs).forget v
theorem wipe_len (σ : St) : ∀ vs : List Nat, (L2.wipe σ vs).length = σ.length
  | [] => rfl
  | v :: vs => by simp [L2.wipe, wipe_len σ vs]
theorem wipe_in {σ : St} {j : Nat} : ∀ {vs : List Nat}, j ∈ vs → j < σ.length → (L2.wipe σ vs)[j]? = some none
  | v :: vs, h, hl => by
    unfold L2.wipe
    by_cases hv : v = j
    · subst hv; rw [List.getElem?_set_self (by rw [wipe_len]; exact hl)]
    · rw [List.getElem?_set_ne hv]
      exact wipe_in ((List.mem_cons.mp h).resolve_left fun z => hv z.symm) hl
theorem wipe_nin {σ : St} {j : Nat} : ∀ {vs : List Nat}, j ∉ vs → (L2.wipe σ vs)[j]? = σ[j]?
  | [], _ => rfl
  | v :: vs, h => by
    unfold L2.wipe
    rw [List.getElem?_set_ne (fun z => h (by simp [z]))]
    exact wipe_nin (fun z => h (List.mem_cons_of_mem _ z))
/-- the block's own slots alone were changed -/
theorem wipe_back {σ σ' : St} {vs is : List Nat} (hl : σ'.length = (L2.wipe σ vs).length) (hk : ∀ j, j ∉ is → σ'[j]? = (L2.wipe σ vs)[j]?) (hi : ∀ j ∈ is, j ∈ vs) : L2.wipe σ' vs = L2.wipe σ vs := by
  rw [wipe_len] at hl
  apply List.ext_getElem?
  intro j
  by_cases hj : j ∈ vs
  · by_cases hlt : j < σ.length
    · rw [wipe_in hj hlt, wipe_in hj (by omega)]
    · rw [List.getElem?_eq_none (by rw [wipe_len]; omega), List.getElem?_eq_none (by rw [wipe_len]; omega)]
  · rw [wipe_nin hj, hk j fun z => hj (hi j z)]
theorem lc_read {it : AF} {g : GF} {c : CF} {fe : EF} {vs is : List Nat} (fit : Fit X C) (hi : ∀ j ∈ is, j ∈ vs) {σ : St} {H : Hp} {Q : VK} (h : lE C (eLc it g c fe vs) σ H Q) : tLc (lI C it) (lG C.blk g is) (lT C.blk c) (lE C.blk fe) vs σ H Q := by
  obtain ⟨ρ, F, G, h⟩ := h
  refine ⟨ρ, F, G, ?_⟩
  unfold eLc at h
  cases e : it ρ with
  | none => rw [e] at h; exact h
  | some r =>
    rw [e] at h
    cases r with
    | ex x p => exact h
    | ok ds =>
      intro J F' H' st Y D hD
      have G1 := st.g
      have h : PostE C σ ρ F H (match lcL g c fe (wipeE ρ vs) ds with
        | some r => if r.length ≤ 1000000 then some (.ok (.own r)) else none
        | none => none) Q := h
      cases e2 : lcL g c fe (wipeE ρ vs) ds with
      | none => rw [e2] at h; exact h.elim
      | some all =>
        rw [e2] at h
        dsimp only at h
        split at h
        · rename_i hsz
          -- the new list at D is nobody's
          have dF : F' D = none := G1.fh.free hD
          have dH : H D = none := st.t.free hD
          have d0 : C.H0 D = none := G1.h0.free hD
          have dA : ∀ (i : Nat) (ys : List PT.D), ρ[i]? = some (some (.own ys)) → σ[i]? = some (some (.ref D)) → False := fun i ys z1 z2 => by
            obtain ⟨v, e3, p, ws, rfl, hp, _⟩ := G1.at_ i _ z1
            rw [z2] at e3; cases e3
            rw [hD] at hp; cases hp
          refine ⟨fun i m H2 => ∃ F2 acc ws rest, Same F' F2 ∧ Good C F2 H2 σ ρ ∧ (∀ b o, F2 b = some o → F' b = some o ∨ H' b = none) ∧ (∀ b o, b ≠ D → H' b = some o → H2 b = some o) ∧ F2 D = none ∧ H2 D = some (.lst ws) ∧ RepL C.K F2 acc ws ∧ lcL g c fe (wipeE ρ vs) (ds.drop i) = some rest ∧ acc ++ rest = all ∧ m + i = ds.length,
            ⟨ds.length, F', [], [], all, Same.refl F', G1.lay hD, fun _ _ z => .inl z, fun b o hb z => by rw [upd_ne hb]; exact z, dF, upd_same, .nil, e2, rfl, by omega⟩, ?_⟩
          rintro i m H2 ⟨F2, acc, ws, rest, s2, G2, gr2, kp2, nD, hD2, rl, er, ea, em⟩
          obtain ⟨y1, y2⟩ := Y i F2 H2 s2 G2.fh
          have lay : ∀ {F3 H3 : Hp} {us : List V}, Good C F3 H3 σ ρ → F3 D = none → Good C F3 (upd H3 D (.lst us)) σ ρ := fun {F3 H3 us} g3 n3 => by
            refine ⟨fun b o z => ?_, fun b o z => ?_, g3.f0, g3.nw, g3.len, fun j sv z => ?_, g3.ap⟩
            · rw [upd_ne (fun q => by subst q; rw [n3] at z; cases z)]; exact g3.fh b o z
            · rw [upd_ne (fun q => by subst q; rw [d0] at z; cases z)]; exact g3.h0 b o z
            · obtain ⟨v, z1, z2⟩ := g3.at_ j sv z
              refine ⟨v, z1, ?_⟩
              cases sv with
              | d x => exact z2
              | own ys =>
                obtain ⟨p, us', rfl, hp, r3, fp, h3⟩ := z2
                refine ⟨p, us', rfl, ?_, r3, fp, h3⟩
                rw [upd_ne (fun q => by subst q; exact dA j ys z z1)]
                exact hp
          by_cases hlt : i < ds.length
          · right
            obtain ⟨go, yl⟩ := y1 ds[i] (List.getElem?_eq_getElem hlt)
            rw [List.drop_eq_getElem_cons hlt] at er
            unfold lcL at er
            refine ⟨go, fun H3 => ∃ F3 acc ws rest, Same F' F3 ∧ Good C F3 H3 σ ρ ∧ (∀ b o, F3 b = some o → F' b = some o ∨ H' b = none) ∧ (∀ b o, b ≠ D → H' b = some o → H3 b = some o) ∧ F3 D = none ∧ H3 D = some (.lst ws) ∧ RepL C.K F3 acc ws ∧ lcL g c fe (wipeE ρ vs) (ds.drop (i + 1)) = some rest ∧ acc ++ rest = all,
              fun H3 ⟨F3, acc3, ws3, rest3, z1, z2, z8, z9, z3, z4, z5, z6, z7⟩ => ⟨m - 1, by omega, F3, acc3, ws3, rest3, z1, z2, z8, z9, z3, z4, z5, z6, z7, by omega⟩, fun x H3 hy => ?_⟩
            obtain ⟨F3, a1, a2, a3, a4, a5⟩ := yl x H3 hy
            have G3 : Good C F3 H3 σ ρ := G2.after a1 a2 a3 a4
            cases e3 : g ds[i] (wipeE ρ vs) with
            | none => rw [e3] at er; cases er
            | some ρ3 =>
              rw [e3] at er
              dsimp only at er
              refine ⟨wipeE ρ vs, F3, _, ρ3, (G3.wipe vs).blk, a5, e3, fun σ4 l4 k4 G4 => ⟨wipe_back l4 k4 hi, ?_⟩⟩
              refine ⟨ρ3, F3, G4, ?_⟩
              -- from the block's context back to ours: what has grown since the turn's begin
              have back : ∀ {F6 H6 : Hp}, Same F3 F6 → Same F6 H6 → Same H3 H6 → (∀ b o, F6 b = some o → F3 b = some o ∨ H3 b = none) →
                  Good C F6 H6 σ ρ ∧ Same F2 F6 ∧ (∀ b o, F6 b = some o → F' b = some o ∨ H' b = none) ∧ (∀ b o, b ≠ D → H' b = some o → H6 b = some o) ∧ F6 D = none ∧ H6 D = some (.lst ws) := fun {F6 H6} s6 f6 t6 gr6 => by
                have gr : ∀ b o, F6 b = some o → F2 b = some o ∨ H2 b = none := fun b o z => (gr6 b o z).elim (fun z => a4 b o z) fun z => .inr (a3.free z)
                refine ⟨G3.after s6 f6 t6 gr6, a1.trans s6, fun b o z => ?_, fun b o hb z => t6 b o (a3 b o (kp2 b o hb z)), ?_, t6 _ _ (a3 _ _ hD2)⟩
                · rcases gr b o z with z | z
                  · exact gr2 b o z
                  · right
                    by_cases hb : b = D
                    · subst hb; exact hD
                    · cases z2 : H' b with
                      | none => rfl
                      | some o' => rw [kp2 b o' hb z2] at z; cases z
                · cases z : F6 D with
                  | none => rfl
                  | some o =>
                    rcases gr D o z with z | z
                    · rw [nD] at z; cases z
                    · rw [hD2] at z; cases z
              cases e4 : c ρ3 with
              | none => rw [e4] at er; cases er
              | some rb =>
                rw [e4] at er
                cases rb with
                | ex x p => cases er
                | ok bb =>
                  intro F5 H5 st5
                  cases bb with
                  | false =>
                    rw [if_neg Bool.false_ne_true]
                    obtain ⟨b1, b2, b3, b4, b5, b6⟩ := back st5.s st5.g.fh st5.t st5.gr
                    exact ⟨F5, acc, ws, rest, s2.trans b2, b1, b3, b4, b5, b6, RepL.mono b2 _ _ rl, er, ea⟩
                  | true =>
                    rw [if_pos rfl]
                    dsimp only at er
                    refine ⟨ρ3, F5, st5.g, ?_⟩
                    cases e5 : fe ρ3 with
                    | none => rw [e5] at er; cases er
                    | some rr =>
                      rw [e5] at er
                      cases rr with
                      | ex x p => cases er
                      | ok sv =>
                        dsimp only at er
                        intro y H6' H6 st6 q6
                        obtain ⟨F7, st7, q7⟩ := st6.data st5.g q6
                        have st8 := st5.trans st7
                        obtain ⟨b1, b2, b3, b4, b5, b6⟩ := back st8.s st8.g.fh st8.t st8.gr
                        cases e6 : lcL g c fe (wipeE ρ vs) (ds.drop (i + 1)) with
                        | none => rw [e6] at er; cases er
                        | some rest2 =>
                          rw [e6] at er
                          cases er
                          refine ⟨ws, b6, ?_, F7, acc ++ [toD sv], ws ++ [y], rest2, s2.trans b2, lay b1 b5, b3, fun b o hb z => by rw [upd_ne hb]; exact b4 b o hb z, b5, upd_same, (RepL.mono b2 _ _ rl).append (.cons q7 .nil), rfl, by rw [← ea]; simp⟩
                          have l1 := rl.len
                          have l2 : all.length ≤ 1000000 := hsz
                          rw [← ea, List.length_append, List.length_cons] at l2
                          rw [sizeLine_eq]; omega
          · left
            have e6 : ds.drop i = [] := List.drop_eq_nil_of_le (by omega)
            rw [e6] at er
            cases er
            rw [List.append_nil] at ea
            subst ea
            refine ⟨y2 (by omega), h (.ref D) F2 H2 ⟨G2, st.s.trans s2, fun b o z => ?_, fun b o z => ?_⟩ ⟨D, ws, rfl, hD2, rl, nD, dH⟩⟩
            · exact kp2 b o (fun q => by subst q; rw [dH] at z; cases z) (st.t b o z)
            · rcases gr2 b o z with z | z
              · exact st.gr b o z
              · exact .inr (st.t.free z)
        · exact h.elim
/-- [e for target in iter if ..] -/
theorem x_lc {e tg iter : Expr} {ifs : List Expr} {scope : Scope} {own : List (Str × Nat)} {pos : Pos} {it : AF} {g : GF} {is : List Nat} {c : CF} {fe : EF} (fit : Fit X C) (hN : X.N.Nodup) (hi : PI X tg iter (lI C it)) (ok : BlkOk X.N X.env.scope scope own) (his : ∀ j ∈ is, j ∈ own.map (·.2))
    (hg : ∀ (s : Shared) (H : Hp) (Ca : Addr) (cl : List (Str × Addr)) (fp : List Addr), PG (X.blk s H scope (compEnvC scope cl Ca X.env) fp) tg (lG C.blk g is))
    (ht : ∀ (s : Shared) (H : Hp) (Ca : Addr) (cl : List (Str × Addr)) (fp : List Addr), PTs (X.blk s H scope (compEnvC scope cl Ca X.env) fp) ifs (lT C.blk c))
    (he : ∀ (s : Shared) (H : Hp) (Ca : Addr) (cl : List (Str × Addr)) (fp : List Addr), PE (X.blk s H scope (compEnvC scope cl Ca X.env) fp) e (lE C.blk fe)) (hs : ∀ x, foldedSetIterable iter X.env x = pure x := by intro _; rfl) (hh : C.hot = false := by rfl) :
    PE X (.ListComp e [⟨tg, iter, ifs, 0⟩] scope pos) (lE C (eLc it g c fe (own.map (·.2)))) :=
  PE.imp (fun σ H Q h => lc_read fit his h) (pe_lc (fit.calm hh) hN hi ok hg ht he hs)
/-- name = [..] on one line; as an own list, as data -/
theorem s_ownLc {i : Nat} {y : Str} {py : Pos} {e tg iter : Expr} {ifs : List Expr} {scope : Scope} {own : List (Str × Nat)} {pos spos : Pos} {it : AF} {g : GF} {is : List Nat} {c : CF} {fe : EF} (fit : Fit X C) (hN : X.N.Nodup) (hy : X.N[i]? = some y) (hyl : X.env.scope.names.lookup y = some .local)
    (hsw : swapsWith (.ListComp e [⟨tg, iter, ifs, 0⟩] scope pos) (some (.Name y py)) spos.line X.env = pure true) (hi : PI X tg iter (lI C it)) (ok : BlkOk X.N X.env.scope scope own) (his : ∀ j ∈ is, j ∈ own.map (·.2))
    (hg : ∀ (s : Shared) (H : Hp) (Ca : Addr) (cl : List (Str × Addr)) (fp : List Addr), PG (X.blk s H scope (compEnvC scope cl Ca X.env) fp) tg (lG C.blk g is))
    (ht : ∀ (s : Shared) (H : Hp) (Ca : Addr) (cl : List (Str × Addr)) (fp : List Addr), PTs (X.blk s H scope (compEnvC scope cl Ca X.env) fp) ifs (lT C.blk c))
    (he : ∀ (s : Shared) (H : Hp) (Ca : Addr) (cl : List (Str × Addr)) (fp : List Addr), PE (X.blk s H scope (compEnvC scope cl Ca X.env) fp) e (lE C.blk fe)) (hs : ∀ x, foldedSetIterable iter X.env x = pure x := by intro _; rfl) (hh : C.hot = false := by rfl) :
    PS X (.Assign [.Name y py] (.ListComp e [⟨tg, iter, ifs, 0⟩] scope pos) spos) (lS C (wOwn i (eLc it g c fe (own.map (·.2))))) := by
  refine PS.imp ?_ (ps_setLc (fit.calm hh) hN hy hyl hsw hi ok hg ht he hs)
  rintro D σ H ⟨ρ, F, P, G, h, ft⟩
  refine lc_read fit his (lS_E G ft h fun sv v F' H' st q k => ?_)
  exact ft.nx _ _ F' H' (st.g.set i (q.base G.h0) (G.apart q)) st.s k
theorem s_setLc {i : Nat} {y : Str} {py : Pos} {e tg iter : Expr} {ifs : List Expr} {scope : Scope} {own : List (Str × Nat)} {pos spos : Pos} {it : AF} {g : GF} {is : List Nat} {c : CF} {fe : EF} (fit : Fit X C) (hN : X.N.Nodup) (hy : X.N[i]? = some y) (hyl : X.env.scope.names.lookup y = some .local)
    (hsw : swapsWith (.ListComp e [⟨tg, iter, ifs, 0⟩] scope pos) (some (.Name y py)) spos.line X.env = pure true) (hi : PI X tg iter (lI C it)) (ok : BlkOk X.N X.env.scope scope own) (his : ∀ j ∈ is, j ∈ own.map (·.2))
    (hg : ∀ (s : Shared) (H : Hp) (Ca : Addr) (cl : List (Str × Addr)) (fp : List Addr), PG (X.blk s H scope (compEnvC scope cl Ca X.env) fp) tg (lG C.blk g is))
    (ht : ∀ (s : Shared) (H : Hp) (Ca : Addr) (cl : List (Str × Addr)) (fp : List Addr), PTs (X.blk s H scope (compEnvC scope cl Ca X.env) fp) ifs (lT C.blk c))
    (he : ∀ (s : Shared) (H : Hp) (Ca : Addr) (cl : List (Str × Addr)) (fp : List Addr), PE (X.blk s H scope (compEnvC scope cl Ca X.env) fp) e (lE C.blk fe)) (hs : ∀ x, foldedSetIterable iter X.env x = pure x := by intro _; rfl) (hh : C.hot = false := by rfl) :
    PS X (.Assign [.Name y py] (.ListComp e [⟨tg, iter, ifs, 0⟩] scope pos) spos) (lS C (wSet i (eLc it g c fe (own.map (·.2))))) := by
  refine PS.imp ?_ (ps_setLc (fit.calm hh) hN hy hyl hsw hi ok hg ht he hs)
  rintro D σ H ⟨ρ, F, P, G, h, ft⟩
  refine lc_read fit his (lS_E G ft h fun sv v F' H' st q k => ?_)
  obtain ⟨F2, s2, q2⟩ := st.data G q
  exact ft.nx _ _ F2 H' (s2.g.set i (sv := .d (toD sv)) q2 Apart.d) s2.s k
theorem t_none : PTs X [] (lT C cYes) := ⟨fun pins s σ H Q I ⟨ρ, F, G, h⟩ => pts_nil.run pins s σ H Q I (h F H (Step.refl G))⟩
theorem t_one {c : Expr} {t : CF} (h : L2.PT X c (lT C t)) : PTs X [c] (lT C t) := pts_one h
end

/-! ### a def by its body -/
def startE (n : Nat) (ds : List D) : En := (ds.map fun x => some (SV.d x)) ++ List.replicate (n - ds.length) none
def PDof (r : R) : PD := { nx := fun _ => r = .ok (.d .non), rt := fun sv => r = .ok sv, bk := fun _ => False, ct := fun _ => False, ex := fun x p => r = .ex x p }
/-- what a def's body is to show -/
def Does (n : Nat) (w : SF) (fn : List D → Option R) : Prop := ∀ ds r, fn ds = some r → w (PDof r) (startE n ds)
section
variable {P : Program} {w : World} {K : PySem.W.Frag} {mg : Str → Option Value} {base : Heap}
theorem good_start {K : PySem.W.Frag} {mg : Str → Option Value} {F H : Hp} {W : WX} {hb : Bool} {N : List Str} {ds : List D} {vs : List V} (s : Same F H) (r : RepL K F ds vs) : Good ⟨K, mg, F, H, W, hb⟩ F H (L2.start N vs) (startE N.length ds) := by
  have hl := r.len
  refine ⟨s, Same.refl H, Same.refl F, fun b o z => .inl z, by unfold L2.start startE; simp [hl], fun i sv e => ?_, fun i j xs ys a _ e _ _ _ => ?_⟩
  · unfold startE at e
    unfold L2.start
    by_cases hi : i < ds.length
    · rw [List.getElem?_append_left (by simpa using hi), List.getElem?_map] at e
      cases z : ds[i]? with
      | none => rw [z] at e; cases e
      | some d =>
        rw [z] at e
        cases e
        obtain ⟨v, e1, q⟩ := r.get z
        exact ⟨v, by rw [List.getElem?_append_left (by simp; omega), List.getElem?_map, e1]; rfl, q⟩
    · rw [List.getElem?_append_right (by simpa using hi), List.getElem?_replicate] at e
      split at e <;> cases e
  · unfold startE at e
    by_cases hi : i < ds.length
    · rw [List.getElem?_append_left (by simpa using hi), List.getElem?_map] at e
      cases z : ds[i]? with
      | none => rw [z] at e; cases e
      | some d => rw [z] at e; cases e
    · rw [List.getElem?_append_right (by simpa using hi), List.getElem?_replicate] at e
      split at e <;> cases e
/-- a def keeps what its body does: C is the body's frame -/
theorem def_ok {x qual : Str} {params : Arguments} {body : List Stmt} {scope : Scope} {dvs : List V} {kws : List (Str × V)} {f : Addr} {fd : FuncData} {N ps : List Str} {k : Nat} {wb : SF} {fn : List D → Option R} (F : FunD K x qual params body scope dvs kws f fd) (S : FnScope N ps scope)
    (hb : ∀ (cdv : Value) (A : Around) (outer : List Env) (s : Shared) (H F0 : Hp) (E : XK) (X : Cx), X = cxOf (L2.CX P w) P w K mg base N qual scope f cdv A outer s H E → Room k X.A → Fit X ⟨K, mg, F0, H, fun cls d _ H => E cls d H, false⟩ → PSs X body (lS ⟨K, mg, F0, H, fun cls d _ H => E cls d H, false⟩ wb))
    (hl : ∀ ds r, fn ds = some r → ds.length = ps.length) (hw : Does N.length wb fn) : FnOk P w K mg base (L2.CX P w) (k + 1) f fd ps (spF K mg fn) := by
  refine F.ok S (fun vs H Q E h => ?_) fun cdv A outer s H vs Q E hr h => ?_
  · obtain ⟨F0, ds, _, r, h⟩ := h
    cases e : fn ds with
    | none => rw [e] at h; exact h.elim
    | some q => rw [← r.len]; exact hl ds q e
  · obtain ⟨F0, ds, s0, r, h⟩ := h
    refine ⟨_, hb cdv A outer s H F0 E _ rfl hr ⟨rfl, rfl, takes_of rfl rfl rfl rfl, fun _ => rfl, passes_of rfl⟩, ?_⟩
    cases e : fn ds with
    | none => rw [e] at h; exact h.elim
    | some q =>
      rw [e] at h
      refine ⟨_, F0, _, good_start s0 r, hw ds q e, ?_⟩
      refine ⟨fun σ ρ F1 H1 g t z => ?_, fun σ ρ F1 H1 v sv g t q' z => ?_, fun _ _ _ _ _ _ z => z.elim, fun _ _ _ _ _ _ z => z.elim, fun σ ρ F1 H1 y p cls d g t xr z => ?_⟩
      · have z : q = .ok (.d .non) := z
        subst z
        exact h .non F1 H1 g.f0 g.fh g.h0 g.nw .non
      · have z : q = .ok sv := z
        subst z
        exact h v F1 H1 g.f0 g.fh g.h0 g.nw q'
      · have z : q = .ex y p := z
        subst z
        exact h H1 cls d g.h0 xr
end
end PT
/-! PT: defs as they are called, the head's facts, a law's end. -/
namespace PT
open PySem PySem.Spec PyProof.Rows L2
/-! ### a def as its callers see it -/
def Cal (P : Program) (w : World) (K : PySem.W.Frag) (mg : Str → Option Value) (base : Heap) (x : Str) (k : Nat) (dds : List D) (fn : List D → Option R) : Prop :=
  ∃ (f : Addr) (fd : FuncData) (ps : List Str) (ds : List Value) (dvs : List V), FnOk P w K mg base (L2.CX P w) k f fd ps (spF K mg fn) ∧ mg x = some (.ref f) ∧ PySem.W.keepIn K (.ref f) = true ∧ Binds K fd ps ds ∧ Vals dvs ds ∧ ∀ F, RepL K F dds dvs
section
variable {X : Cx} {C : FR} {e : Expr} {es : List Expr} {ff : AF} {pos p : Pos}
theorem Fit.blk (ft : Fit X C) (s : Shared) (H : Hp) (scope : Scope) (cenv : Env) (fp : List Addr) : Fit (X.blk s H scope cenv fp) C.blk := ⟨ft.K, ft.mg, takes0, ft.calm, PassesOwn.never⟩
theorem x_cal {x : Str} {k j : Nat} {fn : List D → Option R} (ft : Fit X C) (c : Cal X.prog X.w C.K C.mg X.base x k [] fn) (hr : Room j X.A) (ha : PA X (e :: es) (lA C ff)) (hk : k ≤ j := by decide) (hg : Gl X x := by rfl) (hdb : (x == ("__debug__" : Str)) = false := by decide)
    (he : starEach (e :: es) X.env = (false, eval e X.env) :: starEach es X.env := by rfl) (hpl : (backTo pos (starEach es X.env)).any (·.1) = false := by rfl) : PE X (.Call (.Name x p) (e :: es) [] pos) (lE C (eCall fn ff)) := by
  obtain ⟨f, fd, ps, ds, dvs, F, m, kp, b, v, r⟩ := c
  have e1 := r (fun _ => none)
  have e2 : dvs = [] := by cases e1; rfl
  subst e2
  have e3 : ds = [] := by cases v; rfl
  subst e3
  exact x_calln ft (by rw [ft.K, ft.mg]; exact F.mono hk) hr hg m kp b ha hdb he hpl
theorem x_calD {x : Str} {k j : Nat} {dds : List D} {fn : List D → Option R} (ft : Fit X C) (c : Cal X.prog X.w C.K C.mg X.base x k dds fn) (hr : Room j X.A) (ha : PA X (e :: es) (lA C ff)) (hk : k ≤ j := by decide) (hg : Gl X x := by rfl) (hdb : (x == ("__debug__" : Str)) = false := by decide)
    (he : starEach (e :: es) X.env = (false, eval e X.env) :: starEach es X.env := by rfl) (hpl : (backTo pos (starEach es X.env)).any (·.1) = false := by rfl) : PE X (.Call (.Name x p) (e :: es) [] pos) (lE C (eCall (fun us => fn (us ++ dds)) ff)) := by
  obtain ⟨f, fd, ps, ds, dvs, F, m, kp, b, v, r⟩ := c
  exact x_call ft (by rw [ft.K, ft.mg]; exact F.mono hk) hr hg m kp b v r ha hdb he hpl
theorem x_cal0 {x : Str} {k j : Nat} {fn : List D → Option R} (ft : Fit X C) (c : Cal X.prog X.w C.K C.mg X.base x k [] fn) (hr : Room j X.A) (hk : k ≤ j := by decide) (hg : Gl X x := by rfl) (hdb : (x == ("__debug__" : Str)) = false := by decide)
    (hn : ∃ r, fn [] = some r) : PE X (.Call (.Name x p) [] [] pos) (lE C (eCall fn aNil)) := by
  obtain ⟨f, fd, ps, ds, dvs, F, m, kp, b, v, r⟩ := c
  have e1 := r (fun _ => none)
  have e2 : dvs = [] := by cases e1; rfl
  subst e2
  have e3 : ds = [] := by cases v; rfl
  subst e3
  have hp : ps = [] := by
    obtain ⟨q, hq⟩ := hn
    have := F.len [] (fun _ => none) (fun _ _ => True) (fun _ _ _ => True) ⟨fun _ => none, [], Same.refl _, .nil, by rw [hq]; cases q <;> simp⟩
    cases ps with
    | nil => rfl
    | cons _ _ => cases this
  subst hp
  exact x_call0 ft (by rw [ft.K, ft.mg]; exact F.mono hk) hr hg m kp b hdb
end
/-! ### the head's facts -/
abbrev AlP : Type := Bool × List He.FnW
def obsP (fa : List He.Fa) (fn : List He.DefD) (ex : List (PySem.W.Frag → Bool)) (K : PySem.W.Frag) : AlP := ((He.obsD fa fn K).1 && ex.all (fun e => e K), (He.obsD fa fn K).2)
def valP (fn : List He.DefD) : AlP := (true, fn.map He.DefD.val)
def SaysP (fa : List He.Fa) (fn : List He.DefD) (ex : List (PySem.W.Frag → Bool)) (K : PySem.W.Frag) : Prop := obsP fa fn ex K = valP fn
def obsPG (n : Nat) (fa : List He.Fa) (fn : List He.DefD) (ex : List (PySem.W.Frag → Bool)) (g : Addr → Option Obj) : AlP := obsP fa fn ex (He.frG g (He.asD g n))
def hookP (n : Nat) (fa : List He.Fa) (fn : List He.DefD) (ex : List (PySem.W.Frag → Bool)) : PySem.W.Hook where
  α := AlP
  obs := fun s => obsPG n fa fn ex s.heap.get?
  val := fun _ => valP fn
  says := fun _ h => ∃ K : PySem.W.Frag, K.In h ∧ SaysP fa fn ex K
  of := fun _ _ e => ⟨_, He.frG_in, e⟩
  keeps := fun _ _ _ ⟨K, hK, c⟩ k => ⟨K, PySem.W.Frag.In.keeps hK k, c⟩
theorem obsPG_eq {n : Nat} {fa : List He.Fa} {fn : List He.DefD} {ex : List (PySem.W.Frag → Bool)} {g : Addr → Option Obj} {s : Shared} (h : ∀ a, g a = s.heap.get? a) : obsPG n fa fn ex g = (hookP n fa fn ex).obs s := by
  rw [show g = s.heap.get? from funext h] <;> rfl
theorem SaysP.d {fa : List He.Fa} {fn : List He.DefD} {ex : List (PySem.W.Frag → Bool)} {K : PySem.W.Frag} (c : SaysP fa fn ex K) : He.SaysD fa fn K := by
  have c1 : ((He.obsD fa fn K).1 && ex.all (fun e => e K)) = true := congrArg (fun z : AlP => z.1) c
  have c2 : (He.obsD fa fn K).2 = fn.map He.DefD.val := congrArg (fun z : AlP => z.2) c
  rw [Bool.and_eq_true] at c1
  show He.obsD fa fn K = He.valD fn
  exact Prod.ext c1.1 c2
theorem SaysP.ex {fa : List He.Fa} {fn : List He.DefD} {ex : List (PySem.W.Frag → Bool)} {K : PySem.W.Frag} (c : SaysP fa fn ex K) (i : Nat) {e : PySem.W.Frag → Bool} (h : ex[i]? = some e := by rfl) : e K = true := by
  have c1 : ((He.obsD fa fn K).1 && ex.all (fun e => e K)) = true := congrArg (fun z : AlP => z.1) c
  rw [Bool.and_eq_true] at c1
  exact List.all_eq_true.mp c1.2 e (List.mem_of_getElem? h)
/-! data of the top -/
def isD (K : PySem.W.Frag) : Nat → D → Value → Bool
  | _, .non, .none => true
  | _, .bl b, .bool c => b == c
  | _, .int i, .int j _ => decide (i = j)
  | _, .str x, .str y _ => decide (x = y)
  | n + 1, .tup ds, .ref a => (match K.lookup a with
    | some ⟨.type c, _, .seq its _, _⟩ => decide (c = "tuple") && (decide (its.size ≤ sizeLine) && (decide (ds.length = its.toList.length) && (ds.zip its.toList).all fun q => isD K n q.1 q.2))
    | _ => false)
  | n + 1, .scr ds, .ref a => (match K.lookup a with
    | some ⟨.type c, none, .seq its _, _⟩ => decide (c = "list") && (decide (its.size ≤ sizeLine) && (decide (ds.length = its.toList.length) && (ds.zip its.toList).all fun q => isD K n q.1 q.2))
    | _ => false)
  | _, _, _ => false
theorem isD_all {K : PySem.W.Frag} {n : Nat} (ih : ∀ d u, isD K n d u = true → ∃ v, RelV v u ∧ ∀ F, Rep K F d v) : ∀ (ds : List D) (us : List Value), ds.length = us.length → ((ds.zip us).all fun q => isD K n q.1 q.2) = true → ∃ vs, Vals vs us ∧ ∀ F, RepL K F ds vs
  | [], [], _, _ => ⟨[], .nil, fun _ => .nil⟩
  | [], _ :: _, h, _ => by cases h
  | _ :: _, [], h, _ => by cases h
  | d :: ds, u :: us, h, k => by
    simp only [List.zip_cons_cons, List.all_cons, Bool.and_eq_true] at k
    obtain ⟨v, r, q⟩ := ih d u k.1
    obtain ⟨vs, r2, q2⟩ := isD_all ih ds us (by simpa using h) k.2
    exact ⟨v :: vs, .cons r r2, fun F => .cons (q F) (q2 F)⟩
theorem isD_ok {K : PySem.W.Frag} : ∀ (n : Nat) (d : D) (u : Value), isD K n d u = true → ∃ v, RelV v u ∧ ∀ F, Rep K F d v := by
  have flat : ∀ (n : Nat) (d : D) (u : Value), (∀ ds, d ≠ .tup ds) → (∀ ds, d ≠ .scr ds) → isD K n d u = true → ∃ v, RelV v u ∧ ∀ F, Rep K F d v := by
    intro n d u h1 h2 h
    cases d with
    | tup ds => exact absurd rfl (h1 ds)
    | scr ds => exact absurd rfl (h2 ds)
    | non => cases u <;> first | exact ⟨.non, rfl, fun _ => .non⟩ | (cases n <;> simp [isD] at h)
    | bl b => cases u <;> first | (have e : b = _ := eq_of_beq (by cases n <;> exact h); subst e; exact ⟨.bl b, rfl, fun _ => .bl b⟩) | (cases n <;> simp [isD] at h)
    | int i => cases u <;> first | (have e : i = _ := of_decide_eq_true (by cases n <;> exact h); subst e; exact ⟨.int i, ⟨_, rfl⟩, fun _ => .int i⟩) | (cases n <;> simp [isD] at h)
    | str x => cases u <;> first | (have e : x = _ := of_decide_eq_true (by cases n <;> exact h); subst e; exact ⟨.str x, ⟨_, rfl⟩, fun _ => .str x⟩) | (cases n <;> simp [isD] at h)
    | lst ds => cases n <;> cases u <;> simp [isD] at h
    | raw w => cases n <;> cases u <;> simp [isD] at h
  intro n
  induction n with
  | zero =>
    intro d u h
    refine flat 0 d u ?_ ?_ h
    · rintro ds rfl; cases u <;> simp [isD] at h
    · rintro ds rfl; cases u <;> simp [isD] at h
  | succ n ih =>
    intro d u h
    by_cases h1 : ∃ ds, d = .tup ds
    · obtain ⟨ds, rfl⟩ := h1
      cases u <;> first | (simp [isD] at h; done) | skip
      rename_i a
      unfold isD at h
      split at h
      · rename_i c od its m sl e
        simp only [Bool.and_eq_true] at h
        obtain ⟨vs, r, q⟩ := isD_all ih ds its.toList (of_decide_eq_true h.2.2.1) h.2.2.2
        exact ⟨.ref a, rfl, fun F => .tup (.inr ⟨_, its, m, e, congrArg Value.type (of_decide_eq_true h.1), rfl, of_decide_eq_true h.2.1, r⟩) (q F)⟩
      · cases h
    · by_cases h2 : ∃ ds, d = .scr ds
      · obtain ⟨ds, rfl⟩ := h2
        cases u <;> first | (simp [isD] at h; done) | skip
        rename_i a
        unfold isD at h
        split at h
        · rename_i c its m sl e
          simp only [Bool.and_eq_true] at h
          obtain ⟨vs, r, q⟩ := isD_all ih ds its.toList (of_decide_eq_true h.2.2.1) h.2.2.2
          exact ⟨.ref a, rfl, fun F => .scr (.inr ⟨_, its, m, e, congrArg Value.type (of_decide_eq_true h.1), rfl, rfl, of_decide_eq_true h.2.1, r⟩) (q F)⟩
        · cases h
      · exact flat _ d u (fun ds e => h1 ⟨ds, e⟩) (fun ds e => h2 ⟨ds, e⟩) h
/-- the module's name x holds the data d -/
def conD (x : Str) (d : D) (K : PySem.W.Frag) : Bool := match PySem.W.nsIn K mainGlobals x with
  | some (some u) => isD K 5 d u
  | _ => false
theorem conD_ok {K : PySem.W.Frag} {h : Heap} {mg : Str → Option Value} {x : Str} {d : D} (X : K.In h) (G : h.Ns mainGlobals mg) (c : conD x d K = true) : GC K mg x d := by
  unfold conD at c
  split at c
  · rename_i u e
    obtain ⟨v, r, q⟩ := isD_ok 5 d u c
    exact ⟨v, u, PySem.W.mg_of X G e, r, q⟩
  · cases c
/-! ### a law's end -/
theorem CX_not {P : Program} {w : World} {o : List Env} {H : Hp} {s s' : Shared} {e : Value} (h : L2.CX P w o H s (fun _ _ _ => False) e s') : False := by
  obtain ⟨_, _, _, _, _, _, _, _, _, _, _, _, z⟩ := h
  exact z
theorem law_end {l : PySem.W.OpenLaw} {q : Program} {loose : List Str} {XP : (Str → Option Value) → Heap → Prop} {YP : World → Heap → Prop} {d : DefRec} {x : Str} {k : Nat} (fn : List D → Option R)
    (hm : l.most = some 63) (hdf : d.params.defaults = []) (hr : Room k callerA)
    (F : ∀ (w : World) (mg : Str → Option Value) (fa : Addr) (h : Heap), YP w h → h.Ns mainGlobals mg → mg d.name = some (.ref fa) → ∃ (K : PySem.W.Frag) (fd : FuncData), K.In h ∧ (∀ (s : Shared) (u : Value), BindsTo s fd ⟨[u], []⟩ [(x, u)]) ∧
      ∀ base : Heap, K.In base → base.Ns mainGlobals mg → FnOk l.prog w K mg base (L2.CX l.prog w) k fa fd [x] (spF K mg fn))
    (hfn : ∀ ns : List Int, ns.length ≤ 63 → fn [.scr (ns.map D.int)] = some (.ok (.d (.bl true)))) : PySem.W.WalkO q loose XP YP l.row.toRowW d [] (fun f vs => PySem.call f vs) := by
  refine Att.attach_call hm hdf ?_
  intro w s₀ s₁ mg mb fa o pm cd doc a vs ns G Y ho hd hcd hmg hobj hints hlen hg
  obtain ⟨K, fd, KX, hb, hF⟩ := F w mg fa _ Y G.T.g hmg
  refine law_call KX G.T.g G.T.b G.T.builtins G.T.nolimit hg hobj hints (Nat.le_trans hlen (by rw [sizeLine_eq]; decide)) hr hF hb ?_ ?_
  · intro H hO hS
    refine ⟨H, [.scr (ns.map D.int)], Same.refl H, .cons (.scr hS (RepL.ofInts ns)) .nil, ?_⟩
    rw [hfn ns hlen]
    intro v F' H' _ _ _ _ r
    cases r
    rfl
  · intro H e s'
    exact CX_not
/-! ### raise -/
def XF (K : PySem.W.Frag) (mg : Str → Option Value) (x : Str) : Prop := ∃ Ca : Addr, mg x = some (.ref Ca) ∧ PySem.W.excIn K Ca He.veBase "ValueError.__new__" = true ∧ PySem.W.keepIn K (.ref Ca) = true ∧ PySem.W.subIn K (.ref Ca) (.type "BaseException") = some true ∧ PySem.W.typeIn K (.ref Ca) = some (.type "type")
theorem xf_of {K : PySem.W.Frag} {mg : Str → Option Value} {h : Heap} {x : Str} (X : K.In h) (G : h.Ns mainGlobals mg) (c1 : (He.Fa.glo x).ok K = true) (c2 : (He.Fa.exc x).ok K = true) : XF K mg x :=
  ⟨_, He.glo_ok X G c1, He.exc_ok c2⟩
theorem s_raise {X : Cx} {C : FR} {x m : Str} {j : Nat} {p p2 pos pos' : Pos} (ft : Fit X C) (h : XF C.K C.mg x) (hg : Gl X x := by rfl) (hdb : (x == ("__debug__" : Str)) = false := by decide) (hh : C.hot = false := by rfl) : PS X (.Raise (some (.Call (.Name x p) [.Constant (.str m) j p2] [] pos)) none pos') (lS C (wRaise x)) := by
  obtain ⟨Ca, h1, h2, h3, h4, h5⟩ := h
  refine PS.imp ?_ (ps_raise (ft.calm hh) ft.tk (pmk_own PySem.F.excBase_ValueError (by rw [ft.K]; exact h2) (by rw [ft.mg]; exact h1) (by rw [ft.K]; exact h3) (raises_own (by rw [ft.K]; exact h4) (by rw [ft.K]; exact h5)) hg hdb))
  rintro D σ H ⟨ρ, F, P, G, k, ht⟩
  exact ht.ex σ ρ F H x none (.ref Ca) none G (Same.refl F) ⟨h1, rfl⟩ k
/-! ### what stands of the built-ins -/
theorem hu65 {k : Nat} {A : Around} (r : Room k A) : A.units + 65 < cLine := by have := r.un; omega
theorem bt_len : bootBuiltins "len" = some (.builtin "len") := PySem.boot_len
theorem bt_abs : bootBuiltins "abs" = some (.builtin "abs") := PyProof.Rows.boot_abs
theorem bt_all : bootBuiltins "all" = some (.builtin "all") := PyProof.Rows.boot_all
theorem bt_any : bootBuiltins "any" = some (.builtin "any") := PyProof.Rows.boot_any
theorem bt_sum : bootBuiltins "sum" = some (.builtin "sum") := PyProof.Rows.boot_sum
theorem bt_min : bootBuiltins "min" = some (.builtin "min") := PyProof.Rows.boot_min
theorem bt_max : bootBuiltins "max" = some (.builtin "max") := PyProof.Rows.boot_max
theorem bt_sorted : bootBuiltins "sorted" = some (.builtin "sorted") := PyProof.Rows.boot_sorted
theorem bt_isinstance : bootBuiltins "isinstance" = some (.builtin "isinstance") := PyProof.Rows.boot_isinstance
theorem bt_int : bootBuiltins "int" = some (.type "int") := PyProof.Rows.boot_int
theorem bt_bool : bootBuiltins "bool" = some (.type "bool") := PyProof.Rows.boot_bool
theorem bt_str : bootBuiltins "str" = some (.type "str") := PyProof.Rows.boot_str
theorem bt_tuple : bootBuiltins "tuple" = some (.type "tuple") := PyProof.Rows.boot_tuple
theorem bt_list : bootBuiltins "list" = some (.type "list") := PyProof.Rows.boot_list
/-! ### an own list is read -/
def eLenO (i : Nat) : EF := fun ρ => match ρ[i]? with
  | some (some (.own xs)) => okI xs.length
  | _ => none
def eIxO (i : Nat) (f : EF) : EF := fun ρ => match ρ[i]? with
  | some (some (.own xs)) => bindR (f ρ) fun y => ixR (.lst xs) y
  | _ => none
section
variable {X : Cx} {C : FR} {b : Expr} {fb : EF} {pos p : Pos} {x : Str}
theorem x_ixO (i : Nat) (hb : PE X b (lE C fb)) (hN : X.N[i]? = some x := by rfl) (hv : Vis X.env.scope x := by first | exact Or.inl rfl | exact Or.inr (Or.inl rfl) | exact Or.inr (Or.inr rfl)) (hd : (x == ("__debug__" : Str)) = false := by decide)
    (hcd : (x == ("__classdict__" : Str)) = false := by decide) (hs : PlainIx b := by exact fun _ _ => rfl) : PE X (.Subscript (.Name x p) b pos) (lE C (eIxO i fb)) := by
  refine PE.imp ?_ (pe_ix IxR.any (pe_var hN hv hd hcd) hb hs)
  rintro σ H Q ⟨ρ, F, G, h⟩
  unfold eIxO at h
  split at h
  · rename_i xs e
    obtain ⟨v, e2, q⟩ := G.at_ i _ e
    refine ⟨v, e2, ρ, F, G, ?_⟩
    have h1 := PostE.bind G h
    cases e3 : fb ρ with
    | none => rw [e3] at h1; exact h1
    | some r =>
      rw [e3] at h1
      cases r with
      | ex x p => exact h1
      | ok sv =>
        intro w F' H' st qw
        obtain ⟨y, F1, st1, ry, h2⟩ := h1 w F' H' st qw
        obtain ⟨v', e4, p, vs, rfl, hp, rl, _⟩ := st1.g.at_ i _ e
        rw [e2] at e4
        cases e4
        cases y with
        | int k =>
          have h2 : PostE C σ ρ F1 H' (match atI xs k with
            | some x => okD x
            | none => none) Q := h2
          split at h2
          · rename_i d e5
            cases ry
            obtain ⟨u, e6, r1⟩ := rl.at e5
            exact ⟨_, ix_list, _, _, _, u, rfl, rfl, SqL.of hp, e6, h2.val st1.g r1⟩
          · exact h2.elim
        | _ => exact h2.elim
  · exact h.elim
theorem x_lenO {p2 : Pos} (ft : Fit X C) (hm : C.mg "len" = none) (i : Nat) (hg : Gl X "len" := by rfl) (hN : X.N[i]? = some x := by rfl) (hv : Vis X.env.scope x := by first | exact Or.inl rfl | exact Or.inr (Or.inl rfl) | exact Or.inr (Or.inr rfl)) (hd : (x == ("__debug__" : Str)) = false := by decide)
    (hcd : (x == ("__classdict__" : Str)) = false := by decide) (he : starEach [.Name x p2] X.env = (false, eval (.Name x p2) X.env) :: starEach [] X.env := by rfl) (hpl : (backTo pos (starEach [] X.env)).any (·.1) = false := by rfl) : PE X (.Call (.Name "len" p) [.Name x p2] [] pos) (lE C (eLenO i)) := by
  refine PE.imp ?_ (pe_callB call_len hg (by rw [ft.mg]; exact hm) bt_len (pa_cons (pe_var hN hv hd hcd) pa_nil he) (by decide) (by decide) he hpl)
  rintro σ H Q ⟨ρ, F, G, h⟩
  unfold eLenO at h
  split at h
  · rename_i xs e
    obtain ⟨v, e2, p, vs, rfl, hp, rl, _⟩ := G.at_ i _ e
    exact ⟨_, e2, _, _, rfl, .inl ⟨_, SqL.of hp, rfl⟩, by rw [← rl.len]; exact h.val G (.int _)⟩
  · exact h.elim
end
/-! ### functions of data by their number of arguments -/
def fn0 (r : Option R) : List D → Option R
  | [] => r
  | _ => none
def fn1 (g : D → Option R) : List D → Option R
  | [x] => g x
  | _ => none
def fn2 (g : D → D → Option R) : List D → Option R
  | [x, y] => g x y
  | _ => none
def fn3 (g : D → D → D → Option R) : List D → Option R
  | [x, y, z] => g x y z
  | _ => none
def fn4 (g : D → D → D → D → Option R) : List D → Option R
  | [x, y, z, u] => g x y z u
  | _ => none
def fn5 (g : D → D → D → D → D → Option R) : List D → Option R
  | [x, y, z, u, v] => g x y z u v
  | _ => none
theorem len0 {r : Option R} : ∀ ds q, fn0 r ds = some q → ds.length = 0
  | [], _, _ => rfl
theorem len1 {g : D → Option R} : ∀ ds q, fn1 g ds = some q → ds.length = 1
  | [_], _, _ => rfl
theorem len2 {g : D → D → Option R} : ∀ ds q, fn2 g ds = some q → ds.length = 2
  | [_, _], _, _ => rfl
theorem len3 {g : D → D → D → Option R} : ∀ ds q, fn3 g ds = some q → ds.length = 3
  | [_, _, _], _, _ => rfl
theorem len4 {g : D → D → D → D → Option R} : ∀ ds q, fn4 g ds = some q → ds.length = 4
  | [_, _, _, _], _, _ => rfl
theorem len5 {g : D → D → D → D → D → Option R} : ∀ ds q, fn5 g ds = some q → ds.length = 5
  | [_, _, _, _, _], _, _ => rfl
theorem does0 {n : Nat} {w : SF} {r : Option R} (h : ∀ q, r = some q → w (PDof q) (startE n [])) : Does n w (fn0 r)
  | [], q, e => h q e
theorem does1 {n : Nat} {w : SF} {g : D → Option R} (h : ∀ x q, g x = some q → w (PDof q) (startE n [x])) : Does n w (fn1 g)
  | [x], q, e => h x q e
theorem does2 {n : Nat} {w : SF} {g : D → D → Option R} (h : ∀ x y q, g x y = some q → w (PDof q) (startE n [x, y])) : Does n w (fn2 g)
  | [x, y], q, e => h x y q e
theorem does3 {n : Nat} {w : SF} {g : D → D → D → Option R} (h : ∀ x y z q, g x y z = some q → w (PDof q) (startE n [x, y, z])) : Does n w (fn3 g)
  | [x, y, z], q, e => h x y z q e
theorem does4 {n : Nat} {w : SF} {g : D → D → D → D → Option R} (h : ∀ x y z u q, g x y z u = some q → w (PDof q) (startE n [x, y, z, u])) : Does n w (fn4 g)
  | [x, y, z, u], q, e => h x y z u q e
theorem does5 {n : Nat} {w : SF} {g : D → D → D → D → D → Option R} (h : ∀ x y z u v q, g x y z u v = some q → w (PDof q) (startE n [x, y, z, u, v])) : Does n w (fn5 g)
  | [x, y, z, u, v], q, e => h x y z u v q e
/-- all arguments of a def with defaults are written -/
theorem bindsAll {K : PySem.W.Frag} {x qual : Str} {params : Arguments} {body : List Stmt} {scope : Scope} {dvs : List V} {kws : List (Str × V)} {f : Addr} {fd : FuncData} {ps : List Str} (F : FunD K x qual params body scope dvs kws f fd)
    (h : ∀ (dV kV doc pm : Value) (an : Option Addr) (cdv ct : Value) (us : List Value), us.length = ps.length → bindArgs (PySem.W.fnOf x qual params body scope dV kV doc pm an cdv ct) ⟨us, []⟩ = pure (ps.zip us)) : Binds K fd ps [] := by
  obtain ⟨oc, od, dV, kV, doc, pm, an, cdv, ct, osl, rfl, _⟩ := F.ex
  exact .all (h dV kV doc pm an cdv ct)
end PT
/-! PT: running meanings by simp. -/
namespace PT
open PySem PySem.Spec PyProof.Rows L2
theorem fmod_pos (i : Int) {j : Int} (h : 0 < j) : i.fmod j = i % j := Int.fmod_eq_emod_of_nonneg i (by omega)
theorem fdiv_pos (i : Int) {j : Int} (h : 0 < j) : i.fdiv j = i / j := Int.fdiv_eq_ediv_of_nonneg i (by omega)
theorem eqD_int (i j : Int) : eqD (.int i) (.int j) = (i == j) := by simp [eqD, toP, PyData.eqv]
theorem eqD_bl (i j : Bool) : eqD (.bl i) (.bl j) = (i == j) := by simp [eqD, toP, PyData.eqv]
theorem fine_int (n : Nat) (i : Int) : fine n (.int i) = true := by cases n <;> rfl
theorem fine_bl (n : Nat) (i : Bool) : fine n (.bl i) = true := by cases n <;> rfl
theorem fine_non (n : Nat) : fine n .non = true := by cases n <;> rfl
theorem fine_tup (n : Nat) (ds : List D) : fine (n + 1) (.tup ds) = ds.all (fine n) := rfl
theorem fine_lst (n : Nat) (ds : List D) : fine (n + 1) (.lst ds) = ds.all (fine n) := rfl
theorem eqR_int (i j : Int) : eqR (.int i) (.int j) = okB (i == j) := by simp [eqR, fine_int, eqD_int]
theorem neR_int (i j : Int) : neR (.int i) (.int j) = okB (!(i == j)) := by simp [neR, fine_int, eqD_int]
theorem eqR_bl (i j : Bool) : eqR (.bl i) (.bl j) = okB (i == j) := by simp [eqR, fine_bl, eqD_bl]
theorem neR_bl (i j : Bool) : neR (.bl i) (.bl j) = okB (!(i == j)) := by simp [neR, fine_bl, eqD_bl]
theorem modR_pos (i : Int) {j : Int} (h : 0 < j) : modD (.int i) (.int j) = okI (i % j) := by
  show (if j ≠ 0 then okI (i.fmod j) else none) = _
  rw [if_pos (by omega), fmod_pos i h]
theorem divR_pos (i : Int) {j : Int} (h : 0 < j) (h2 : j.natAbs.log2 < 9000) : fdivD (.int i) (.int j) = okI (i / j) := by
  show (if divOk j = true then okI (i.fdiv j) else none) = _
  rw [if_pos (by unfold divOk; simp [h2]; omega), fdiv_pos i h]
/-- how the body runs: one step of simp -/
local macro_rules | `(tactic| walk_at "pt") => `(tactic| simp only [wSeq, wSet, wOwn, wRet, wRetN, wRetV, wIf, wExpr, wApp, wRaise, wBreak, wCont, wFrz, wFor, wAsg, wPar, wNop, wR, wRB, wRL, eVar, eC, e1, e2, aNil, aCons, eCall, tupR, lstR, eTup, eLst, eIte, eLenO, eIxO,
  cT, cAnd, cOr, cNot, andV, orV, notD, truR, truD, bindR, bindRB, bindRL, bindL, bindB, bindBB, bindLL, toD, okD, okI, okB, gN, gNil, gCons, gTup, gLs, PDof, itA, itD, itemsOf,
  List.getElem?_cons_zero, List.getElem?_cons_succ, List.set_cons_zero, List.set_cons_succ, startE, List.map_cons, List.map_nil, List.length_cons, List.length_nil, List.replicate, List.cons_append, List.nil_append, List.append_nil,
  Nat.zero_add, Nat.reduceAdd, Nat.reduceSub, Nat.reduceLeDiff, if_true, if_false, ite_true, ite_false, Bool.false_eq_true, reduceIte,
  addD, subD, negD, ltR, leR, gtR, geR, eqR_int, neR_int, eqR_bl, neR_bl, absR, lenR, max2R, min2R, intR])
/-! ### the greatest shared number -/
theorem gcd_step (a b : Nat) (h : b ≠ 0) : Nat.gcd b (a % b) = Nat.gcd a b := by
  rw [Nat.gcd_comm a b, Nat.gcd_rec b a, Nat.gcd_comm]
end PT
/-! PT: helpers for the mathematics of the laws. -/
namespace PT
open PySem (Str)
/-! ### a law's own function -/
open Classical in
noncomputable def gLaw (x : D) : Option R := if ∃ ns : List Int, ns.length ≤ 63 ∧ x = .scr (ns.map D.int) then okB true else none
theorem gLaw_inv {x : D} {q : R} (h : gLaw x = some q) : ∃ ns : List Int, ns.length ≤ 63 ∧ x = .scr (ns.map D.int) ∧ q = .ok (.d (.bl true)) := by
  unfold gLaw at h
  split at h
  · rename_i e
    obtain ⟨ns, h1, h2⟩ := e
    exact ⟨ns, h1, h2, (Option.some.inj h).symm⟩
  · cases h
theorem gLaw_true (ns : List Int) (h : ns.length ≤ 63) : fn1 gLaw [.scr (ns.map D.int)] = some (.ok (.d (.bl true))) := by
  show gLaw _ = _
  unfold gLaw
  rw [if_pos ⟨ns, h, rfl⟩]
  rfl
theorem intsOf_map : ∀ ns : List Int, intsOf (ns.map D.int) = some ns
  | [] => rfl
  | n :: ns => by
    show (match intsOf (ns.map D.int) with
      | some bs => some (n :: bs)
      | none => none) = _
    rw [intsOf_map ns]
theorem blsOf_map : ∀ ns : List Bool, blsOf (ns.map D.bl) = some ns
  | [] => rfl
  | n :: ns => by
    show (match blsOf (ns.map D.bl) with
      | some bs => some (n :: bs)
      | none => none) = _
    rw [blsOf_map ns]
/-! ### statements, one after another -/
section
variable {P : PD} {ρ : En} {a b w : SF} {f : EF} {c : CF} {i j : Nat} {v v0 v1 : D} {sv : SV} {t : Bool} {x y : Int}
theorem q_set (h : f ρ = some (.ok (.d v))) (k : b P (ρ.set i (some (.d v)))) : wSeq (wSet i f) b P ρ := by
  show wR (f ρ) _ _
  rw [h]
  exact k
theorem z_set (h : f ρ = some (.ok (.d v))) (k : P.nx (ρ.set i (some (.d v)))) : wSet i f P ρ := by
  show wR (f ρ) _ _
  rw [h]
  exact k
theorem z_ret (h : f ρ = some (.ok sv)) (k : P.rt sv) : wRet f P ρ := by
  show wR (f ρ) _ _
  rw [h]
  exact k
theorem z_if (h : c ρ = some (.ok t)) (k1 : t = true → a P ρ) (k2 : t = false → b P ρ) : wIf c a b P ρ := by
  show wRB (c ρ) _ _
  rw [h]
  cases t with
  | true => exact k1 rfl
  | false => exact k2 rfl
theorem q_if (h : c ρ = some (.ok t)) (k1 : t = true → a { P with nx := fun ρ' => w P ρ' } ρ) (k2 : t = false → b { P with nx := fun ρ' => w P ρ' } ρ) : wSeq (wIf c a b) w P ρ := z_if h k1 k2
/-- if c: return e; then the rest -/
theorem q_ifret (h : c ρ = some (.ok t)) (k1 : t = true → f ρ = some (.ok sv) ∧ P.rt sv) (k2 : t = false → w P ρ) : wSeq (wIf c (wRet f) wNop) w P ρ :=
  z_if h (fun e => z_ret (k1 e).1 (k1 e).2) k2
/-- if c: name = e; then the rest: the value joined -/
theorem q_ifset (h : c ρ = some (.ok t)) (h0 : ρ[i]? = some (some (.d (.int y)))) (h1 : t = true → f ρ = some (.ok (.d (.int x)))) (k : w P (ρ.set i (some (.d (.int (if t = true then x else y)))))) : wSeq (wIf c (wSet i f) wNop) w P ρ := by
  refine z_if h (fun e => z_set (h1 e) ?_) fun e => ?_
  · rw [if_pos e] at k
    exact k
  · rw [if_neg (by rw [e]; exact Bool.false_ne_true)] at k
    have e2 : ρ.set i (some (.d (.int y))) = ρ := by
      apply List.ext_getElem?
      intro j
      by_cases hij : i = j
      · subst hij; rw [List.getElem?_set_self (List.getElem?_eq_some_iff.mp h0).1, h0]
      · rw [List.getElem?_set_ne hij]
    rw [e2] at k
    exact k
theorem q_par {fa : AF} {x y : D} (h : fa ρ = some (.ok [x, y])) (k : b P ((ρ.set i (some (.d x))).set j (some (.d y)))) : wSeq (wPar i j fa) b P ρ := by
  show wRL (fa ρ) _ _
  rw [h]
  exact k
theorem z_par {fa : AF} {x y : D} (h : fa ρ = some (.ok [x, y])) (k : P.nx ((ρ.set i (some (.d x))).set j (some (.d y)))) : wPar i j fa P ρ := by
  show wRL (fa ρ) _ _
  rw [h]
  exact k
theorem q_asg {g : GF} {ρ' : En} (h : f ρ = some (.ok sv)) (h2 : g (toD sv) ρ = some ρ') (k : b P ρ') : wSeq (wAsg f g) b P ρ := by
  show wR (f ρ) _ _
  rw [h]
  show (match g (toD sv) ρ with
    | some ρ' => b P ρ'
    | none => False)
  rw [h2]
  exact k
theorem z_for {it : AF} {g : GF} {ds : List D} (h : it ρ = some (.ok ds)) (k : wForL g b P ds ρ) : wFor it g b P ρ := by
  show wRL (it ρ) _ _
  rw [h]
  exact k
theorem q_for {it : AF} {g : GF} {ds : List D} (h : it ρ = some (.ok ds)) (k : wForL g b { P with nx := fun ρ' => w P ρ' } ds ρ) : wSeq (wFor it g b) w P ρ := z_for h k
theorem q_while (h : ∃ n, wWhileN c b { P with nx := fun ρ' => w P ρ' } n ρ) : wSeq (wWhile c b) w P ρ := h
theorem while_go {n : Nat} (h : c ρ = some (.ok true)) (k : b { P with nx := wWhileN c b P n, ct := wWhileN c b P n, bk := P.nx } ρ) : wWhileN c b P (n + 1) ρ := by
  show wRB (c ρ) _ _
  rw [h]
  exact k
theorem while_end {n : Nat} (h : c ρ = some (.ok false)) (k : P.nx ρ) : wWhileN c b P (n + 1) ρ := by
  show wRB (c ρ) _ _
  rw [h]
  exact k
end
/-! ### loops -/
/-- a for loop keeps I: the body, from any state of I, leads to what I leads to -/
theorem forL {g : GF} {b : SF} {P : PD} (I : En → Prop) : ∀ (ds : List D) (ρ : En), (∀ ρ, I ρ → P.nx ρ) → (∀ d ρ (K : En → Prop), d ∈ ds → I ρ → (∀ ρ', I ρ' → K ρ') → ∃ ρ1, g d ρ = some ρ1 ∧ b { P with nx := K, ct := K, bk := P.nx } ρ1) → I ρ → wForL g b P ds ρ
  | [], ρ, h0, _, h => h0 ρ h
  | d :: ds, ρ, h0, hs, h => by
    obtain ⟨ρ1, e, q⟩ := hs d ρ (wForL g b P ds) (List.mem_cons_self) h (fun ρ' h' => forL I ds ρ' h0 (fun d ρ K hd => hs d ρ K (List.mem_cons_of_mem _ hd)) h')
    show (match g d ρ with
      | some ρ1 => b { P with nx := wForL g b P ds, ct := wForL g b P ds, bk := P.nx } ρ1
      | none => False)
    rw [e]
    exact q
/-- .. by the number of the turn -/
theorem forN {g : GF} {b : SF} {P : PD} (I : Nat → En → Prop) : ∀ (ds : List D) (i : Nat) (ρ : En), (∀ ρ, I (i + ds.length) ρ → P.nx ρ) → (∀ (j : Nat) d ρ (K : En → Prop), ds[j]? = some d → I (i + j) ρ → (∀ ρ', I (i + j + 1) ρ' → K ρ') → ∃ ρ1, g d ρ = some ρ1 ∧ b { P with nx := K, ct := K, bk := P.nx } ρ1) → I i ρ → wForL g b P ds ρ
  | [], i, ρ, h0, _, h => h0 ρ h
  | d :: ds, i, ρ, h0, hs, h => by
    obtain ⟨ρ1, e, q⟩ := hs 0 d ρ (wForL g b P ds) rfl h (fun ρ' h' => forN I ds (i + 1) ρ' (fun ρ h => h0 ρ (by rw [List.length_cons]; rw [show i + (ds.length + 1) = i + 1 + ds.length by omega]; exact h))
      (fun j d ρ K hd hi hk => hs (j + 1) d ρ K (by simpa using hd) (by rw [show i + (j + 1) = i + 1 + j by omega]; exact hi) (fun ρ' h' => hk ρ' (by rw [show i + 1 + j + 1 = i + (j + 1) + 1 by omega]; exact h'))) h')
    show (match g d ρ with
      | some ρ1 => b { P with nx := wForL g b P ds, ct := wForL g b P ds, bk := P.nx } ρ1
      | none => False)
    rw [e]
    exact q
theorem mem_rangeC {lo c : Int} {n : Nat} {d : D} (h : d ∈ rangeC lo c n) : ∃ k : Nat, k < n ∧ d = .int (lo + k * c) := by
  unfold rangeC at h
  obtain ⟨k, hk, e⟩ := List.mem_map.mp h
  exact ⟨k, List.mem_range.mp hk, e.symm⟩
theorem mem_rangeD {lo : Int} {n : Nat} {d : D} (h : d ∈ rangeD lo n) : ∃ k : Nat, k < n ∧ d = .int (lo + k) := by
  unfold rangeD at h
  obtain ⟨k, hk, e⟩ := List.mem_map.mp h
  exact ⟨k, List.mem_range.mp hk, e.symm⟩
/-! ### sizes: B n x, x has at most n bits -/
def B (n : Nat) (x : Int) : Prop := x.natAbs < 2 ^ n
theorem B.mono {m n : Nat} {x : Int} (h : B m x) (l : m ≤ n) : B n x := Nat.lt_of_lt_of_le h (Nat.pow_le_pow_right (by decide) l)
theorem B.log {n : Nat} {x : Int} (h : B n x) : x.natAbs.log2 ≤ n := by
  by_cases h0 : x.natAbs = 0
  · rw [h0]; simp
  · exact Nat.le_of_lt ((Nat.log2_lt h0).mpr h)
theorem B.mulOk {m n : Nat} {x y : Int} (h : B m x) (k : B n y) (l : m + n < 4000000) : mulOk x y = true := by
  have := h.log
  have := k.log
  unfold PT.mulOk
  rw [Bool.or_eq_true]
  exact .inl (decide_eq_true (by omega))
theorem mulS {x y : Int} {n : Nat} (k : B n y) (l : n < 60) : mulD (.int x) (.int y) = okI (x * y) := by
  have := k.log
  show (if PT.mulOk x y = true then _ else _) = _
  rw [if_pos (by unfold PT.mulOk; rw [Bool.or_eq_true]; exact .inr (decide_eq_true (by omega)))]
theorem B.divOk {n : Nat} {y : Int} (h : B n y) (h0 : y ≠ 0) (l : n < 9000) : divOk y = true := by
  have := h.log
  unfold PT.divOk
  rw [decide_eq_true h0, decide_eq_true (by omega)]
  rfl
theorem B.add {m n k : Nat} {x y : Int} (h : B m x) (g : B n y) (l : max m n + 1 ≤ k) : B k (x + y) := by
  have h1 : x.natAbs < 2 ^ (max m n) := B.mono h (by omega)
  have h2 : y.natAbs < 2 ^ (max m n) := B.mono g (by omega)
  refine B.mono (m := max m n + 1) ?_ l
  show (x + y).natAbs < 2 ^ (max m n + 1)
  rw [Nat.pow_succ]
  omega
theorem B.neg {n : Nat} {x : Int} (h : B n x) : B n (-x) := by
  show (-x).natAbs < _
  rw [Int.natAbs_neg]; exact h
theorem B.sub {m n k : Nat} {x y : Int} (h : B m x) (g : B n y) (l : max m n + 1 ≤ k) : B k (x - y) := by
  rw [Int.sub_eq_add_neg]; exact h.add g.neg l
theorem B.mul {m n k : Nat} {x y : Int} (h : B m x) (g : B n y) (l : m + n ≤ k) : B k (x * y) := by
  refine B.mono (m := m + n) ?_ l
  show (x * y).natAbs < 2 ^ (m + n)
  rw [Int.natAbs_mul, Nat.pow_add]
  exact Nat.mul_lt_mul'' h g
theorem B.le {n : Nat} {x y : Int} (h : B n y) (l : x.natAbs ≤ y.natAbs) : B n x := Nat.lt_of_le_of_lt l h
theorem B.of {n : Nat} {x : Int} (h : -(2 ^ n : Nat) < x) (k : x < (2 ^ n : Nat)) : B n x := by
  show x.natAbs < 2 ^ n
  omega
theorem B.mod {n : Nat} {x y : Int} (h : B n y) (h0 : 0 < y) : B n (x % y) := h.le (by
  have := Int.emod_nonneg x (show y ≠ 0 by omega)
  have := Int.emod_lt_of_pos x h0
  omega)
theorem B.div {n : Nat} {x y : Int} (h : B n x) (hx : 0 ≤ x) (hy : 0 < y) : B n (x / y) := h.le (by
  have h1 := Int.ediv_nonneg hx (Int.le_of_lt hy)
  have h2 := Int.ediv_le_self y hx
  omega)
theorem mulR {m n : Nat} {x y : Int} (h : B m x) (k : B n y) (l : m + n < 4000000) : mulD (.int x) (.int y) = okI (x * y) := by
  show (if mulOk x y = true then okI (x * y) else none) = _
  rw [if_pos (h.mulOk k l)]
theorem powR {x y : Int} {n : Nat} (h : powOk x y = true) (e : y.toNat = n := by rfl) : powD (.int x) (.int y) = okI (x ^ n) := by
  show (if powOk x y = true then okI (x ^ y.toNat) else none) = _
  rw [if_pos h, e]
theorem divR {x y : Int} {n : Nat} (hy : 0 < y) (h : B n y) (l : n < 9000) : fdivD (.int x) (.int y) = okI (x / y) := by
  show (if divOk y = true then okI (x.fdiv y) else none) = _
  rw [if_pos (h.divOk (by omega) l), fdiv_pos x hy]
theorem modR {x y : Int} (hy : 0 < y) : modD (.int x) (.int y) = okI (x % y) := modR_pos x hy
/-! sizes by instances -/
class Bd (x : Int) (n : outParam Nat) : Prop where
  b : B n x
instance (k : Nat) : Bd (no_index (OfNat.ofNat k)) (k.log2 + 1) := ⟨by
  show (Int.natAbs (OfNat.ofNat k)) < _
  have e : (Int.natAbs (OfNat.ofNat k)) = k := rfl
  rw [e]
  exact Nat.lt_log2_self⟩
instance {x y : Int} {m n : Nat} [h : Bd x m] [g : Bd y n] : Bd (x + y) (max m n + 1) := ⟨h.b.add g.b (Nat.le_refl _)⟩
instance {x y : Int} {m n : Nat} [h : Bd x m] [g : Bd y n] : Bd (x - y) (max m n + 1) := ⟨h.b.sub g.b (Nat.le_refl _)⟩
instance {x y : Int} {m n : Nat} [h : Bd x m] [g : Bd y n] : Bd (x * y) (m + n) := ⟨h.b.mul g.b (Nat.le_refl _)⟩
instance {x : Int} {m : Nat} [h : Bd x m] : Bd (-x) m := ⟨h.b.neg⟩
instance {x y : Int} {m n : Nat} {c : Prop} [Decidable c] [h : Bd x m] [g : Bd y n] : Bd (if c then x else y) (max m n) := ⟨by
  split
  · exact h.b.mono (by omega)
  · exact g.b.mono (by omega)⟩
theorem B.pow {x : Int} {m : Nat} (h : B m x) : ∀ k : Nat, B (m * k + 1) (x ^ k)
  | 0 => by rw [Int.pow_zero]; show (1 : Int).natAbs < 2 ^ (m * 0 + 1); rw [Nat.mul_zero]; decide
  | k + 1 => by
    rw [Int.pow_succ]
    exact (h.pow k).mul h (by rw [Nat.mul_succ]; omega)
instance {x : Int} {m k : Nat} [h : Bd x m] : Bd (x ^ k) (m * k + 1) := ⟨h.b.pow k⟩
theorem ediv_abs (x y : Int) : (x / y).natAbs ≤ x.natAbs := Int.natAbs_ediv_le_natAbs x y
theorem emod_abs (x : Int) {y : Int} (h : y ≠ 0) : (x % y).natAbs < y.natAbs := by
  have h2 := Int.emod_nonneg x h
  have h3 := Int.emod_lt x h
  omega
instance {x y : Int} {m : Nat} [h : Bd x m] : Bd (x / y) m := ⟨h.b.le (ediv_abs x y)⟩
instance {x : Int} {k : Nat} [NeZero k] : Bd (x % no_index (OfNat.ofNat k)) (k.log2 + 1) := ⟨by
  have h : (OfNat.ofNat k : Int) ≠ 0 := by
    show (k : Int) ≠ 0
    have := NeZero.ne k
    omega
  have := emod_abs x h
  have b : B (k.log2 + 1) (OfNat.ofNat k) := Bd.b
  exact b.le (Nat.le_of_lt this)⟩
theorem mulRi {x y : Int} {m n : Nat} [h : Bd x m] [g : Bd y n] (l : m + n < 4000000) : mulD (.int x) (.int y) = okI (x * y) := mulR h.b g.b l
theorem divRi {x y : Int} {n : Nat} [g : Bd y n] (hy : 0 < y) (l : n < 9000) : fdivD (.int x) (.int y) = okI (x / y) := divR hy g.b l
theorem powRi {x y : Int} (h : powOk x y = true) : powD (.int x) (.int y) = okI (x ^ y.toNat) := by
  show (if powOk x y = true then okI (x ^ y.toNat) else none) = _
  rw [if_pos h]
example (x y : Int) [Bd x 100] : mulD (.int (x * 48271 + 12 % 77)) (.int (x / y)) = okI ((x * 48271 + 12 % 77) * (x / y)) := by
  simp (disch := decide) only [mulRi]
theorem absI (a : Int) : (if a < 0 then -a else a) = (a.natAbs : Int) := by split <;> omega
/-! ### whole numbers told -/
def g_whole : D → Option R
  | .int _ => okB true
  | .raw _ => none
  | _ => okB false
theorem isi_int {x : D} : isiR [x, .raw (.ty "int")] = (match tyD x with
    | some t => okB (t == "int" || t == "bool")
    | none => none) := by
  cases x <;> rfl
theorem isi_bool {x : D} : isiR [x, .raw (.ty "bool")] = (match tyD x with
    | some t => okB (t == "bool")
    | none => none) := by
  cases x <;> rfl
theorem isi_tuple {x : D} : isiR [x, .raw (.ty "tuple")] = (match tyD x with
    | some t => okB (t == "tuple")
    | none => none) := by
  cases x <;> rfl
theorem isi_list {x : D} : isiR [x, .raw (.ty "list")] = (match tyD x with
    | some t => okB (t == "list")
    | none => none) := by
  cases x <;> rfl
theorem ix_nat {ds : List D} {k : Nat} {d : D} (h : ds[k]? = some d) : ixR (.scr ds) (.int k) = okD d := by
  show (match L2.atI ds (k : Int) with
    | some x => okD x
    | none => none) = _
  rw [L2.atI_nat h]
theorem ix_lst {ds : List D} {k : Nat} {d : D} (h : ds[k]? = some d) : ixR (.lst ds) (.int k) = okD d := by
  show (match L2.atI ds (k : Int) with
    | some x => okD x
    | none => none) = _
  rw [L2.atI_nat h]
theorem ix_tup {ds : List D} {k : Nat} {d : D} (h : ds[k]? = some d) : ixR (.tup ds) (.int k) = okD d := by
  show (match L2.atI ds (k : Int) with
    | some x => okD x
    | none => none) = _
  rw [L2.atI_nat h]
theorem range3_step {lo hi c : Int} (h : rng3 lo hi c = true) : range3L [.int lo, .int hi, .int c] = some (.ok (rangeC lo c (PySem.Builtin.Range.rangeSize lo hi c).toNat)) := by
  show (if rng3 lo hi c = true then _ else none) = _
  rw [if_pos h]
end PT
/-! PT: a body has one outcome; so a def's function is the body's outcome. -/
namespace PT
open PySem (Str)
structure Two (P Q : PD) (p : Prop) : Prop where
  nx : ∀ ρ, P.nx ρ → Q.nx ρ → p
  rt : ∀ v, P.rt v → Q.rt v → p
  bk : ∀ ρ, P.bk ρ → Q.bk ρ → p
  ct : ∀ ρ, P.ct ρ → Q.ct ρ → p
  ex : ∀ x o, P.ex x o → Q.ex x o → p
class Det (w : SF) : Prop where
  one : ∀ {P Q : PD} {p : Prop} {ρ : En}, Two P Q p → w P ρ → w Q ρ → p
theorem wR_two {r : Option R} {k k' : SV → Prop} {e e' : Str → Option Int → Prop} {p : Prop} (hk : ∀ v, k v → k' v → p) (he : ∀ x o, e x o → e' x o → p) (h : wR r k e) (h' : wR r k' e') : p := by
  cases r with
  | none => exact h.elim
  | some r => cases r with
    | ok sv => exact hk sv h h'
    | ex x o => exact he x o h h'
theorem wRB_two {r : Option RB} {k k' : Bool → Prop} {e e' : Str → Option Int → Prop} {p : Prop} (hk : ∀ v, k v → k' v → p) (he : ∀ x o, e x o → e' x o → p) (h : wRB r k e) (h' : wRB r k' e') : p := by
  cases r with
  | none => exact h.elim
  | some r => cases r with
    | ok sv => exact hk sv h h'
    | ex x o => exact he x o h h'
theorem wRL_two {r : Option RL} {k k' : List D → Prop} {e e' : Str → Option Int → Prop} {p : Prop} (hk : ∀ v, k v → k' v → p) (he : ∀ x o, e x o → e' x o → p) (h : wRL r k e) (h' : wRL r k' e') : p := by
  cases r with
  | none => exact h.elim
  | some r => cases r with
    | ok sv => exact hk sv h h'
    | ex x o => exact he x o h h'
instance : Det wNop := ⟨fun t h h' => t.nx _ h h'⟩
instance {a b : SF} [A : Det a] [Bb : Det b] : Det (wSeq a b) := ⟨fun {P Q p ρ} t h h' => A.one (P := { P with nx := fun ρ' => b P ρ' }) (Q := { Q with nx := fun ρ' => b Q ρ' }) (ρ := ρ) ⟨fun ρ x y => Bb.one t x y, t.rt, t.bk, t.ct, t.ex⟩ h h'⟩
instance {i : Nat} {f : EF} : Det (wSet i f) := ⟨fun t h h' => wR_two (fun _ => t.nx _) t.ex h h'⟩
instance {i : Nat} {f : EF} : Det (wOwn i f) := ⟨fun t h h' => wR_two (fun _ => t.nx _) t.ex h h'⟩
instance {f : EF} : Det (wRet f) := ⟨fun t h h' => wR_two t.rt t.ex h h'⟩
instance : Det wRetN := ⟨fun t h h' => t.rt _ h h'⟩
instance {i : Nat} : Det (wRetV i) := ⟨fun {P Q p ρ} t h h' => by
  unfold wRetV at h h'
  split at h
  · rename_i e; rw [e] at h'; exact t.rt _ h h'
  · exact h.elim⟩
instance {c : CF} {a b : SF} [A : Det a] [Bb : Det b] : Det (wIf c a b) := ⟨fun t h h' => wRB_two (fun v x y => by
  cases v with
  | true => exact A.one t x y
  | false => exact Bb.one t x y) t.ex h h'⟩
instance {f : EF} : Det (wExpr f) := ⟨fun t h h' => wR_two (fun _ => t.nx _) t.ex h h'⟩
instance {i : Nat} {f : EF} : Det (wApp i f) := ⟨fun {P Q p ρ} t h h' => by
  unfold wApp at h h'
  split at h
  · rename_i e; rw [e] at h'; exact wR_two (fun _ x y => t.nx _ x.2 y.2) t.ex h h'
  · exact h.elim⟩
instance {x : Str} : Det (wRaise x) := ⟨fun t h h' => t.ex _ _ h h'⟩
instance : Det wBreak := ⟨fun t h h' => t.bk _ h h'⟩
instance : Det wCont := ⟨fun t h h' => t.ct _ h h'⟩
instance {i : Nat} {w : SF} [A : Det w] : Det (wFrz i w) := ⟨fun {P Q p ρ} t h h' => by
  unfold wFrz at h h'
  split at h
  · rename_i e; rw [e] at h'; exact A.one t h h'
  · rename_i e
    split at h'
    · rename_i e'; exact (e _ e').elim
    · exact A.one t h h'⟩
theorem det_while {c : CF} {b : SF} [A : Det b] {P Q : PD} {p : Prop} (t : Two P Q p) : ∀ (n m : Nat) (ρ : En), wWhileN c b P n ρ → wWhileN c b Q m ρ → p
  | 0, _, _, h, _ => h.elim
  | _ + 1, 0, _, _, h => h.elim
  | n + 1, m + 1, ρ, h, h' => wRB_two (fun v x y => by
      cases v with
      | true => exact A.one (P := { P with nx := wWhileN c b P n, ct := wWhileN c b P n, bk := P.nx }) (Q := { Q with nx := wWhileN c b Q m, ct := wWhileN c b Q m, bk := Q.nx }) ⟨fun ρ => det_while t n m ρ, t.rt, t.nx, fun ρ => det_while t n m ρ, t.ex⟩ x y
      | false => exact t.nx _ x y) t.ex h h'
instance {c : CF} {b : SF} [A : Det b] : Det (wWhile c b) := ⟨fun t ⟨n, h⟩ ⟨m, h'⟩ => det_while t n m _ h h'⟩
instance {f : EF} {g : GF} : Det (wAsg f g) := ⟨fun {P Q p ρ} t h h' => wR_two (fun v x y => by
  revert x y
  generalize g (toD v) ρ = o
  cases o with
  | some ρ' => exact t.nx _
  | none => exact fun x => x.elim) t.ex h h'⟩
instance {i j : Nat} {fa : AF} : Det (wPar i j fa) := ⟨fun t h h' => wRL_two (fun v x y => by
  revert x y
  split
  · exact t.nx _
  · exact fun x => x.elim) t.ex h h'⟩
theorem det_for {g : GF} {b : SF} [A : Det b] {P Q : PD} {p : Prop} (t : Two P Q p) : ∀ (ds : List D) (ρ : En), wForL g b P ds ρ → wForL g b Q ds ρ → p
  | [], ρ, h, h' => t.nx ρ h h'
  | d :: ds, ρ, h, h' => by
    unfold wForL at h h'
    revert h h'
    generalize g d ρ = o
    cases o with
    | some ρ1 => exact fun h h' => A.one (P := { P with nx := wForL g b P ds, ct := wForL g b P ds, bk := P.nx }) (Q := { Q with nx := wForL g b Q ds, ct := wForL g b Q ds, bk := Q.nx }) ⟨fun ρ => det_for t ds ρ, t.rt, t.nx, fun ρ => det_for t ds ρ, t.ex⟩ h h'
    | none => exact fun x => x.elim
instance {it : AF} {g : GF} {b : SF} [A : Det b] : Det (wFor it g b) := ⟨fun t h h' => wRL_two (fun v x y => det_for t v _ x y) t.ex h h'⟩
/-! ### a def's function -/
open Classical in
/-- k parameters, n slots -/
noncomputable def outF (k n : Nat) (w : SF) : List D → Option R := fun ds =>
  if h : ds.length = k ∧ ∃ r, w (PDof r) (startE n ds) then some h.2.choose else none
theorem outF_len {k n : Nat} {w : SF} : ∀ ds r, outF k n w ds = some r → ds.length = k := fun ds r h => by
  unfold outF at h
  split at h
  · rename_i z; exact z.1
  · cases h
theorem outF_does {k n : Nat} {w : SF} : Does n w (outF k n w) := fun ds r h => by
  unfold outF at h
  split at h
  · rename_i z; cases h; exact z.2.choose_spec
  · cases h
theorem PDof_two (r r' : R) : Two (PDof r) (PDof r') (r = r') :=
  ⟨fun _ x y => x.trans y.symm, fun _ x y => x.trans y.symm, fun _ x => x.elim, fun _ x => x.elim, fun _ _ x y => x.trans y.symm⟩
/-- what a def's function answers: run the body -/
theorem outF_ev {k n : Nat} {w : SF} [A : Det w] {ds : List D} {r : R} (hl : ds.length = k) (h : w (PDof r) (startE n ds)) : outF k n w ds = some r := by
  unfold outF
  have z : ds.length = k ∧ ∃ r, w (PDof r) (startE n ds) := ⟨hl, r, h⟩
  rw [dif_pos z]
  exact congrArg some (A.one (PDof_two _ _) z.2.choose_spec h)
/-! ### from what is shown of the outcome to the outcome -/
structure Le (P Q : PD) : Prop where
  nx : ∀ ρ, P.nx ρ → Q.nx ρ
  rt : ∀ v, P.rt v → Q.rt v
  bk : ∀ ρ, P.bk ρ → Q.bk ρ
  ct : ∀ ρ, P.ct ρ → Q.ct ρ
  ex : ∀ x o, P.ex x o → Q.ex x o
def PDno : PD := ⟨fun _ => False, fun _ => False, fun _ => False, fun _ => False, fun _ _ => False⟩
def PDnx (ρ : En) : PD := { PDno with nx := fun ρ' => ρ' = ρ }
def PDrt (v : SV) : PD := { PDno with rt := fun v' => v' = v }
def PDbk (ρ : En) : PD := { PDno with bk := fun ρ' => ρ' = ρ }
def PDct (ρ : En) : PD := { PDno with ct := fun ρ' => ρ' = ρ }
def PDex (x : Str) (o : Option Int) : PD := { PDno with ex := fun x' o' => x' = x ∧ o' = o }
inductive Pick (P : PD) (S : PD → Prop) : Prop
  | nx (ρ : En) : P.nx ρ → S (PDnx ρ) → Pick P S
  | rt (v : SV) : P.rt v → S (PDrt v) → Pick P S
  | bk (ρ : En) : P.bk ρ → S (PDbk ρ) → Pick P S
  | ct (ρ : En) : P.ct ρ → S (PDct ρ) → Pick P S
  | ex (x : Str) (o : Option Int) : P.ex x o → S (PDex x o) → Pick P S
theorem Pick.map {P : PD} {S T : PD → Prop} (h : Pick P S) (f : ∀ Q, S Q → T Q) : Pick P T := by
  cases h with
  | nx ρ a b => exact .nx ρ a (f _ b)
  | rt ρ a b => exact .rt ρ a (f _ b)
  | bk ρ a b => exact .bk ρ a (f _ b)
  | ct ρ a b => exact .ct ρ a (f _ b)
  | ex x o a b => exact .ex x o a (f _ b)
theorem Le.nx1 {ρ : En} {Q : PD} (h : Q.nx ρ) : Le (PDnx ρ) Q := ⟨fun _ e => by rw [show _ = ρ from e]; exact h, fun _ e => e.elim, fun _ e => e.elim, fun _ e => e.elim, fun _ _ e => e.elim⟩
theorem Le.rt1 {v : SV} {Q : PD} (h : Q.rt v) : Le (PDrt v) Q := ⟨fun _ e => e.elim, fun _ e => by rw [show _ = v from e]; exact h, fun _ e => e.elim, fun _ e => e.elim, fun _ _ e => e.elim⟩
theorem Le.bk1 {ρ : En} {Q : PD} (h : Q.bk ρ) : Le (PDbk ρ) Q := ⟨fun _ e => e.elim, fun _ e => e.elim, fun _ e => by rw [show _ = ρ from e]; exact h, fun _ e => e.elim, fun _ _ e => e.elim⟩
theorem Le.ct1 {ρ : En} {Q : PD} (h : Q.ct ρ) : Le (PDct ρ) Q := ⟨fun _ e => e.elim, fun _ e => e.elim, fun _ e => e.elim, fun _ e => by rw [show _ = ρ from e]; exact h, fun _ _ e => e.elim⟩
theorem Le.ex1 {x : Str} {o : Option Int} {Q : PD} (h : Q.ex x o) : Le (PDex x o) Q := ⟨fun _ e => e.elim, fun _ e => e.elim, fun _ e => e.elim, fun _ e => e.elim, fun _ _ e => by rw [e.1, e.2]; exact h⟩
class Out (w : SF) : Prop where
  mono : ∀ {P Q : PD} {ρ : En}, Le P Q → w P ρ → w Q ρ
  pick : ∀ {P : PD} {ρ : En}, w P ρ → Pick P fun Q => w Q ρ
theorem wR_mono {r : Option R} {k k' : SV → Prop} {e e' : Str → Option Int → Prop} (hk : ∀ v, k v → k' v) (he : ∀ x o, e x o → e' x o) (h : wR r k e) : wR r k' e' := by
  cases r with
  | none => exact h
  | some r => cases r with
    | ok sv => exact hk sv h
    | ex x o => exact he x o h
theorem wRB_mono {r : Option RB} {k k' : Bool → Prop} {e e' : Str → Option Int → Prop} (hk : ∀ v, k v → k' v) (he : ∀ x o, e x o → e' x o) (h : wRB r k e) : wRB r k' e' := by
  cases r with
  | none => exact h
  | some r => cases r with
    | ok sv => exact hk sv h
    | ex x o => exact he x o h
theorem wRL_mono {r : Option RL} {k k' : List D → Prop} {e e' : Str → Option Int → Prop} (hk : ∀ v, k v → k' v) (he : ∀ x o, e x o → e' x o) (h : wRL r k e) : wRL r k' e' := by
  cases r with
  | none => exact h
  | some r => cases r with
    | ok sv => exact hk sv h
    | ex x o => exact he x o h
instance : Out wNop := ⟨fun t h => t.nx _ h, fun h => .nx _ h rfl⟩
instance {a b : SF} [A : Out a] [Bb : Out b] : Out (wSeq a b) := by
  refine ⟨fun {P Q ρ} t h => A.mono (P := { P with nx := fun ρ' => b P ρ' }) ⟨fun ρ => Bb.mono t, t.rt, t.bk, t.ct, t.ex⟩ h, fun {P ρ} h => ?_⟩
  cases A.pick (P := { P with nx := fun ρ' => b P ρ' }) h with
  | nx ρ' x y => exact (Bb.pick (show b P ρ' from x)).map fun Q z => A.mono (Le.nx1 z) y
  | rt v x y => exact .rt v x (A.mono (Le.rt1 rfl) y)
  | bk v x y => exact .bk v x (A.mono (Le.bk1 rfl) y)
  | ct v x y => exact .ct v x (A.mono (Le.ct1 rfl) y)
  | ex v o x y => exact .ex v o x (A.mono (Le.ex1 ⟨rfl, rfl⟩) y)
theorem wR_nx {r : Option R} {P : PD} {k : SV → En} (h : wR r (fun v => P.nx (k v)) P.ex) : Pick P fun Q => wR r (fun v => Q.nx (k v)) Q.ex := by
  cases r with
  | none => exact h.elim
  | some r => cases r with
    | ok sv => exact .nx _ h rfl
    | ex x o => exact .ex x o h ⟨rfl, rfl⟩
instance {i : Nat} {f : EF} : Out (wSet i f) := ⟨fun t h => wR_mono (fun _ => t.nx _) t.ex h, fun {P ρ} h => wR_nx (P := P) (k := fun sv => ρ.set i (some (.d (toD sv)))) h⟩
instance {i : Nat} {f : EF} : Out (wOwn i f) := ⟨fun t h => wR_mono (fun _ => t.nx _) t.ex h, fun {P ρ} h => wR_nx (P := P) (k := fun sv => ρ.set i (some sv)) h⟩
instance {f : EF} : Out (wExpr f) := ⟨fun t h => wR_mono (fun _ => t.nx _) t.ex h, fun {P ρ} h => wR_nx (P := P) (k := fun sv => ρ) h⟩
instance {f : EF} : Out (wRet f) := ⟨fun t h => wR_mono t.rt t.ex h, fun {P ρ} h => by
  show Pick P fun Q => wR (f ρ) Q.rt Q.ex
  have h : wR (f ρ) P.rt P.ex := h
  cases e : f ρ with
  | none => rw [e] at h; exact h.elim
  | some r => rw [e] at h; cases r with
    | ok sv => exact .rt _ h rfl
    | ex x o => exact .ex x o h ⟨rfl, rfl⟩⟩
instance : Out wRetN := ⟨fun t h => t.rt _ h, fun h => .rt _ h rfl⟩
instance {i : Nat} : Out (wRetV i) := by
  refine ⟨fun {P Q ρ} t h => ?_, fun {P ρ} h => ?_⟩
  · have h : (match ρ[i]? with | some (some sv) => P.rt sv | _ => False) := h
    show (match ρ[i]? with | some (some sv) => Q.rt sv | _ => False)
    revert h
    generalize ρ[i]? = o
    rcases o with _ | _ | sv
    · exact id
    · exact id
    · exact t.rt _
  · have h : (match ρ[i]? with | some (some sv) => P.rt sv | _ => False) := h
    show Pick P fun Q => (match ρ[i]? with | some (some sv) => Q.rt sv | _ => False)
    revert h
    generalize ρ[i]? = o
    rcases o with _ | _ | sv
    · exact fun h => h.elim
    · exact fun h => h.elim
    · exact fun h => .rt _ h rfl
instance {c : CF} {a b : SF} [A : Out a] [Bb : Out b] : Out (wIf c a b) := by
  refine ⟨fun {P Q ρ} t h => wRB_mono (fun v => ?_) t.ex h, fun {P ρ} h => ?_⟩
  · cases v with
    | true => exact A.mono t
    | false => exact Bb.mono t
  · show Pick P fun Q => wRB (c ρ) (fun t => if t then a Q ρ else b Q ρ) Q.ex
    have h : wRB (c ρ) (fun t => if t then a P ρ else b P ρ) P.ex := h
    cases e : c ρ with
    | none => rw [e] at h; exact h.elim
    | some r => rw [e] at h; cases r with
      | ok v => cases v with
        | true => exact A.pick h
        | false => exact Bb.pick h
      | ex x o => exact .ex x o h ⟨rfl, rfl⟩
instance {i : Nat} {f : EF} : Out (wApp i f) := by
  refine ⟨fun {P Q ρ} t h => ?_, fun {P ρ} h => ?_⟩
  · have h : (match ρ[i]? with | some (some (.own xs)) => wR (f ρ) (fun sv => xs.length ≤ 1000000 ∧ P.nx (ρ.set i (some (.own (xs ++ [toD sv]))))) P.ex | _ => False) := h
    show (match ρ[i]? with | some (some (.own xs)) => wR (f ρ) (fun sv => xs.length ≤ 1000000 ∧ Q.nx (ρ.set i (some (.own (xs ++ [toD sv]))))) Q.ex | _ => False)
    revert h
    generalize ρ[i]? = o
    rcases o with _ | _ | ⟨x⟩ | ⟨xs⟩
    · exact id
    · exact id
    · exact id
    · exact fun h => wR_mono (fun _ x => ⟨x.1, t.nx _ x.2⟩) t.ex h
  · have h : (match ρ[i]? with | some (some (.own xs)) => wR (f ρ) (fun sv => xs.length ≤ 1000000 ∧ P.nx (ρ.set i (some (.own (xs ++ [toD sv]))))) P.ex | _ => False) := h
    show Pick P fun Q => (match ρ[i]? with | some (some (.own xs)) => wR (f ρ) (fun sv => xs.length ≤ 1000000 ∧ Q.nx (ρ.set i (some (.own (xs ++ [toD sv]))))) Q.ex | _ => False)
    revert h
    generalize ρ[i]? = o
    rcases o with _ | _ | ⟨x⟩ | ⟨xs⟩
    · exact fun h => h.elim
    · exact fun h => h.elim
    · exact fun h => h.elim
    · intro h
      have h : wR (f ρ) (fun sv => xs.length ≤ 1000000 ∧ P.nx (ρ.set i (some (.own (xs ++ [toD sv]))))) P.ex := h
      show Pick P fun Q => wR (f ρ) (fun sv => xs.length ≤ 1000000 ∧ Q.nx (ρ.set i (some (.own (xs ++ [toD sv]))))) Q.ex
      cases e2 : f ρ with
      | none => rw [e2] at h; exact h.elim
      | some r => rw [e2] at h; cases r with
        | ok sv => exact .nx _ h.2 ⟨h.1, rfl⟩
        | ex x o => exact .ex x o h ⟨rfl, rfl⟩
instance {x : Str} : Out (wRaise x) := ⟨fun t h => t.ex _ _ h, fun h => .ex _ _ h ⟨rfl, rfl⟩⟩
instance : Out wBreak := ⟨fun t h => t.bk _ h, fun h => .bk _ h rfl⟩
instance : Out wCont := ⟨fun t h => t.ct _ h, fun h => .ct _ h rfl⟩
instance {i : Nat} {w : SF} [A : Out w] : Out (wFrz i w) := by
  refine ⟨fun {P Q ρ} t h => ?_, fun {P ρ} h => ?_⟩
  · unfold wFrz at h ⊢
    revert h
    split <;> exact A.mono t
  · unfold wFrz at h ⊢
    revert h
    split <;> exact A.pick
theorem while_mono {c : CF} {b : SF} [A : Out b] {P Q : PD} (t : Le P Q) : ∀ (n : Nat) (ρ : En), wWhileN c b P n ρ → wWhileN c b Q n ρ
  | 0, _, h => h
  | n + 1, ρ, h => wRB_mono (fun v x => by
      cases v with
      | true => exact A.mono (P := { P with nx := wWhileN c b P n, ct := wWhileN c b P n, bk := P.nx }) ⟨while_mono t n, t.rt, t.nx, while_mono t n, t.ex⟩ x
      | false => exact t.nx _ x) t.ex h
theorem while_pick {c : CF} {b : SF} [A : Out b] {P : PD} : ∀ (n : Nat) (ρ : En), wWhileN c b P n ρ → Pick P fun Q => ∃ m, wWhileN c b Q m ρ
  | 0, _, h => h.elim
  | n + 1, ρ, h => by
    have h : wRB (c ρ) (fun t => if t then b { P with nx := wWhileN c b P n, ct := wWhileN c b P n, bk := P.nx } ρ else P.nx ρ) P.ex := h
    have up : ∀ (Q : PD) (m : Nat) , c ρ = some (.ok true) → b { Q with nx := wWhileN c b Q m, ct := wWhileN c b Q m, bk := Q.nx } ρ → wWhileN c b Q (m + 1) ρ := fun Q m e z => by
      show wRB (c ρ) _ _
      rw [e]
      exact z
    cases e : c ρ with
    | none => rw [e] at h; exact h.elim
    | some r => rw [e] at h; cases r with
      | ex x o => exact .ex x o h ⟨1, by show wRB (c ρ) _ _; rw [e]; exact ⟨rfl, rfl⟩⟩
      | ok v => cases v with
        | false => exact .nx ρ h ⟨1, by show wRB (c ρ) _ _; rw [e]; exact rfl⟩
        | true =>
          have h : b { P with nx := wWhileN c b P n, ct := wWhileN c b P n, bk := P.nx } ρ := h
          cases A.pick h with
          | nx ρ' x y => exact (while_pick n ρ' x).map fun Q ⟨m, z⟩ => ⟨m + 1, up Q m e (A.mono (Le.nx1 z) y)⟩
          | ct ρ' x y => exact (while_pick n ρ' x).map fun Q ⟨m, z⟩ => ⟨m + 1, up Q m e (A.mono (Le.ct1 z) y)⟩
          | bk ρ' x y => exact .nx ρ' x ⟨1, up _ 0 e (A.mono (Le.bk1 rfl) y)⟩
          | rt v x y => exact .rt v x ⟨1, up _ 0 e (A.mono (Le.rt1 rfl) y)⟩
          | ex v o x y => exact .ex v o x ⟨1, up _ 0 e (A.mono (Le.ex1 ⟨rfl, rfl⟩) y)⟩
instance {c : CF} {b : SF} [A : Out b] : Out (wWhile c b) := ⟨fun t ⟨n, h⟩ => ⟨n, while_mono t n _ h⟩, fun ⟨n, h⟩ => while_pick n _ h⟩
instance {f : EF} {g : GF} : Out (wAsg f g) := by
  refine ⟨fun {P Q ρ} t h => wR_mono (fun v x => ?_) t.ex h, fun {P ρ} h => ?_⟩
  · revert x
    generalize g (toD v) ρ = o
    cases o with
    | some ρ' => exact t.nx _
    | none => exact id
  · show Pick P fun Q => wR (f ρ) (fun sv => match g (toD sv) ρ with
      | some ρ' => Q.nx ρ'
      | none => False) Q.ex
    have h : wR (f ρ) (fun sv => match g (toD sv) ρ with
      | some ρ' => P.nx ρ'
      | none => False) P.ex := h
    cases e : f ρ with
    | none => rw [e] at h; exact h.elim
    | some r => rw [e] at h; cases r with
      | ex x o => exact .ex x o h ⟨rfl, rfl⟩
      | ok v =>
        have h : (match g (toD v) ρ with
          | some ρ' => P.nx ρ'
          | none => False) := h
        show Pick P fun Q => (match g (toD v) ρ with
          | some ρ' => Q.nx ρ'
          | none => False)
        revert h
        generalize g (toD v) ρ = o
        cases o with
        | some ρ' => exact fun h => .nx _ h rfl
        | none => exact fun h => h.elim
instance {i j : Nat} {fa : AF} : Out (wPar i j fa) := by
  refine ⟨fun {P Q ρ} t h => wRL_mono (fun v x => ?_) t.ex h, fun {P ρ} h => ?_⟩
  · revert x
    split
    · exact t.nx _
    · exact id
  · have h : wRL (fa ρ) (fun ds => match ds with
      | [x, y] => P.nx ((ρ.set i (some (.d x))).set j (some (.d y)))
      | _ => False) P.ex := h
    show Pick P fun Q => wRL (fa ρ) (fun ds => match ds with
      | [x, y] => Q.nx ((ρ.set i (some (.d x))).set j (some (.d y)))
      | _ => False) Q.ex
    cases e : fa ρ with
    | none => rw [e] at h; exact h.elim
    | some r => rw [e] at h; cases r with
      | ex x o => exact .ex x o h ⟨rfl, rfl⟩
      | ok v => match v, h with
        | [x, y], h => exact .nx _ h rfl
theorem for_mono {g : GF} {b : SF} [A : Out b] {P Q : PD} (t : Le P Q) : ∀ (ds : List D) (ρ : En), wForL g b P ds ρ → wForL g b Q ds ρ
  | [], ρ, h => t.nx ρ h
  | d :: ds, ρ, h => by
    unfold wForL at h ⊢
    revert h
    generalize g d ρ = o
    cases o with
    | some ρ1 => exact fun h => A.mono (P := { P with nx := wForL g b P ds, ct := wForL g b P ds, bk := P.nx }) ⟨for_mono t ds, t.rt, t.nx, for_mono t ds, t.ex⟩ h
    | none => exact id
theorem for_pick {g : GF} {b : SF} [A : Out b] {P : PD} : ∀ (ds : List D) (ρ : En), wForL g b P ds ρ → Pick P fun Q => wForL g b Q ds ρ
  | [], ρ, h => .nx ρ h rfl
  | d :: ds, ρ, h => by
    unfold wForL at h ⊢
    revert h
    generalize g d ρ = o
    cases o with
    | none => exact fun h => h.elim
    | some ρ1 =>
      intro h
      have h : b { P with nx := wForL g b P ds, ct := wForL g b P ds, bk := P.nx } ρ1 := h
      cases A.pick h with
      | nx ρ' x y => exact (for_pick ds ρ' x).map fun Q z => A.mono (Le.nx1 z) y
      | ct ρ' x y => exact (for_pick ds ρ' x).map fun Q z => A.mono (Le.ct1 z) y
      | bk ρ' x y => exact .nx ρ' x (A.mono (Le.bk1 rfl) y)
      | rt v x y => exact .rt v x (A.mono (Le.rt1 rfl) y)
      | ex v o x y => exact .ex v o x (A.mono (Le.ex1 ⟨rfl, rfl⟩) y)
instance {it : AF} {g : GF} {b : SF} [A : Out b] : Out (wFor it g b) := by
  refine ⟨fun {P Q ρ} t h => wRL_mono (fun v => for_mono t v _) t.ex h, fun {P ρ} h => ?_⟩
  show Pick P fun Q => wRL (it ρ) (fun ds => wForL g b Q ds ρ) Q.ex
  have h : wRL (it ρ) (fun ds => wForL g b P ds ρ) P.ex := h
  cases e : it ρ with
  | none => rw [e] at h; exact h.elim
  | some r => rw [e] at h; cases r with
    | ex x o => exact .ex x o h ⟨rfl, rfl⟩
    | ok v => exact for_pick v ρ h
/-- a def's answer has Φ -/
def PDp (Φ : R → Prop) : PD := { nx := fun _ => Φ (.ok (.d .non)), rt := fun sv => Φ (.ok sv), bk := fun _ => False, ct := fun _ => False, ex := fun x p => Φ (.ex x p) }
theorem outF_post {k n : Nat} {w : SF} [Det w] [A : Out w] {ds : List D} {Φ : R → Prop} (hl : ds.length = k) (h : w (PDp Φ) (startE n ds)) : ∃ r, outF k n w ds = some r ∧ Φ r := by
  cases A.pick h with
  | nx ρ x y => exact ⟨_, outF_ev (r := .ok (.d .non)) hl (A.mono (Le.nx1 rfl) y), x⟩
  | rt v x y => exact ⟨_, outF_ev (r := .ok v) hl (A.mono (Le.rt1 rfl) y), x⟩
  | bk _ x _ => exact x.elim
  | ct _ x _ => exact x.elim
  | ex v o x y => exact ⟨_, outF_ev (r := .ex v o) hl (A.mono (Le.ex1 rfl) y), x⟩
theorem postI {k n : Nat} {w : SF} [Det w] [A : Out w] {ds : List D} {Q : Int → Prop} (hl : ds.length = k) (h : w (PDp fun r => ∃ x, Q x ∧ r = .ok (.d (.int x))) (startE n ds)) : ∃ x, Q x ∧ outF k n w ds = okI x := by
  obtain ⟨r, e, x, hx, rfl⟩ := outF_post hl h
  exact ⟨x, hx, e⟩
theorem postD {k n : Nat} {w : SF} [Det w] [A : Out w] {ds : List D} {Q : D → Prop} (hl : ds.length = k) (h : w (PDp fun r => ∃ x, Q x ∧ r = .ok (.d x)) (startE n ds)) : ∃ x, Q x ∧ outF k n w ds = okD x := by
  obtain ⟨r, e, x, hx, rfl⟩ := outF_post hl h
  exact ⟨x, hx, e⟩
/-- an if whose ends have I in common -/
theorem q_ifJ {P : PD} {ρ : En} {c : CF} {a b w : SF} {t : Bool} (I : En → Prop) (h : c ρ = some (.ok t)) (k : ∀ ρ', I ρ' → w P ρ') (k1 : ∀ K : En → Prop, (∀ ρ', I ρ' → K ρ') → t = true → a { P with nx := K } ρ) (k2 : ∀ K : En → Prop, (∀ ρ', I ρ' → K ρ') → t = false → b { P with nx := K } ρ) : wSeq (wIf c a b) w P ρ :=
  q_if h (k1 _ k) (k2 _ k)
/-- an if without else, which leaves the body -/
theorem q_ifN {P : PD} {ρ : En} {c : CF} {a w : SF} {t : Bool} (h : c ρ = some (.ok t)) (k1 : t = true → a { P with nx := fun ρ' => w P ρ' } ρ) (k2 : t = false → w P ρ) : wSeq (wIf c a wNop) w P ρ :=
  q_if h k1 k2
/-- a for loop that keeps I, and what follows it -/
theorem q_forL {P : PD} {ρ : En} {it : AF} {g : GF} {b w : SF} {ds : List D} (I : En → Prop) (h : it ρ = some (.ok ds)) (h1 : I ρ) (h2 : ∀ ρ, I ρ → w P ρ) (h3 : ∀ d ρ (K : En → Prop), d ∈ ds → I ρ → (∀ ρ', I ρ' → K ρ') → ∃ ρ1, g d ρ = some ρ1 ∧ b { P with nx := K, ct := K, bk := fun ρ' => w P ρ' } ρ1) : wSeq (wFor it g b) w P ρ :=
  q_for h (forL I ds ρ h2 h3 h1)
theorem q_forN {P : PD} {ρ : En} {it : AF} {g : GF} {b w : SF} {ds : List D} (I : Nat → En → Prop) (h : it ρ = some (.ok ds)) (h1 : I 0 ρ) (h2 : ∀ ρ, I ds.length ρ → w P ρ) (h3 : ∀ (j : Nat) d ρ (K : En → Prop), ds[j]? = some d → I j ρ → (∀ ρ', I (j + 1) ρ' → K ρ') → ∃ ρ1, g d ρ = some ρ1 ∧ b { P with nx := K, ct := K, bk := fun ρ' => w P ρ' } ρ1) : wSeq (wFor it g b) w P ρ :=
  q_for h (forN I ds 0 ρ (fun ρ z => h2 ρ (by rw [Nat.zero_add] at z; exact z)) (fun j d ρ K hd hi hk => h3 j d ρ K hd (by rw [Nat.zero_add] at hi; exact hi) (fun ρ' z => hk ρ' (by rw [Nat.zero_add]; exact z))) h1)
/-- .. at the end of a body -/
theorem z_forL {P : PD} {ρ : En} {it : AF} {g : GF} {b : SF} {ds : List D} (I : En → Prop) (h : it ρ = some (.ok ds)) (h1 : I ρ) (h2 : ∀ ρ, I ρ → P.nx ρ) (h3 : ∀ d ρ (K : En → Prop), d ∈ ds → I ρ → (∀ ρ', I ρ' → K ρ') → ∃ ρ1, g d ρ = some ρ1 ∧ b { P with nx := K, ct := K, bk := P.nx } ρ1) : wFor it g b P ρ :=
  z_for h (forL I ds ρ h2 h3 h1)
end PT
/-! PM: fractions as data; sizes. -/
namespace PT
open PySem (Str)
def fr (q : Rat) : D := .tup [.int q.num, .int q.den]
theorem ix_fr0 (q : Rat) : ixR (fr q) (.int 0) = okD (.int q.num) := rfl
theorem ix_fr1 (q : Rat) : ixR (fr q) (.int 1) = okD (.int q.den) := rfl
theorem fr_inj {q r : Rat} (h : fr q = fr r) : q = r := by
  unfold fr at h
  injection h with h
  injection h with h1 h
  injection h with h2 _
  injection h1 with h1
  injection h2 with h2
  exact Rat.ext h1 (by omega)
theorem eqD_pair (a b c d : Int) : eqD (.tup [.int a, .int b]) (.tup [.int c, .int d]) = (a == c && b == d) := by
  simp [eqD, toP, toPs, PySem.PyData.eqv, PySem.PyData.eqvAll]
theorem eqD_fr (q r : Rat) : eqD (fr q) (fr r) = decide (q = r) := by
  unfold fr
  rw [eqD_pair, Bool.eq_iff_iff]
  simp only [Bool.and_eq_true, beq_iff_eq, decide_eq_true_eq]
  constructor
  · rintro ⟨h1, h2⟩; exact Rat.ext h1 (by omega)
  · rintro rfl; exact ⟨rfl, rfl⟩
theorem fine_fr (n : Nat) (q : Rat) : fine (n + 1) (fr q) = true := by
  unfold fr
  rw [fine_tup]
  simp [fine_int]
theorem eqR_fr (q r : Rat) : eqR (fr q) (fr r) = okB (decide (q = r)) := by
  simp [eqR, fine_fr, eqD_fr]
theorem neR_fr (q r : Rat) : neR (fr q) (fr r) = okB (!decide (q = r)) := by
  simp [neR, fine_fr, eqD_fr]
theorem eqR_pair (a b c d : Int) : eqR (.tup [.int a, .int b]) (.tup [.int c, .int d]) = okB (a == c && b == d) := by
  simp [eqR, fine_tup, fine_int, eqD_pair]
/-- a table -/
structure Tb where
  a : Rat
  b : Rat
  c : Rat
  d : Rat
deriving DecidableEq
def tb (t : Tb) : D := .tup [fr t.a, fr t.b, fr t.c, fr t.d]
theorem ix_tb0 (t : Tb) : ixR (tb t) (.int 0) = okD (fr t.a) := rfl
theorem ix_tb1 (t : Tb) : ixR (tb t) (.int 1) = okD (fr t.b) := rfl
theorem ix_tb2 (t : Tb) : ixR (tb t) (.int 2) = okD (fr t.c) := rfl
theorem ix_tb3 (t : Tb) : ixR (tb t) (.int 3) = okD (fr t.d) := rfl
theorem eqD_tup4 (a b c d a' b' c' d' : D) : eqD (.tup [a, b, c, d]) (.tup [a', b', c', d']) = (eqD a a' && (eqD b b' && (eqD c c' && eqD d d'))) := by
  simp [eqD, toP, toPs, PySem.PyData.eqv, PySem.PyData.eqvAll]
theorem eqD_tb (s t : Tb) : eqD (tb s) (tb t) = decide (s = t) := by
  unfold tb
  rw [eqD_tup4, eqD_fr, eqD_fr, eqD_fr, eqD_fr, Bool.eq_iff_iff]
  cases s; cases t
  simp
theorem fine_tb (n : Nat) (t : Tb) : fine (n + 2) (tb t) = true := by
  unfold tb
  rw [fine_tup]
  simp [fine_fr]
theorem eqR_tb (s t : Tb) : eqR (tb s) (tb t) = okB (decide (s = t)) := by
  simp [eqR, fine_tb, eqD_tb]
theorem neR_tb (s t : Tb) : neR (tb s) (tb t) = okB (!decide (s = t)) := by
  simp [neR, fine_tb, eqD_tb]
theorem tb_mk (a b c d : Rat) : D.tup [fr a, fr b, fr c, fr d] = tb ⟨a, b, c, d⟩ := rfl
/-! ### lowest terms -/
/-- t / b in lowest terms -/
theorem low_num {t b : Int} (hb : b ≠ 0) : t.fdiv (if b < 0 then -(Int.gcd t b : Int) else (Int.gcd t b : Int)) = (Rat.divInt t b).num := by
  have hg : (Int.gcd t b : Int) ∣ t := Int.gcd_dvd_left ..
  rw [Rat.num_divInt, Int.gcd_comm b t]
  split
  · rename_i h
    rw [Int.sign_eq_neg_one_of_neg h, Int.fdiv_eq_ediv_of_dvd (Int.neg_dvd.mpr hg), Int.ediv_neg, Int.neg_mul, Int.one_mul, Int.neg_ediv_of_dvd hg]
  · rename_i h
    rw [Int.sign_eq_one_of_pos (by omega), Int.fdiv_eq_ediv_of_dvd hg, Int.one_mul]
theorem low_den {t b : Int} (hb : b ≠ 0) : b.fdiv (if b < 0 then -(Int.gcd t b : Int) else (Int.gcd t b : Int)) = ((Rat.divInt t b).den : Int) := by
  have hg : (Int.gcd t b : Int) ∣ b := Int.gcd_dvd_right ..
  rw [Rat.den_divInt, if_neg hb, Int.gcd_comm b t]
  have e : ((b.natAbs / Int.gcd t b : Nat) : Int) = (b.natAbs : Int) / (Int.gcd t b : Int) := Int.natCast_ediv ..
  rw [e]
  split
  · rename_i h
    rw [Int.fdiv_eq_ediv_of_dvd (Int.neg_dvd.mpr hg), Int.ediv_neg, ← Int.neg_ediv_of_dvd hg]
    congr 1
    omega
  · rename_i h
    rw [Int.fdiv_eq_ediv_of_dvd hg]
    congr 1
    omega
theorem fr_low {t b : Int} (hb : b ≠ 0) : D.tup [.int (t.fdiv (if b < 0 then -(Int.gcd t b : Int) else (Int.gcd t b : Int))), .int (b.fdiv (if b < 0 then -(Int.gcd t b : Int) else (Int.gcd t b : Int)))] = fr (Rat.divInt t b) := by
  rw [low_num hb, low_den hb]; rfl
/-! ### sizes -/
instance {n : Nat} {x : Int} : Decidable (B n x) := inferInstanceAs (Decidable (x.natAbs < 2 ^ n))
class Qd (q : Rat) (n : outParam Nat) : Prop where
  num : B n q.num
  den : B n (q.den : Int)
instance {q : Rat} {n : Nat} [h : Qd q n] : Bd q.num n := ⟨h.num⟩
instance {q : Rat} {n : Nat} [h : Qd q n] : Bd (q.den : Int) n := ⟨h.den⟩
theorem B.divInt {t b : Int} {n : Nat} (ht : B n t) (hb : B n b) (h0 : b ≠ 0) : Qd (Rat.divInt t b) n := by
  refine ⟨?_, ?_⟩
  · refine ht.le ?_
    rw [← low_num h0, Int.fdiv_eq_ediv_of_dvd]
    · exact ediv_abs _ _
    · have hg : (Int.gcd t b : Int) ∣ t := Int.gcd_dvd_left ..
      split
      · exact Int.neg_dvd.mpr hg
      · exact hg
  · refine hb.le ?_
    rw [← low_den h0, Int.fdiv_eq_ediv_of_dvd]
    · exact ediv_abs _ _
    · have hg : (Int.gcd t b : Int) ∣ b := Int.gcd_dvd_right ..
      split
      · exact Int.neg_dvd.mpr hg
      · exact hg
theorem den_ne (q : Rat) : (q.den : Int) ≠ 0 := by have := q.den_nz; omega
theorem den_pos (q : Rat) : 0 < (q.den : Int) := by have := q.den_pos; omega
theorem add_low (q r : Rat) : Rat.divInt (q.num * r.den + r.num * q.den) (q.den * r.den) = q + r := by
  rw [Rat.add_def', ← Rat.divInt_ofNat]; norm_cast
theorem sub_low (q r : Rat) : Rat.divInt (q.num * r.den - r.num * q.den) (q.den * r.den) = q - r := by
  rw [Rat.sub_def', ← Rat.divInt_ofNat]; norm_cast
theorem mul_low (q r : Rat) : Rat.divInt (q.num * r.num) (q.den * r.den) = q * r := by
  rw [Rat.mul_def', ← Rat.divInt_ofNat]; norm_cast
theorem div_low (q r : Rat) : Rat.divInt (q.num * r.den) (q.den * r.num) = q / r := by
  rw [Rat.div_def, ← Rat.divInt_mul_divInt, Rat.num_divInt_den, ← Rat.inv_divInt, Rat.num_divInt_den]
theorem int_low (t b : Int) : Rat.divInt t b = (t : Rat) / (b : Rat) := Rat.divInt_eq_div t b
instance {q r : Rat} {m n : Nat} [h : Qd q m] [g : Qd r n] : Qd (q + r) (m + n + 1) := by
  rw [← add_low]
  exact B.divInt (Bd.b (n := max (m + n) (n + m) + 1) |>.mono (by omega)) (Bd.b (n := m + n) |>.mono (by omega)) (Int.mul_ne_zero (den_ne q) (den_ne r))
instance {q r : Rat} {m n : Nat} [h : Qd q m] [g : Qd r n] : Qd (q - r) (m + n + 1) := by
  rw [← sub_low]
  exact B.divInt (Bd.b (n := max (m + n) (n + m) + 1) |>.mono (by omega)) (Bd.b (n := m + n) |>.mono (by omega)) (Int.mul_ne_zero (den_ne q) (den_ne r))
instance {q r : Rat} {m n : Nat} [h : Qd q m] [g : Qd r n] : Qd (q * r) (m + n) := by
  rw [← mul_low]
  exact B.divInt (Bd.b (n := m + n)) (Bd.b (n := m + n)) (Int.mul_ne_zero (den_ne q) (den_ne r))
instance {q : Rat} {m : Nat} [h : Qd q m] : Qd (-q) m := ⟨by rw [Rat.neg_num]; exact h.num.neg, by rw [Rat.neg_den]; exact h.den⟩
theorem Qd.inv {q : Rat} {m : Nat} (h : Qd q m) : Qd q⁻¹ m := by
  by_cases h0 : q = 0
  · rw [h0, Rat.inv_zero, ← h0]; exact h
  · have e : q⁻¹ = Rat.divInt q.den q.num := by
      rw [← Rat.inv_divInt, Rat.num_divInt_den]
    rw [e]
    exact B.divInt h.den h.num (fun z => h0 (Rat.num_eq_zero.mp z))
instance {q : Rat} {m : Nat} [h : Qd q m] : Qd q⁻¹ m := h.inv
instance {q r : Rat} {m n : Nat} [h : Qd q m] [g : Qd r n] : Qd (q / r) (m + n) := by
  rw [Rat.div_def]; infer_instance
theorem Qd.mono {q : Rat} {m n : Nat} (h : Qd q m) (l : m ≤ n) : Qd q n := ⟨h.num.mono l, h.den.mono l⟩
instance : Qd (0 : Rat) 1 := ⟨by decide, by decide⟩
instance : Qd (1 : Rat) 1 := ⟨by decide, by decide⟩
instance : Qd (2 : Rat) 2 := ⟨by decide, by decide⟩
class Td (t : Tb) (n : outParam Nat) : Prop where
  a : Qd t.a n
  b : Qd t.b n
  c : Qd t.c n
  d : Qd t.d n
instance {t : Tb} {n : Nat} [h : Td t n] : Qd t.a n := h.a
instance {t : Tb} {n : Nat} [h : Td t n] : Qd t.b n := h.b
instance {t : Tb} {n : Nat} [h : Td t n] : Qd t.c n := h.c
instance {t : Tb} {n : Nat} [h : Td t n] : Qd t.d n := h.d
theorem Td.mk' {a b c d : Rat} {k l m n o : Nat} (h1 : Qd a k) (h2 : Qd b l) (h3 : Qd c m) (h4 : Qd d n) (l1 : k ≤ o) (l2 : l ≤ o) (l3 : m ≤ o) (l4 : n ≤ o) : Td ⟨a, b, c, d⟩ o := ⟨h1.mono l1, h2.mono l2, h3.mono l3, h4.mono l4⟩
theorem Td.mono {t : Tb} {m n : Nat} (h : Td t m) (l : m ≤ n) : Td t n := ⟨h.a.mono l, h.b.mono l, h.c.mono l, h.d.mono l⟩
theorem fr_num {q : Rat} : q.num = 0 ↔ q = 0 := Rat.num_eq_zero
theorem items_tup (ds : List D) : itemsOf (.tup ds) = some (.ok ds) := rfl
theorem items_lst (ds : List D) : itemsOf (.lst ds) = some (.ok ds) := rfl
theorem items_scr (ds : List D) : itemsOf (.scr ds) = some (.ok ds) := rfl
theorem len_tup (ds : List D) : lenR [.tup ds] = okI ds.length := rfl
theorem len_lst (ds : List D) : lenR [.lst ds] = okI ds.length := rfl
theorem len_scr (ds : List D) : lenR [.scr ds] = okI ds.length := rfl
theorem tuple_lst (ds : List D) : tupleR [.lst ds] = okD (.tup ds) := rfl
theorem len_fr (q : Rat) : lenR [fr q] = okI 2 := rfl
theorem len_tb (t : Tb) : lenR [tb t] = okI 4 := rfl
theorem isiT_fr (q : Rat) : isiR [fr q, .raw (.ty "tuple")] = okB true := rfl
theorem isiT_tb (t : Tb) : isiR [tb t, .raw (.ty "tuple")] = okB true := rfl
theorem isiI_int (i : Int) : isiR [.int i, .raw (.ty "int")] = okB true := rfl
theorem isiB_int (i : Int) : isiR [.int i, .raw (.ty "bool")] = okB false := rfl
theorem isiB_bl (i : Bool) : isiR [.bl i, .raw (.ty "bool")] = okB true := rfl
theorem isiL_lst (ds : List D) : isiR [.lst ds, .raw (.ty "list")] = okB true := rfl
theorem isiT_tup (ds : List D) : isiR [.tup ds, .raw (.ty "tuple")] = okB true := rfl
theorem gTup_tup (gs : GLF) (ds : List D) (ρ : En) : gTup gs (.tup ds) ρ = gs ds ρ := rfl
theorem gTup_tb (gs : GLF) (t : Tb) (ρ : En) : gTup gs (tb t) ρ = gs [fr t.a, fr t.b, fr t.c, fr t.d] ρ := rfl
theorem gTup_fr (gs : GLF) (q : Rat) (ρ : En) : gTup gs (fr q) ρ = gs [.int q.num, .int q.den] ρ := rfl
theorem gLs_lst (gs : GLF) (ds : List D) (ρ : En) : gLs gs (.lst ds) ρ = gs ds ρ := rfl
theorem items_tb (t : Tb) : itemsOf (tb t) = some (.ok [fr t.a, fr t.b, fr t.c, fr t.d]) := rfl
theorem items_fr (q : Rat) : itemsOf (fr q) = some (.ok [.int q.num, .int q.den]) := rfl
theorem zip_tb (s t : Tb) : zipL [tb s, tb t] = some (.ok [.tup [fr s.a, fr t.a], .tup [fr s.b, fr t.b], .tup [fr s.c, fr t.c], .tup [fr s.d, fr t.d]]) := rfl
theorem range1_4 : range1L [.int 4] = some (.ok [.int 0, .int 1, .int 2, .int 3]) := by
  have e : r62 4 = true := by decide +kernel
  show (if r62 4 = true then _ else none) = _
  rw [if_pos e]; rfl
theorem ten60 : (0 : Int) < 10 ^ 60 := by decide
theorem all4 (a b c d : Bool) : allR [.lst [.bl a, .bl b, .bl c, .bl d]] = okB (a && (b && (c && (d && true)))) := rfl
theorem addD_tup2 (a b c d : D) : addD (.tup [a, b]) (.tup [c, d]) = okD (.tup [a, b, c, d]) := by
  simp [addD]
theorem addD_lst2 (a b c d : D) : addD (.lst [a, b]) (.lst [c, d]) = some (.ok (.own [a, b, c, d])) := by
  simp [addD]
theorem Tb.eq_iff (s t : Tb) : s = t ↔ s.a = t.a ∧ s.b = t.b ∧ s.c = t.c ∧ s.d = t.d := by
  cases s; cases t; simp
theorem postQ {k n : Nat} {w : SF} [Det w] [A : Out w] {ds : List D} {Q : Rat → Prop} (hl : ds.length = k) (h : w (PDp fun r => ∃ x, Q x ∧ r = .ok (.d (fr x))) (startE n ds)) : ∃ x, Q x ∧ outF k n w ds = okD (fr x) := by
  obtain ⟨r, e, x, hx, rfl⟩ := outF_post hl h
  exact ⟨x, hx, e⟩
theorem postT {k n : Nat} {w : SF} [Det w] [A : Out w] {ds : List D} {Q : Tb → Prop} (hl : ds.length = k) (h : w (PDp fun r => ∃ x, Q x ∧ r = .ok (.d (tb x))) (startE n ds)) : ∃ x, Q x ∧ outF k n w ds = okD (tb x) := by
  obtain ⟨r, e, x, hx, rfl⟩ := outF_post hl h
  exact ⟨x, hx, e⟩
theorem fr_int (x : Int) : D.tup [.int x, .int 1] = fr (x : Rat) := rfl
theorem Qd.int {x : Int} {n : Nat} (h : B n x) (l : 1 ≤ n) : Qd (x : Rat) n := ⟨h, B.mono (m := 1) (show B 1 1 by decide) l⟩
theorem map_get {ns : List Int} {k : Nat} (h : k < ns.length) : (ns.map D.int)[k]? = some (.int (ns.getD k 0)) := by
  rw [List.getElem?_map, List.getElem?_eq_getElem h, List.getD_eq_getElem?_getD, List.getElem?_eq_getElem h]
  rfl
theorem range1_ev {j : Int} (h : 0 ≤ j) (h2 : j < 1000000) : range1L [.int j] = some (.ok (rangeD 0 j.toNat)) := by
  show (if r62 j = true then _ else none) = _
  rw [if_pos (r62_iff.mpr (by omega))]
theorem range2_ev {i j : Int} (h : -1000000 ≤ i) (h2 : j < 1000000) (h3 : i < 1000000) (h4 : -1000000 ≤ j) : range2L [.int i, .int j] = some (.ok (rangeD i (j - i).toNat)) := by
  show (if (r62 i && r62 j) = true then _ else none) = _
  rw [r62_iff.mpr (by omega), r62_iff.mpr (by omega)]; rfl
/-- the number of turns: 1 + min(c, len) // 4 -/
theorem turns {c : Int} {n : Nat} (hc : 0 ≤ c) (hc2 : c ≤ 63) (hn : n ≤ 63) : ∃ m : Nat, m ≤ 16 ∧ 4 * ((m : Int) - 1) ≤ n ∧ 4 * ((m : Int) - 1) ≤ c ∧ (1 + (if (n : Int) < c then (n : Int) else c) / 4) = (m : Int) := by
  refine ⟨(1 + (if (n : Int) < c then (n : Int) else c) / 4).toNat, ?_, ?_, ?_, ?_⟩ <;> (split <;> omega)
/-- an item by any index that there is -/
theorem atI_any {xs : List D} {i : Int} (h : -(xs.length : Int) ≤ i) (h2 : i < xs.length) : ∃ d, d ∈ xs ∧ L2.atI xs i = some d := by
  unfold L2.atI L2.ixN
  by_cases h0 : 0 ≤ i
  · have hl : i.toNat < xs.length := by omega
    refine ⟨xs[i.toNat], List.getElem_mem hl, ?_⟩
    rw [if_pos h0, if_pos h2]
    exact List.getElem?_eq_getElem hl
  · have hl : (i + xs.length).toNat < xs.length := by omega
    refine ⟨xs[(i + xs.length).toNat], List.getElem_mem hl, ?_⟩
    rw [if_neg h0, if_pos h]
    exact List.getElem?_eq_getElem hl
theorem ix_any {xs : List D} {i : Int} (h : -(xs.length : Int) ≤ i) (h2 : i < xs.length) : ∃ d, d ∈ xs ∧ ixR (.lst xs) (.int i) = okD d := by
  obtain ⟨d, m, e⟩ := atI_any h h2
  refine ⟨d, m, ?_⟩
  show (match L2.atI xs i with
    | some x => okD x
    | none => none) = _
  rw [e]
theorem z_app {P : PD} {ρ : En} {i : Nat} {f : EF} {xs : List D} {v : D} (h0 : ρ[i]? = some (some (.own xs))) (h : f ρ = some (.ok (.d v))) (hl : xs.length ≤ 1000000) (k : P.nx (ρ.set i (some (.own (xs ++ [v]))))) : wApp i f P ρ := by
  unfold wApp
  rw [h0]
  show wR (f ρ) _ _
  rw [h]
  exact ⟨hl, k⟩
theorem q_app {P : PD} {ρ : En} {i : Nat} {f : EF} {w : SF} {xs : List D} {v : D} (h0 : ρ[i]? = some (some (.own xs))) (h : f ρ = some (.ok (.d v))) (hl : xs.length ≤ 1000000) (k : w P (ρ.set i (some (.own (xs ++ [v]))))) : wSeq (wApp i f) w P ρ := z_app h0 h hl k
theorem q_own {P : PD} {ρ : En} {i : Nat} {f : EF} {w : SF} {sv : SV} (h : f ρ = some (.ok sv)) (k : w P (ρ.set i (some sv))) : wSeq (wOwn i f) w P ρ := by
  show wR (f ρ) _ _
  rw [h]
  exact k
theorem z_frz {P : PD} {ρ : En} {i : Nat} {w : SF} {sv : SV} (h : ρ[i]? = some (some sv)) (k : w P (ρ.set i (some (.d (toD sv))))) : wFrz i w P ρ := by
  unfold wFrz
  rw [h]
  exact k
theorem get_rangeD {lo : Int} {n j : Nat} {d : D} (h : (rangeD lo n)[j]? = some d) : j < n ∧ d = .int (lo + j) := by
  unfold rangeD at h
  rw [List.getElem?_map] at h
  obtain ⟨k, h, e⟩ := Option.map_eq_some_iff.mp h
  obtain ⟨h1, h2⟩ := List.getElem?_eq_some_iff.mp h
  rw [List.length_range] at h1
  simp only [List.getElem_range] at h2
  subst h2
  exact ⟨h1, e.symm⟩
theorem q_setL {P : PD} {ρ : En} {i : Nat} {f : EF} {w : SF} {ds : List D} (h : f ρ = some (.ok (.own ds))) (k : w P (ρ.set i (some (.d (.lst ds))))) : wSeq (wSet i f) w P ρ := by
  show wR (f ρ) _ _
  rw [h]
  exact k
theorem z_setL {P : PD} {ρ : En} {i : Nat} {f : EF} {ds : List D} (h : f ρ = some (.ok (.own ds))) (k : P.nx (ρ.set i (some (.d (.lst ds))))) : wSet i f P ρ := by
  show wR (f ρ) _ _
  rw [h]
  exact k
theorem range1_any {j : Int} (h : -1000000 < j) (h2 : j < 1000000) : range1L [.int j] = some (.ok (rangeD 0 j.toNat)) := by
  show (if r62 j = true then _ else none) = _
  rw [if_pos (r62_iff.mpr (by omega))]
end PT
/-! PM: fractions of the package: what their functions answer. -/
namespace PT
open PySem (Str)
abbrev k_NOUGHT : D := .tup [.int 0, .int 1]
abbrev k_ONE : D := .tup [.int 1, .int 1]
theorem fr_0 : D.tup [.int 0, .int 1] = fr 0 := rfl
theorem fr_1 : D.tup [.int 1, .int 1] = fr 1 := rfl
theorem fr_2 : D.tup [.int 2, .int 1] = fr 2 := rfl
/-- shared(one, other): slots one, other -/
def w_shared : SF := wSeq (wSet 0 (eCall absR (aCons (eVar 0) (aNil)))) (wSeq (wSet 1 (eCall absR (aCons (eVar 1) (aNil)))) (wSeq (wWhile (cT (e2 neR (eVar 1) (eC (.int 0)))) (wPar 0 1 (aCons (eVar 1) (aCons (e2 modD (eVar 0) (eVar 1)) (aNil))))) (wRet (eVar 0))))
instance : Det w_shared := by unfold w_shared; infer_instance
instance : Out w_shared := by unfold w_shared; infer_instance
noncomputable def f_shared : List D → Option R := outF 2 2 w_shared
theorem len_shared : ∀ ds r, f_shared ds = some r → ds.length = 2 := outF_len
theorem does_shared : Does 2 w_shared f_shared := outF_does
/-- fraction(top, bottom): slots top, bottom, by -/
def w_fraction : SF := wSeq (wIf (cT (e2 eqR (eVar 1) (eC (.int 0)))) (wRaise "NoFraction") (wNop)) (wSeq (wSet 2 (eCall f_shared (aCons (eVar 0) (aCons (eVar 1) (aNil))))) (wSeq (wIf (cT (e2 ltR (eVar 1) (eC (.int 0)))) (wSet 2 (e1 negD (eVar 2))) (wNop)) (wRet (eTup (aCons (e2 fdivD (eVar 0) (eVar 2)) (aCons (e2 fdivD (eVar 1) (eVar 2)) (aNil)))))))
instance : Det w_fraction := by unfold w_fraction; infer_instance
instance : Out w_fraction := by unfold w_fraction; infer_instance
noncomputable def f_fraction : List D → Option R := outF 2 3 w_fraction
theorem len_fraction : ∀ ds r, f_fraction ds = some r → ds.length = 2 := outF_len
theorem does_fraction : Does 3 w_fraction f_fraction := outF_does
/-- plus(a, b): slots a, b -/
def w_plus : SF := wRet (eCall f_fraction (aCons (e2 addD (e2 mulD (e2 ixR (eVar 0) (eC (.int 0))) (e2 ixR (eVar 1) (eC (.int 1)))) (e2 mulD (e2 ixR (eVar 1) (eC (.int 0))) (e2 ixR (eVar 0) (eC (.int 1))))) (aCons (e2 mulD (e2 ixR (eVar 0) (eC (.int 1))) (e2 ixR (eVar 1) (eC (.int 1)))) (aNil))))
instance : Det w_plus := by unfold w_plus; infer_instance
instance : Out w_plus := by unfold w_plus; infer_instance
noncomputable def f_plus : List D → Option R := outF 2 2 w_plus
theorem len_plus : ∀ ds r, f_plus ds = some r → ds.length = 2 := outF_len
theorem does_plus : Does 2 w_plus f_plus := outF_does

/-- minus(a, b): slots a, b -/
def w_minus : SF := wRet (eCall f_fraction (aCons (e2 subD (e2 mulD (e2 ixR (eVar 0) (eC (.int 0))) (e2 ixR (eVar 1) (eC (.int 1)))) (e2 mulD (e2 ixR (eVar 1) (eC (.int 0))) (e2 ixR (eVar 0) (eC (.int 1))))) (aCons (e2 mulD (e2 ixR (eVar 0) (eC (.int 1))) (e2 ixR (eVar 1) (eC (.int 1)))) (aNil))))
instance : Det w_minus := by unfold w_minus; infer_instance
instance : Out w_minus := by unfold w_minus; infer_instance
noncomputable def f_minus : List D → Option R := outF 2 2 w_minus
theorem len_minus : ∀ ds r, f_minus ds = some r → ds.length = 2 := outF_len
theorem does_minus : Does 2 w_minus f_minus := outF_does
/-- times(a, b): slots a, b -/
def w_times : SF := wRet (eCall f_fraction (aCons (e2 mulD (e2 ixR (eVar 0) (eC (.int 0))) (e2 ixR (eVar 1) (eC (.int 0)))) (aCons (e2 mulD (e2 ixR (eVar 0) (eC (.int 1))) (e2 ixR (eVar 1) (eC (.int 1)))) (aNil))))
instance : Det w_times := by unfold w_times; infer_instance
instance : Out w_times := by unfold w_times; infer_instance
noncomputable def f_times : List D → Option R := outF 2 2 w_times
theorem len_times : ∀ ds r, f_times ds = some r → ds.length = 2 := outF_len
theorem does_times : Does 2 w_times f_times := outF_does

/-- over(a, b): slots a, b -/
def w_over : SF := wRet (eCall f_fraction (aCons (e2 mulD (e2 ixR (eVar 0) (eC (.int 0))) (e2 ixR (eVar 1) (eC (.int 1)))) (aCons (e2 mulD (e2 ixR (eVar 0) (eC (.int 1))) (e2 ixR (eVar 1) (eC (.int 0)))) (aNil))))
instance : Det w_over := by unfold w_over; infer_instance
instance : Out w_over := by unfold w_over; infer_instance
noncomputable def f_over : List D → Option R := outF 2 2 w_over
theorem len_over : ∀ ds r, f_over ds = some r → ds.length = 2 := outF_len
theorem does_over : Does 2 w_over f_over := outF_does

theorem loop_shared (P : PD) : ∀ (n a b : Nat), b < n → P.nx [some (.d (.int (Nat.gcd a b : Nat))), some (.d (.int 0))] →
    wWhileN (cT (e2 neR (eVar 1) (eC (.int 0)))) (wPar 0 1 (aCons (eVar 1) (aCons (e2 modD (eVar 0) (eVar 1)) aNil))) P n [some (.d (.int a)), some (.d (.int b))] := by
  intro n
  induction n with
  | zero => intro a b h; omega
  | succ n ih =>
    intro a b h hp
    by_cases hb : b = 0
    · subst hb
      exact while_end (by (simp (disch := first | decide | assumption | omega) only [startE, List.map_cons, List.map_nil, List.replicate, eVar, eC, PT.e1, PT.e2, aNil, aCons, eCall, tupR, lstR, eTup, eLst, eIte, eLenO, eIxO, cT, cAnd, cOr, cNot, andV, orV, notD, truR, truD, bindR, bindRB, bindRL, bindL, bindB, bindBB, bindLL, toD, okD, okI, okB, itA, itD, items_tup, items_lst, items_scr, len_tup, len_lst, len_scr, List.getElem?_cons_zero, List.getElem?_cons_succ, List.length_cons, List.length_nil, List.length_map, List.cons_append, List.nil_append, List.append_nil, Nat.zero_add, Nat.reduceAdd, Nat.reduceSub, Nat.reduceLeDiff, if_true, if_false, ite_true, ite_false, Bool.false_eq_true, reduceIte, Bool.not_true, Bool.not_false, Int.reducePow, Int.reduceToNat, Int.reduceMul, Int.reduceAdd, Int.reduceSub, addD, subD, negD, ltR, leR, gtR, geR, eqR_int, neR_int, eqR_bl, neR_bl, absR, max2R, min2R, intR, mulRi, divRi, powRi, modR, absI, len_fr, len_tb, isiT_fr, isiT_tb, isiI_int, isiB_int, isiB_bl, isiL_lst, isiT_tup, items_tb, items_fr, zip_tb, all4, addD_tup2, addD_lst2, eLc, lcL, cYes, wipeE, gN, gTup_tup, gTup_tb, gTup_fr, gLs_lst, gCons, gNil, tuple_lst, List.set_cons_zero, List.set_cons_succ, List.set_nil, ix_fr0, ix_fr1, ix_tb0, ix_tb1, ix_tb2, ix_tb3, eqR_fr, neR_fr, eqR_tb, neR_tb]; try rfl)) (by simpa using hp)
    · have e : (((b : Int) == 0)) = false := by simp [hb]
      refine while_go (by (simp (disch := first | decide | assumption | omega) only [startE, List.map_cons, List.map_nil, List.replicate, eVar, eC, PT.e1, PT.e2, aNil, aCons, eCall, tupR, lstR, eTup, eLst, eIte, eLenO, eIxO, cT, cAnd, cOr, cNot, andV, orV, notD, truR, truD, bindR, bindRB, bindRL, bindL, bindB, bindBB, bindLL, toD, okD, okI, okB, itA, itD, items_tup, items_lst, items_scr, len_tup, len_lst, len_scr, List.getElem?_cons_zero, List.getElem?_cons_succ, List.length_cons, List.length_nil, List.length_map, List.cons_append, List.nil_append, List.append_nil, Nat.zero_add, Nat.reduceAdd, Nat.reduceSub, Nat.reduceLeDiff, if_true, if_false, ite_true, ite_false, Bool.false_eq_true, reduceIte, Bool.not_true, Bool.not_false, Int.reducePow, Int.reduceToNat, Int.reduceMul, Int.reduceAdd, Int.reduceSub, addD, subD, negD, ltR, leR, gtR, geR, eqR_int, neR_int, eqR_bl, neR_bl, absR, max2R, min2R, intR, mulRi, divRi, powRi, modR, absI, len_fr, len_tb, isiT_fr, isiT_tb, isiI_int, isiB_int, isiB_bl, isiL_lst, isiT_tup, items_tb, items_fr, zip_tb, all4, addD_tup2, addD_lst2, eLc, lcL, cYes, wipeE, gN, gTup_tup, gTup_tb, gTup_fr, gLs_lst, gCons, gNil, tuple_lst, List.set_cons_zero, List.set_cons_succ, List.set_nil, ix_fr0, ix_fr1, ix_tb0, ix_tb1, ix_tb2, ix_tb3, eqR_fr, neR_fr, eqR_tb, neR_tb, e]; try rfl)) (z_par (by (simp (disch := first | decide | assumption | omega) only [startE, List.map_cons, List.map_nil, List.replicate, eVar, eC, PT.e1, PT.e2, aNil, aCons, eCall, tupR, lstR, eTup, eLst, eIte, eLenO, eIxO, cT, cAnd, cOr, cNot, andV, orV, notD, truR, truD, bindR, bindRB, bindRL, bindL, bindB, bindBB, bindLL, toD, okD, okI, okB, itA, itD, items_tup, items_lst, items_scr, len_tup, len_lst, len_scr, List.getElem?_cons_zero, List.getElem?_cons_succ, List.length_cons, List.length_nil, List.length_map, List.cons_append, List.nil_append, List.append_nil, Nat.zero_add, Nat.reduceAdd, Nat.reduceSub, Nat.reduceLeDiff, if_true, if_false, ite_true, ite_false, Bool.false_eq_true, reduceIte, Bool.not_true, Bool.not_false, Int.reducePow, Int.reduceToNat, Int.reduceMul, Int.reduceAdd, Int.reduceSub, addD, subD, negD, ltR, leR, gtR, geR, eqR_int, neR_int, eqR_bl, neR_bl, absR, max2R, min2R, intR, mulRi, divRi, powRi, modR, absI, len_fr, len_tb, isiT_fr, isiT_tb, isiI_int, isiB_int, isiB_bl, isiL_lst, isiT_tup, items_tb, items_fr, zip_tb, all4, addD_tup2, addD_lst2, eLc, lcL, cYes, wipeE, gN, gTup_tup, gTup_tb, gTup_fr, gLs_lst, gCons, gNil, tuple_lst, List.set_cons_zero, List.set_cons_succ, List.set_nil, ix_fr0, ix_fr1, ix_tb0, ix_tb1, ix_tb2, ix_tb3, eqR_fr, neR_fr, eqR_tb, neR_tb]; try rfl)) ?_)
      try simp only [List.set_cons_zero, List.set_cons_succ, startE, List.map_cons, List.map_nil, List.replicate, List.cons_append, List.nil_append, List.append_nil, List.length_cons, List.length_nil, Nat.zero_add, Nat.reduceAdd, Nat.reduceSub]
      have := ih b (a % b) (by have := Nat.mod_lt a (Nat.pos_of_ne_zero hb); omega) (by rw [gcd_step a b hb]; exact hp)
      simpa using this
theorem ev_shared (a b : Int) : f_shared [.int a, .int b] = okI (Int.gcd a b) := by
  refine outF_ev rfl ?_
  refine q_set (by (simp (disch := first | decide | assumption | omega) only [startE, List.map_cons, List.map_nil, List.replicate, eVar, eC, PT.e1, PT.e2, aNil, aCons, eCall, tupR, lstR, eTup, eLst, eIte, eLenO, eIxO, cT, cAnd, cOr, cNot, andV, orV, notD, truR, truD, bindR, bindRB, bindRL, bindL, bindB, bindBB, bindLL, toD, okD, okI, okB, itA, itD, items_tup, items_lst, items_scr, len_tup, len_lst, len_scr, List.getElem?_cons_zero, List.getElem?_cons_succ, List.length_cons, List.length_nil, List.length_map, List.cons_append, List.nil_append, List.append_nil, Nat.zero_add, Nat.reduceAdd, Nat.reduceSub, Nat.reduceLeDiff, if_true, if_false, ite_true, ite_false, Bool.false_eq_true, reduceIte, Bool.not_true, Bool.not_false, Int.reducePow, Int.reduceToNat, Int.reduceMul, Int.reduceAdd, Int.reduceSub, addD, subD, negD, ltR, leR, gtR, geR, eqR_int, neR_int, eqR_bl, neR_bl, absR, max2R, min2R, intR, mulRi, divRi, powRi, modR, absI, len_fr, len_tb, isiT_fr, isiT_tb, isiI_int, isiB_int, isiB_bl, isiL_lst, isiT_tup, items_tb, items_fr, zip_tb, all4, addD_tup2, addD_lst2, eLc, lcL, cYes, wipeE, gN, gTup_tup, gTup_tb, gTup_fr, gLs_lst, gCons, gNil, tuple_lst, List.set_cons_zero, List.set_cons_succ, List.set_nil, ix_fr0, ix_fr1, ix_tb0, ix_tb1, ix_tb2, ix_tb3, eqR_fr, neR_fr, eqR_tb, neR_tb]; try rfl)) ?_
  try simp only [List.set_cons_zero, List.set_cons_succ, startE, List.map_cons, List.map_nil, List.replicate, List.cons_append, List.nil_append, List.append_nil, List.length_cons, List.length_nil, Nat.zero_add, Nat.reduceAdd, Nat.reduceSub]
  refine q_set (by (simp (disch := first | decide | assumption | omega) only [startE, List.map_cons, List.map_nil, List.replicate, eVar, eC, PT.e1, PT.e2, aNil, aCons, eCall, tupR, lstR, eTup, eLst, eIte, eLenO, eIxO, cT, cAnd, cOr, cNot, andV, orV, notD, truR, truD, bindR, bindRB, bindRL, bindL, bindB, bindBB, bindLL, toD, okD, okI, okB, itA, itD, items_tup, items_lst, items_scr, len_tup, len_lst, len_scr, List.getElem?_cons_zero, List.getElem?_cons_succ, List.length_cons, List.length_nil, List.length_map, List.cons_append, List.nil_append, List.append_nil, Nat.zero_add, Nat.reduceAdd, Nat.reduceSub, Nat.reduceLeDiff, if_true, if_false, ite_true, ite_false, Bool.false_eq_true, reduceIte, Bool.not_true, Bool.not_false, Int.reducePow, Int.reduceToNat, Int.reduceMul, Int.reduceAdd, Int.reduceSub, addD, subD, negD, ltR, leR, gtR, geR, eqR_int, neR_int, eqR_bl, neR_bl, absR, max2R, min2R, intR, mulRi, divRi, powRi, modR, absI, len_fr, len_tb, isiT_fr, isiT_tb, isiI_int, isiB_int, isiB_bl, isiL_lst, isiT_tup, items_tb, items_fr, zip_tb, all4, addD_tup2, addD_lst2, eLc, lcL, cYes, wipeE, gN, gTup_tup, gTup_tb, gTup_fr, gLs_lst, gCons, gNil, tuple_lst, List.set_cons_zero, List.set_cons_succ, List.set_nil, ix_fr0, ix_fr1, ix_tb0, ix_tb1, ix_tb2, ix_tb3, eqR_fr, neR_fr, eqR_tb, neR_tb]; try rfl)) ?_
  try simp only [List.set_cons_zero, List.set_cons_succ, startE, List.map_cons, List.map_nil, List.replicate, List.cons_append, List.nil_append, List.append_nil, List.length_cons, List.length_nil, Nat.zero_add, Nat.reduceAdd, Nat.reduceSub]
  refine q_while ⟨b.natAbs + 1, loop_shared _ _ _ _ (Nat.lt_succ_self _) ?_⟩
  try simp only [List.set_cons_zero, List.set_cons_succ, startE, List.map_cons, List.map_nil, List.replicate, List.cons_append, List.nil_append, List.append_nil, List.length_cons, List.length_nil, Nat.zero_add, Nat.reduceAdd, Nat.reduceSub]
  exact z_ret (by (simp (disch := first | decide | assumption | omega) only [startE, List.map_cons, List.map_nil, List.replicate, eVar, eC, PT.e1, PT.e2, aNil, aCons, eCall, tupR, lstR, eTup, eLst, eIte, eLenO, eIxO, cT, cAnd, cOr, cNot, andV, orV, notD, truR, truD, bindR, bindRB, bindRL, bindL, bindB, bindBB, bindLL, toD, okD, okI, okB, itA, itD, items_tup, items_lst, items_scr, len_tup, len_lst, len_scr, List.getElem?_cons_zero, List.getElem?_cons_succ, List.length_cons, List.length_nil, List.length_map, List.cons_append, List.nil_append, List.append_nil, Nat.zero_add, Nat.reduceAdd, Nat.reduceSub, Nat.reduceLeDiff, if_true, if_false, ite_true, ite_false, Bool.false_eq_true, reduceIte, Bool.not_true, Bool.not_false, Int.reducePow, Int.reduceToNat, Int.reduceMul, Int.reduceAdd, Int.reduceSub, addD, subD, negD, ltR, leR, gtR, geR, eqR_int, neR_int, eqR_bl, neR_bl, absR, max2R, min2R, intR, mulRi, divRi, powRi, modR, absI, len_fr, len_tb, isiT_fr, isiT_tb, isiI_int, isiB_int, isiB_bl, isiL_lst, isiT_tup, items_tb, items_fr, zip_tb, all4, addD_tup2, addD_lst2, eLc, lcL, cYes, wipeE, gN, gTup_tup, gTup_tb, gTup_fr, gLs_lst, gCons, gNil, tuple_lst, List.set_cons_zero, List.set_cons_succ, List.set_nil, ix_fr0, ix_fr1, ix_tb0, ix_tb1, ix_tb2, ix_tb3, eqR_fr, neR_fr, eqR_tb, neR_tb]; try rfl)) rfl
/-- sizes that a fraction's parts may have -/
theorem gcd_bd {t b : Int} {n : Nat} (h : B n b) (h0 : b ≠ 0) : B n (Int.gcd t b : Int) := h.le (by
  have := Int.gcd_le_natAbs_right t h0
  omega)
theorem gcd_ne {t b : Int} (h0 : b ≠ 0) : (Int.gcd t b : Int) ≠ 0 := by
  have := Int.gcd_ne_zero_right (a := t) h0
  omega
theorem fdivR {x y : Int} {n : Nat} (hy : y ≠ 0) (h : B n y) (l : n < 9000) : fdivD (.int x) (.int y) = okI (x.fdiv y) := by
  show (if divOk y = true then okI (x.fdiv y) else none) = _
  rw [if_pos (h.divOk hy l)]
theorem ev_fraction {t b : Int} {n : Nat} (hb : B n b) (h0 : b ≠ 0) (l : n < 9000) : f_fraction [.int t, .int b] = okD (fr (Rat.divInt t b)) := by
  refine outF_ev rfl ?_
  have e0 : (b == 0) = false := by simpa using h0
  try simp only [List.set_cons_zero, List.set_cons_succ, startE, List.map_cons, List.map_nil, List.replicate, List.cons_append, List.nil_append, List.append_nil, List.length_cons, List.length_nil, Nat.zero_add, Nat.reduceAdd, Nat.reduceSub]
  refine q_if (t := false) (by (simp (disch := first | decide | assumption | omega) only [startE, List.map_cons, List.map_nil, List.replicate, eVar, eC, PT.e1, PT.e2, aNil, aCons, eCall, tupR, lstR, eTup, eLst, eIte, eLenO, eIxO, cT, cAnd, cOr, cNot, andV, orV, notD, truR, truD, bindR, bindRB, bindRL, bindL, bindB, bindBB, bindLL, toD, okD, okI, okB, itA, itD, items_tup, items_lst, items_scr, len_tup, len_lst, len_scr, List.getElem?_cons_zero, List.getElem?_cons_succ, List.length_cons, List.length_nil, List.length_map, List.cons_append, List.nil_append, List.append_nil, Nat.zero_add, Nat.reduceAdd, Nat.reduceSub, Nat.reduceLeDiff, if_true, if_false, ite_true, ite_false, Bool.false_eq_true, reduceIte, Bool.not_true, Bool.not_false, Int.reducePow, Int.reduceToNat, Int.reduceMul, Int.reduceAdd, Int.reduceSub, addD, subD, negD, ltR, leR, gtR, geR, eqR_int, neR_int, eqR_bl, neR_bl, absR, max2R, min2R, intR, mulRi, divRi, powRi, modR, absI, len_fr, len_tb, isiT_fr, isiT_tb, isiI_int, isiB_int, isiB_bl, isiL_lst, isiT_tup, items_tb, items_fr, zip_tb, all4, addD_tup2, addD_lst2, eLc, lcL, cYes, wipeE, gN, gTup_tup, gTup_tb, gTup_fr, gLs_lst, gCons, gNil, tuple_lst, List.set_cons_zero, List.set_cons_succ, List.set_nil, ix_fr0, ix_fr1, ix_tb0, ix_tb1, ix_tb2, ix_tb3, eqR_fr, neR_fr, eqR_tb, neR_tb, e0]; try rfl)) (fun z => by cases z) fun _ => ?_
  refine q_set (v := .int (Int.gcd t b)) (by (simp (disch := first | decide | assumption | omega) only [startE, List.map_cons, List.map_nil, List.replicate, eVar, eC, PT.e1, PT.e2, aNil, aCons, eCall, tupR, lstR, eTup, eLst, eIte, eLenO, eIxO, cT, cAnd, cOr, cNot, andV, orV, notD, truR, truD, bindR, bindRB, bindRL, bindL, bindB, bindBB, bindLL, toD, okD, okI, okB, itA, itD, items_tup, items_lst, items_scr, len_tup, len_lst, len_scr, List.getElem?_cons_zero, List.getElem?_cons_succ, List.length_cons, List.length_nil, List.length_map, List.cons_append, List.nil_append, List.append_nil, Nat.zero_add, Nat.reduceAdd, Nat.reduceSub, Nat.reduceLeDiff, if_true, if_false, ite_true, ite_false, Bool.false_eq_true, reduceIte, Bool.not_true, Bool.not_false, Int.reducePow, Int.reduceToNat, Int.reduceMul, Int.reduceAdd, Int.reduceSub, addD, subD, negD, ltR, leR, gtR, geR, eqR_int, neR_int, eqR_bl, neR_bl, absR, max2R, min2R, intR, mulRi, divRi, powRi, modR, absI, len_fr, len_tb, isiT_fr, isiT_tb, isiI_int, isiB_int, isiB_bl, isiL_lst, isiT_tup, items_tb, items_fr, zip_tb, all4, addD_tup2, addD_lst2, eLc, lcL, cYes, wipeE, gN, gTup_tup, gTup_tb, gTup_fr, gLs_lst, gCons, gNil, tuple_lst, List.set_cons_zero, List.set_cons_succ, List.set_nil, ix_fr0, ix_fr1, ix_tb0, ix_tb1, ix_tb2, ix_tb3, eqR_fr, neR_fr, eqR_tb, neR_tb, ev_shared]; try rfl)) ?_
  try simp only [List.set_cons_zero, List.set_cons_succ, startE, List.map_cons, List.map_nil, List.replicate, List.cons_append, List.nil_append, List.append_nil, List.length_cons, List.length_nil, Nat.zero_add, Nat.reduceAdd, Nat.reduceSub]
  have hg : B n (if b < 0 then -(Int.gcd t b : Int) else (Int.gcd t b : Int)) := by
    split
    · exact (gcd_bd hb h0).neg
    · exact gcd_bd hb h0
  have h1 : (if b < 0 then -(Int.gcd t b : Int) else (Int.gcd t b : Int)) ≠ 0 := by
    have := gcd_ne (t := t) h0
    split <;> omega
  refine q_ifset (t := decide (b < 0)) (x := -(Int.gcd t b : Int)) (y := Int.gcd t b) (by (simp (disch := first | decide | assumption | omega) only [startE, List.map_cons, List.map_nil, List.replicate, eVar, eC, PT.e1, PT.e2, aNil, aCons, eCall, tupR, lstR, eTup, eLst, eIte, eLenO, eIxO, cT, cAnd, cOr, cNot, andV, orV, notD, truR, truD, bindR, bindRB, bindRL, bindL, bindB, bindBB, bindLL, toD, okD, okI, okB, itA, itD, items_tup, items_lst, items_scr, len_tup, len_lst, len_scr, List.getElem?_cons_zero, List.getElem?_cons_succ, List.length_cons, List.length_nil, List.length_map, List.cons_append, List.nil_append, List.append_nil, Nat.zero_add, Nat.reduceAdd, Nat.reduceSub, Nat.reduceLeDiff, if_true, if_false, ite_true, ite_false, Bool.false_eq_true, reduceIte, Bool.not_true, Bool.not_false, Int.reducePow, Int.reduceToNat, Int.reduceMul, Int.reduceAdd, Int.reduceSub, addD, subD, negD, ltR, leR, gtR, geR, eqR_int, neR_int, eqR_bl, neR_bl, absR, max2R, min2R, intR, mulRi, divRi, powRi, modR, absI, len_fr, len_tb, isiT_fr, isiT_tb, isiI_int, isiB_int, isiB_bl, isiL_lst, isiT_tup, items_tb, items_fr, zip_tb, all4, addD_tup2, addD_lst2, eLc, lcL, cYes, wipeE, gN, gTup_tup, gTup_tb, gTup_fr, gLs_lst, gCons, gNil, tuple_lst, List.set_cons_zero, List.set_cons_succ, List.set_nil, ix_fr0, ix_fr1, ix_tb0, ix_tb1, ix_tb2, ix_tb3, eqR_fr, neR_fr, eqR_tb, neR_tb]; try rfl)) rfl (fun _ => by (simp (disch := first | decide | assumption | omega) only [startE, List.map_cons, List.map_nil, List.replicate, eVar, eC, PT.e1, PT.e2, aNil, aCons, eCall, tupR, lstR, eTup, eLst, eIte, eLenO, eIxO, cT, cAnd, cOr, cNot, andV, orV, notD, truR, truD, bindR, bindRB, bindRL, bindL, bindB, bindBB, bindLL, toD, okD, okI, okB, itA, itD, items_tup, items_lst, items_scr, len_tup, len_lst, len_scr, List.getElem?_cons_zero, List.getElem?_cons_succ, List.length_cons, List.length_nil, List.length_map, List.cons_append, List.nil_append, List.append_nil, Nat.zero_add, Nat.reduceAdd, Nat.reduceSub, Nat.reduceLeDiff, if_true, if_false, ite_true, ite_false, Bool.false_eq_true, reduceIte, Bool.not_true, Bool.not_false, Int.reducePow, Int.reduceToNat, Int.reduceMul, Int.reduceAdd, Int.reduceSub, addD, subD, negD, ltR, leR, gtR, geR, eqR_int, neR_int, eqR_bl, neR_bl, absR, max2R, min2R, intR, mulRi, divRi, powRi, modR, absI, len_fr, len_tb, isiT_fr, isiT_tb, isiI_int, isiB_int, isiB_bl, isiL_lst, isiT_tup, items_tb, items_fr, zip_tb, all4, addD_tup2, addD_lst2, eLc, lcL, cYes, wipeE, gN, gTup_tup, gTup_tb, gTup_fr, gLs_lst, gCons, gNil, tuple_lst, List.set_cons_zero, List.set_cons_succ, List.set_nil, ix_fr0, ix_fr1, ix_tb0, ix_tb1, ix_tb2, ix_tb3, eqR_fr, neR_fr, eqR_tb, neR_tb]; try rfl)) ?_
  try simp only [List.set_cons_zero, List.set_cons_succ, startE, List.map_cons, List.map_nil, List.replicate, List.cons_append, List.nil_append, List.append_nil, List.length_cons, List.length_nil, Nat.zero_add, Nat.reduceAdd, Nat.reduceSub]
  simp only [decide_eq_true_eq]
  refine z_ret (sv := .d (fr (Rat.divInt t b))) ?_ rfl
  (simp (disch := first | decide | assumption | omega) only [startE, List.map_cons, List.map_nil, List.replicate, eVar, eC, PT.e1, PT.e2, aNil, aCons, eCall, tupR, lstR, eTup, eLst, eIte, eLenO, eIxO, cT, cAnd, cOr, cNot, andV, orV, notD, truR, truD, bindR, bindRB, bindRL, bindL, bindB, bindBB, bindLL, toD, okD, okI, okB, itA, itD, items_tup, items_lst, items_scr, len_tup, len_lst, len_scr, List.getElem?_cons_zero, List.getElem?_cons_succ, List.length_cons, List.length_nil, List.length_map, List.cons_append, List.nil_append, List.append_nil, Nat.zero_add, Nat.reduceAdd, Nat.reduceSub, Nat.reduceLeDiff, if_true, if_false, ite_true, ite_false, Bool.false_eq_true, reduceIte, Bool.not_true, Bool.not_false, Int.reducePow, Int.reduceToNat, Int.reduceMul, Int.reduceAdd, Int.reduceSub, addD, subD, negD, ltR, leR, gtR, geR, eqR_int, neR_int, eqR_bl, neR_bl, absR, max2R, min2R, intR, mulRi, divRi, powRi, modR, absI, len_fr, len_tb, isiT_fr, isiT_tb, isiI_int, isiB_int, isiB_bl, isiL_lst, isiT_tup, items_tb, items_fr, zip_tb, all4, addD_tup2, addD_lst2, eLc, lcL, cYes, wipeE, gN, gTup_tup, gTup_tb, gTup_fr, gLs_lst, gCons, gNil, tuple_lst, List.set_cons_zero, List.set_cons_succ, List.set_nil, ix_fr0, ix_fr1, ix_tb0, ix_tb1, ix_tb2, ix_tb3, eqR_fr, neR_fr, eqR_tb, neR_tb, fdivR h1 hg l, fr_low h0]; try rfl)
theorem ev_fraction0 (t : Int) : f_fraction [.int t, .int 0] = some (.ex "NoFraction" none) := by
  refine outF_ev rfl ?_
  exact q_if (t := true) (by (simp (disch := first | decide | assumption | omega) only [startE, List.map_cons, List.map_nil, List.replicate, eVar, eC, PT.e1, PT.e2, aNil, aCons, eCall, tupR, lstR, eTup, eLst, eIte, eLenO, eIxO, cT, cAnd, cOr, cNot, andV, orV, notD, truR, truD, bindR, bindRB, bindRL, bindL, bindB, bindBB, bindLL, toD, okD, okI, okB, itA, itD, items_tup, items_lst, items_scr, len_tup, len_lst, len_scr, List.getElem?_cons_zero, List.getElem?_cons_succ, List.length_cons, List.length_nil, List.length_map, List.cons_append, List.nil_append, List.append_nil, Nat.zero_add, Nat.reduceAdd, Nat.reduceSub, Nat.reduceLeDiff, if_true, if_false, ite_true, ite_false, Bool.false_eq_true, reduceIte, Bool.not_true, Bool.not_false, Int.reducePow, Int.reduceToNat, Int.reduceMul, Int.reduceAdd, Int.reduceSub, addD, subD, negD, ltR, leR, gtR, geR, eqR_int, neR_int, eqR_bl, neR_bl, absR, max2R, min2R, intR, mulRi, divRi, powRi, modR, absI, len_fr, len_tb, isiT_fr, isiT_tb, isiI_int, isiB_int, isiB_bl, isiL_lst, isiT_tup, items_tb, items_fr, zip_tb, all4, addD_tup2, addD_lst2, eLc, lcL, cYes, wipeE, gN, gTup_tup, gTup_tb, gTup_fr, gLs_lst, gCons, gNil, tuple_lst, List.set_cons_zero, List.set_cons_succ, List.set_nil, ix_fr0, ix_fr1, ix_tb0, ix_tb1, ix_tb2, ix_tb3, eqR_fr, neR_fr, eqR_tb, neR_tb]; try rfl)) (fun _ => rfl) fun z => by cases z
theorem ev_fraction' {t b : Int} {n : Nat} [h : Bd b n] (h0 : b ≠ 0) (l : n < 9000) : f_fraction [.int t, .int b] = okD (fr (Rat.divInt t b)) := ev_fraction h.b h0 l
theorem ev_plus {q r : Rat} {m n : Nat} [Qd q m] [Qd r n] (l : m + n < 9000) : f_plus [fr q, fr r] = okD (fr (q + r)) := by
  have h0 : (q.den : Int) * r.den ≠ 0 := Int.mul_ne_zero (den_ne q) (den_ne r)
  refine outF_ev rfl (z_ret (sv := .d (fr (q + r))) ?_ rfl)
  have l1 : m + n < 1000000 := by omega
  have l2 : n + m < 1000000 := by omega
  try simp only [List.set_cons_zero, List.set_cons_succ, startE, List.map_cons, List.map_nil, List.replicate, List.cons_append, List.nil_append, List.append_nil, List.length_cons, List.length_nil, Nat.zero_add, Nat.reduceAdd, Nat.reduceSub]
  (simp (disch := first | decide | assumption | omega) only [startE, List.map_cons, List.map_nil, List.replicate, eVar, eC, PT.e1, PT.e2, aNil, aCons, eCall, tupR, lstR, eTup, eLst, eIte, eLenO, eIxO, cT, cAnd, cOr, cNot, andV, orV, notD, truR, truD, bindR, bindRB, bindRL, bindL, bindB, bindBB, bindLL, toD, okD, okI, okB, itA, itD, items_tup, items_lst, items_scr, len_tup, len_lst, len_scr, List.getElem?_cons_zero, List.getElem?_cons_succ, List.length_cons, List.length_nil, List.length_map, List.cons_append, List.nil_append, List.append_nil, Nat.zero_add, Nat.reduceAdd, Nat.reduceSub, Nat.reduceLeDiff, if_true, if_false, ite_true, ite_false, Bool.false_eq_true, reduceIte, Bool.not_true, Bool.not_false, Int.reducePow, Int.reduceToNat, Int.reduceMul, Int.reduceAdd, Int.reduceSub, addD, subD, negD, ltR, leR, gtR, geR, eqR_int, neR_int, eqR_bl, neR_bl, absR, max2R, min2R, intR, mulRi, divRi, powRi, modR, absI, len_fr, len_tb, isiT_fr, isiT_tb, isiI_int, isiB_int, isiB_bl, isiL_lst, isiT_tup, items_tb, items_fr, zip_tb, all4, addD_tup2, addD_lst2, eLc, lcL, cYes, wipeE, gN, gTup_tup, gTup_tb, gTup_fr, gLs_lst, gCons, gNil, tuple_lst, List.set_cons_zero, List.set_cons_succ, List.set_nil, ix_fr0, ix_fr1, ix_tb0, ix_tb1, ix_tb2, ix_tb3, eqR_fr, neR_fr, eqR_tb, neR_tb, ev_fraction' h0 l, add_low]; try rfl)
theorem ev_minus {q r : Rat} {m n : Nat} [Qd q m] [Qd r n] (l : m + n < 9000) : f_minus [fr q, fr r] = okD (fr (q - r)) := by
  have h0 : (q.den : Int) * r.den ≠ 0 := Int.mul_ne_zero (den_ne q) (den_ne r)
  refine outF_ev rfl (z_ret (sv := .d (fr (q - r))) ?_ rfl)
  have l1 : m + n < 1000000 := by omega
  have l2 : n + m < 1000000 := by omega
  try simp only [List.set_cons_zero, List.set_cons_succ, startE, List.map_cons, List.map_nil, List.replicate, List.cons_append, List.nil_append, List.append_nil, List.length_cons, List.length_nil, Nat.zero_add, Nat.reduceAdd, Nat.reduceSub]
  (simp (disch := first | decide | assumption | omega) only [startE, List.map_cons, List.map_nil, List.replicate, eVar, eC, PT.e1, PT.e2, aNil, aCons, eCall, tupR, lstR, eTup, eLst, eIte, eLenO, eIxO, cT, cAnd, cOr, cNot, andV, orV, notD, truR, truD, bindR, bindRB, bindRL, bindL, bindB, bindBB, bindLL, toD, okD, okI, okB, itA, itD, items_tup, items_lst, items_scr, len_tup, len_lst, len_scr, List.getElem?_cons_zero, List.getElem?_cons_succ, List.length_cons, List.length_nil, List.length_map, List.cons_append, List.nil_append, List.append_nil, Nat.zero_add, Nat.reduceAdd, Nat.reduceSub, Nat.reduceLeDiff, if_true, if_false, ite_true, ite_false, Bool.false_eq_true, reduceIte, Bool.not_true, Bool.not_false, Int.reducePow, Int.reduceToNat, Int.reduceMul, Int.reduceAdd, Int.reduceSub, addD, subD, negD, ltR, leR, gtR, geR, eqR_int, neR_int, eqR_bl, neR_bl, absR, max2R, min2R, intR, mulRi, divRi, powRi, modR, absI, len_fr, len_tb, isiT_fr, isiT_tb, isiI_int, isiB_int, isiB_bl, isiL_lst, isiT_tup, items_tb, items_fr, zip_tb, all4, addD_tup2, addD_lst2, eLc, lcL, cYes, wipeE, gN, gTup_tup, gTup_tb, gTup_fr, gLs_lst, gCons, gNil, tuple_lst, List.set_cons_zero, List.set_cons_succ, List.set_nil, ix_fr0, ix_fr1, ix_tb0, ix_tb1, ix_tb2, ix_tb3, eqR_fr, neR_fr, eqR_tb, neR_tb, ev_fraction' h0 l, sub_low]; try rfl)
theorem ev_times {q r : Rat} {m n : Nat} [Qd q m] [Qd r n] (l : m + n < 9000) : f_times [fr q, fr r] = okD (fr (q * r)) := by
  have h0 : (q.den : Int) * r.den ≠ 0 := Int.mul_ne_zero (den_ne q) (den_ne r)
  refine outF_ev rfl (z_ret (sv := .d (fr (q * r))) ?_ rfl)
  have l1 : m + n < 1000000 := by omega
  try simp only [List.set_cons_zero, List.set_cons_succ, startE, List.map_cons, List.map_nil, List.replicate, List.cons_append, List.nil_append, List.append_nil, List.length_cons, List.length_nil, Nat.zero_add, Nat.reduceAdd, Nat.reduceSub]
  (simp (disch := first | decide | assumption | omega) only [startE, List.map_cons, List.map_nil, List.replicate, eVar, eC, PT.e1, PT.e2, aNil, aCons, eCall, tupR, lstR, eTup, eLst, eIte, eLenO, eIxO, cT, cAnd, cOr, cNot, andV, orV, notD, truR, truD, bindR, bindRB, bindRL, bindL, bindB, bindBB, bindLL, toD, okD, okI, okB, itA, itD, items_tup, items_lst, items_scr, len_tup, len_lst, len_scr, List.getElem?_cons_zero, List.getElem?_cons_succ, List.length_cons, List.length_nil, List.length_map, List.cons_append, List.nil_append, List.append_nil, Nat.zero_add, Nat.reduceAdd, Nat.reduceSub, Nat.reduceLeDiff, if_true, if_false, ite_true, ite_false, Bool.false_eq_true, reduceIte, Bool.not_true, Bool.not_false, Int.reducePow, Int.reduceToNat, Int.reduceMul, Int.reduceAdd, Int.reduceSub, addD, subD, negD, ltR, leR, gtR, geR, eqR_int, neR_int, eqR_bl, neR_bl, absR, max2R, min2R, intR, mulRi, divRi, powRi, modR, absI, len_fr, len_tb, isiT_fr, isiT_tb, isiI_int, isiB_int, isiB_bl, isiL_lst, isiT_tup, items_tb, items_fr, zip_tb, all4, addD_tup2, addD_lst2, eLc, lcL, cYes, wipeE, gN, gTup_tup, gTup_tb, gTup_fr, gLs_lst, gCons, gNil, tuple_lst, List.set_cons_zero, List.set_cons_succ, List.set_nil, ix_fr0, ix_fr1, ix_tb0, ix_tb1, ix_tb2, ix_tb3, eqR_fr, neR_fr, eqR_tb, neR_tb, ev_fraction' h0 l, mul_low]; try rfl)
theorem ev_over {q r : Rat} {m n : Nat} [Qd q m] [Qd r n] (hr : r ≠ 0) (l : m + n < 9000) : f_over [fr q, fr r] = okD (fr (q / r)) := by
  have h0 : (q.den : Int) * r.num ≠ 0 := Int.mul_ne_zero (den_ne q) (fun z => hr (fr_num.mp z))
  refine outF_ev rfl (z_ret (sv := .d (fr (q / r))) ?_ rfl)
  have l1 : m + n < 1000000 := by omega
  try simp only [List.set_cons_zero, List.set_cons_succ, startE, List.map_cons, List.map_nil, List.replicate, List.cons_append, List.nil_append, List.append_nil, List.length_cons, List.length_nil, Nat.zero_add, Nat.reduceAdd, Nat.reduceSub]
  (simp (disch := first | decide | assumption | omega) only [startE, List.map_cons, List.map_nil, List.replicate, eVar, eC, PT.e1, PT.e2, aNil, aCons, eCall, tupR, lstR, eTup, eLst, eIte, eLenO, eIxO, cT, cAnd, cOr, cNot, andV, orV, notD, truR, truD, bindR, bindRB, bindRL, bindL, bindB, bindBB, bindLL, toD, okD, okI, okB, itA, itD, items_tup, items_lst, items_scr, len_tup, len_lst, len_scr, List.getElem?_cons_zero, List.getElem?_cons_succ, List.length_cons, List.length_nil, List.length_map, List.cons_append, List.nil_append, List.append_nil, Nat.zero_add, Nat.reduceAdd, Nat.reduceSub, Nat.reduceLeDiff, if_true, if_false, ite_true, ite_false, Bool.false_eq_true, reduceIte, Bool.not_true, Bool.not_false, Int.reducePow, Int.reduceToNat, Int.reduceMul, Int.reduceAdd, Int.reduceSub, addD, subD, negD, ltR, leR, gtR, geR, eqR_int, neR_int, eqR_bl, neR_bl, absR, max2R, min2R, intR, mulRi, divRi, powRi, modR, absI, len_fr, len_tb, isiT_fr, isiT_tb, isiI_int, isiB_int, isiB_bl, isiL_lst, isiT_tup, items_tb, items_fr, zip_tb, all4, addD_tup2, addD_lst2, eLc, lcL, cYes, wipeE, gN, gTup_tup, gTup_tb, gTup_fr, gLs_lst, gCons, gNil, tuple_lst, List.set_cons_zero, List.set_cons_succ, List.set_nil, ix_fr0, ix_fr1, ix_tb0, ix_tb1, ix_tb2, ix_tb3, eqR_fr, neR_fr, eqR_tb, neR_tb, ev_fraction' h0 l, div_low]; try rfl)
theorem ev_over0 {q : Rat} {m : Nat} [Qd q m] (l : m < 9000) : f_over [fr q, fr 0] = some (.ex "NoFraction" none) := by
  refine outF_ev rfl ?_
  have l1 : m + 1 < 1000000 := by omega
  have e0 : (q.den : Int) * (0 : Rat).num = 0 := Int.mul_zero _
  have e1 : f_over = f_over := rfl
  try simp only [List.set_cons_zero, List.set_cons_succ, startE, List.map_cons, List.map_nil, List.replicate, List.cons_append, List.nil_append, List.append_nil, List.length_cons, List.length_nil, Nat.zero_add, Nat.reduceAdd, Nat.reduceSub]
  show wR _ _ _
  have e : (eCall f_fraction (aCons (e2 mulD (e2 ixR (eVar 0) (eC (.int 0))) (e2 ixR (eVar 1) (eC (.int 1)))) (aCons (e2 mulD (e2 ixR (eVar 0) (eC (.int 1))) (e2 ixR (eVar 1) (eC (.int 0)))) (aNil)))) [some (SV.d (fr q)), some (SV.d (fr 0))] = some (.ex "NoFraction" none) := by
    (simp (disch := first | decide | assumption | omega) only [startE, List.map_cons, List.map_nil, List.replicate, eVar, eC, PT.e1, PT.e2, aNil, aCons, eCall, tupR, lstR, eTup, eLst, eIte, eLenO, eIxO, cT, cAnd, cOr, cNot, andV, orV, notD, truR, truD, bindR, bindRB, bindRL, bindL, bindB, bindBB, bindLL, toD, okD, okI, okB, itA, itD, items_tup, items_lst, items_scr, len_tup, len_lst, len_scr, List.getElem?_cons_zero, List.getElem?_cons_succ, List.length_cons, List.length_nil, List.length_map, List.cons_append, List.nil_append, List.append_nil, Nat.zero_add, Nat.reduceAdd, Nat.reduceSub, Nat.reduceLeDiff, if_true, if_false, ite_true, ite_false, Bool.false_eq_true, reduceIte, Bool.not_true, Bool.not_false, Int.reducePow, Int.reduceToNat, Int.reduceMul, Int.reduceAdd, Int.reduceSub, addD, subD, negD, ltR, leR, gtR, geR, eqR_int, neR_int, eqR_bl, neR_bl, absR, max2R, min2R, intR, mulRi, divRi, powRi, modR, absI, len_fr, len_tb, isiT_fr, isiT_tb, isiI_int, isiB_int, isiB_bl, isiL_lst, isiT_tup, items_tb, items_fr, zip_tb, all4, addD_tup2, addD_lst2, eLc, lcL, cYes, wipeE, gN, gTup_tup, gTup_tb, gTup_fr, gLs_lst, gCons, gNil, tuple_lst, List.set_cons_zero, List.set_cons_succ, List.set_nil, ix_fr0, ix_fr1, ix_tb0, ix_tb1, ix_tb2, ix_tb3, eqR_fr, neR_fr, eqR_tb, neR_tb, e0, ev_fraction0]; try rfl)
  rw [e]
  rfl
end PT
/-! PM: whole numbers and a prime: what the package's functions answer. -/
namespace PT
open PySem (Str)
/-- power_of(p, n): slots p, n, power -/
def w_power_of : SF := wSeq (wIf (cT (e2 eqR (eVar 1) (eC (.int 0)))) (wRet (eC .non)) (wNop)) (wSeq (wSet 2 (eC (.int 0))) (wSeq (wWhile (cT (e2 eqR (e2 modD (eVar 1) (eVar 0)) (eC (.int 0)))) (wSeq (wSet 1 (e2 fdivD (eVar 1) (eVar 0))) (wSet 2 (e2 addD (eVar 2) (eC (.int 1)))))) (wRet (eVar 2))))
instance : Det w_power_of := by unfold w_power_of; infer_instance
instance : Out w_power_of := by unfold w_power_of; infer_instance
noncomputable def f_power_of : List D → Option R := outF 2 3 w_power_of
theorem len_power_of : ∀ ds r, f_power_of ds = some r → ds.length = 2 := outF_len
theorem does_power_of : Does 3 w_power_of f_power_of := outF_does
/-- raised(number, k): slots number, k, found -/
def w_raised : SF := wSeq (wSet 2 (eC (.int 1))) (wSeq (wWhile (cT (e2 gtR (eVar 1) (eC (.int 0)))) (wSeq (wIf (cT (e2 eqR (e2 modD (eVar 1) (eC (.int 2))) (eC (.int 1)))) (wSet 2 (e2 mulD (eVar 2) (eVar 0))) (wNop)) (wSeq (wSet 0 (e2 mulD (eVar 0) (eVar 0))) (wSet 1 (e2 fdivD (eVar 1) (eC (.int 2))))))) (wRet (eVar 2)))
instance : Det w_raised := by unfold w_raised; infer_instance
instance : Out w_raised := by unfold w_raised; infer_instance
noncomputable def f_raised : List D → Option R := outF 2 3 w_raised
theorem len_raised : ∀ ds r, f_raised ds = some r → ds.length = 2 := outF_len
theorem does_raised : Does 3 w_raised f_raised := outF_does
/-- over_by(p, n, k): slots p, n, k, found, sure -/
def w_over_by : SF := wSeq (wIf (cT (e2 eqR (eVar 2) (eC (.int 0)))) (wRet (eC (.int 0))) (wNop)) (wSeq (wSet 3 (eC (.int 1))) (wSeq (wWhile (cT (e2 neR (e2 modD (e2 mulD (eVar 1) (eVar 3)) (eVar 0)) (eC (.int 1)))) (wSet 3 (e2 addD (eVar 3) (eC (.int 1))))) (wSeq (wSet 4 (eC (.int 1))) (wSeq (wWhile (cT (e2 ltR (eVar 4) (eVar 2))) (wSeq (wSet 4 (eCall min2R (aCons (e2 mulD (eC (.int 2)) (eVar 4)) (aCons (eVar 2) (aNil))))) (wSet 3 (e2 modD (e2 mulD (eVar 3) (e2 subD (eC (.int 2)) (e2 mulD (eVar 1) (eVar 3)))) (eCall f_raised (aCons (eVar 0) (aCons (eVar 4) (aNil)))))))) (wRet (eVar 3))))))
instance : Det w_over_by := by unfold w_over_by; infer_instance
instance : Out w_over_by := by unfold w_over_by; infer_instance
noncomputable def f_over_by : List D → Option R := outF 3 5 w_over_by
theorem len_over_by : ∀ ds r, f_over_by ds = some r → ds.length = 3 := outF_len
theorem does_over_by : Does 5 w_over_by f_over_by := outF_does

def Pr (p : Int) : Prop := p = 2 ∨ p = 3 ∨ p = 5 ∨ p = 7
theorem Pr.pos {p : Int} (h : Pr p) : 0 < p := by rcases h with rfl | rfl | rfl | rfl <;> decide
theorem Pr.two {p : Int} (h : Pr p) : 2 ≤ p := by rcases h with rfl | rfl | rfl | rfl <;> decide
theorem Pr.le {p : Int} (h : Pr p) : p ≤ 7 := by rcases h with rfl | rfl | rfl | rfl <;> decide
theorem Pr.ne {p : Int} (h : Pr p) : p ≠ 0 := by have := h.pos; omega
theorem Pr.bd {p : Int} (h : Pr p) : B 3 p := by rcases h with rfl | rfl | rfl | rfl <;> decide
theorem res_mul (q : Nat) (hq : 0 < q) (h : ∀ r, r < q → ∀ s, s < q → (r * s) % q = 0 → r = 0 ∨ s = 0) {a b : Int} (z : (q : Int) ∣ a * b) : (q : Int) ∣ a ∨ (q : Int) ∣ b := by
  have hq' : (q : Int) ≠ 0 := by omega
  rw [Int.dvd_iff_emod_eq_zero, Int.mul_emod] at z
  rw [Int.dvd_iff_emod_eq_zero, Int.dvd_iff_emod_eq_zero]
  have a1 := Int.emod_nonneg a hq'
  have b1 := Int.emod_nonneg b hq'
  have a2 := Int.emod_lt_of_pos a (show (0 : Int) < q by omega)
  have b2 := Int.emod_lt_of_pos b (show (0 : Int) < q by omega)
  obtain ⟨r, hr⟩ : ∃ r : Nat, a % q = r := ⟨(a % q).toNat, by omega⟩
  obtain ⟨s, hs⟩ : ∃ s : Nat, b % q = s := ⟨(b % q).toNat, by omega⟩
  rw [hr, hs] at z
  have z : ((r * s % q : Nat) : Int) = 0 := by push_cast; exact z
  rcases h r (by omega) s (by omega) (by omega) with h | h <;> omega
theorem Pr.mul {p a b : Int} (h : Pr p) (z : p ∣ a * b) : p ∣ a ∨ p ∣ b := by
  rcases h with rfl | rfl | rfl | rfl
  · exact res_mul 2 (by decide) (by decide) z
  · exact res_mul 3 (by decide) (by decide) z
  · exact res_mul 5 (by decide) (by decide) z
  · exact res_mul 7 (by decide) (by decide) z
theorem res_inv (q : Nat) (hq : 0 < q) (h : ∀ r, r < q → r ≠ 0 → ∃ x, x < q ∧ (r * x) % q = 1) {n : Int} (z : ¬ (q : Int) ∣ n) : ∃ x : Nat, x < q ∧ n * x % q = 1 := by
  have hq' : (q : Int) ≠ 0 := by omega
  rw [Int.dvd_iff_emod_eq_zero] at z
  have a1 := Int.emod_nonneg n hq'
  have a2 := Int.emod_lt_of_pos n (show (0 : Int) < q by omega)
  obtain ⟨r, hr⟩ : ∃ r : Nat, n % q = r := ⟨(n % q).toNat, by omega⟩
  obtain ⟨x, hx, e⟩ := h r (by omega) (by omega)
  refine ⟨x, hx, ?_⟩
  rw [Int.mul_emod, hr]
  have : ((r * x % q : Nat) : Int) = 1 := by rw [e]; rfl
  rw [← this]
  push_cast
  rw [Int.emod_eq_of_lt (show (0 : Int) ≤ x by omega) (show (x : Int) < q by omega)]
theorem Pr.inv {p n : Int} (h : Pr p) (z : ¬ p ∣ n) : ∃ x : Nat, (x : Int) < p ∧ n * x % p = 1 := by
  rcases h with rfl | rfl | rfl | rfl
  · obtain ⟨x, a, b⟩ := res_inv 2 (by decide) (by decide) z; exact ⟨x, by omega, b⟩
  · obtain ⟨x, a, b⟩ := res_inv 3 (by decide) (by decide) z; exact ⟨x, by omega, b⟩
  · obtain ⟨x, a, b⟩ := res_inv 5 (by decide) (by decide) z; exact ⟨x, by omega, b⟩
  · obtain ⟨x, a, b⟩ := res_inv 7 (by decide) (by decide) z; exact ⟨x, by omega, b⟩
/-- p divides n k times and no more -/
def Vk (p n : Int) (k : Nat) : Prop := ∃ m, n = p ^ k * m ∧ ¬ p ∣ m
theorem Vk.one {p n : Int} {k l : Nat} (hp : p ≠ 0) (h : Vk p n k) (h' : Vk p n l) : k = l := by
  have go : ∀ {k l : Nat}, Vk p n k → Vk p n l → ¬ k < l := by
    rintro k l ⟨m, e, z⟩ ⟨m', e', z'⟩ hlt
    apply z
    obtain ⟨d, rfl⟩ : ∃ d, l = k + 1 + d := ⟨l - k - 1, by omega⟩
    rw [e, Int.pow_add, Int.pow_succ, Int.mul_assoc, Int.mul_assoc] at e'
    have := Int.eq_of_mul_eq_mul_left (Int.pow_ne_zero hp) e'
    exact ⟨p ^ d * m', this⟩
  have a := go h h'
  have b := go h' h
  omega
theorem Vk.ex {p : Int} (hp : 2 ≤ p) : ∀ (N : Nat) (n : Int), n.natAbs ≤ N → n ≠ 0 → ∃ k, k ≤ N ∧ Vk p n k
  | 0, n, h, h0 => by omega
  | N + 1, n, h, h0 => by
    by_cases hd : p ∣ n
    · obtain ⟨m, rfl⟩ := hd
      have hm : m ≠ 0 := fun z => h0 (by rw [z, Int.mul_zero])
      have hlt : m.natAbs ≤ N := by
        rw [Int.natAbs_mul] at h
        have h2 : 2 ≤ p.natAbs := by omega
        have := Nat.mul_le_mul_right m.natAbs h2
        omega
      obtain ⟨k, hk, m', e, z⟩ := Vk.ex hp N m hlt hm
      exact ⟨k + 1, by omega, m', by rw [Int.pow_succ, e, ← Int.mul_assoc, Int.mul_comm p], z⟩
    · exact ⟨0, by omega, n, by rw [Int.pow_zero, Int.one_mul], hd⟩
open Classical in
noncomputable def vp (p n : Int) : Nat := if h : ∃ k, Vk p n k then h.choose else 0
theorem vp_eq {p n : Int} {k : Nat} (hp : p ≠ 0) (h : Vk p n k) : vp p n = k := by
  unfold vp
  have z : ∃ k, Vk p n k := ⟨k, h⟩
  rw [dif_pos z]
  exact z.choose_spec.one hp h
theorem vp_spec {p n : Int} (hp : 2 ≤ p) (h : n ≠ 0) : Vk p n (vp p n) := by
  obtain ⟨k, -, hk⟩ := Vk.ex hp n.natAbs n (Nat.le_refl _) h
  rw [vp_eq (by omega) hk]; exact hk
theorem pow_natAbs_le {p : Int} (hp : 2 ≤ p) (k : Nat) {m : Int} (hm : m ≠ 0) : 2 ^ k ≤ (p ^ k * m).natAbs := by
  rw [Int.natAbs_mul, Int.natAbs_pow]
  have h1 : 2 ^ k ≤ p.natAbs ^ k := Nat.pow_le_pow_left (by omega) k
  have h2 : 1 ≤ m.natAbs := by omega
  calc 2 ^ k ≤ p.natAbs ^ k := h1
    _ = p.natAbs ^ k * 1 := by rw [Nat.mul_one]
    _ ≤ p.natAbs ^ k * m.natAbs := Nat.mul_le_mul_left _ h2
theorem vp_lt {p n : Int} {b : Nat} (hp : 2 ≤ p) (h : n ≠ 0) (hb : B b n) : vp p n < b := by
  obtain ⟨m, e, z⟩ := vp_spec hp h
  have hm : m ≠ 0 := fun y => z (by rw [y]; exact Int.dvd_zero p)
  have := pow_natAbs_le hp (vp p n) hm
  rw [← e] at this
  have h3 : 2 ^ vp p n < 2 ^ b := Nat.lt_of_le_of_lt this hb
  exact (Nat.pow_lt_pow_iff_right (by decide)).mp h3
/-! ### the power of a number -/
theorem mod_zero {p n : Int} : (n % p == 0) = decide (p ∣ n) := by
  rw [Bool.eq_iff_iff, beq_iff_eq, decide_eq_true_iff, Int.dvd_iff_emod_eq_zero]
theorem loop_power (P : PD) {p : Int} (hp : Pr p) : ∀ (k n : Nat) (x c : Int), k < n → Vk p x k → (∀ y, P.nx [some (.d (.int p)), some (.d (.int y)), some (.d (.int (c + k)))]) →
    wWhileN (cT (e2 eqR (e2 modD (eVar 1) (eVar 0)) (eC (.int 0)))) (wSeq (wSet 1 (e2 fdivD (eVar 1) (eVar 0))) (wSet 2 (e2 addD (eVar 2) (eC (.int 1))))) P n [some (.d (.int p)), some (.d (.int x)), some (.d (.int c))] := by
  intro k
  have pp := hp.pos
  have bp : Bd p 3 := ⟨hp.bd⟩
  induction k with
  | zero =>
    rintro (_ | n) x c h ⟨m, e, z⟩ hP
    · omega
    rw [Int.pow_zero, Int.one_mul] at e
    subst e
    have e0 : decide (p ∣ x) = false := decide_eq_false z
    exact while_end (by (simp (disch := first | decide | assumption | omega) only [startE, List.map_cons, List.map_nil, List.replicate, eVar, eC, PT.e1, PT.e2, aNil, aCons, eCall, tupR, lstR, eTup, eLst, eIte, eLenO, eIxO, cT, cAnd, cOr, cNot, andV, orV, notD, truR, truD, bindR, bindRB, bindRL, bindL, bindB, bindBB, bindLL, toD, okD, okI, okB, itA, itD, items_tup, items_lst, items_scr, len_tup, len_lst, len_scr, List.getElem?_cons_zero, List.getElem?_cons_succ, List.length_cons, List.length_nil, List.length_map, List.cons_append, List.nil_append, List.append_nil, Nat.zero_add, Nat.reduceAdd, Nat.reduceSub, Nat.reduceLeDiff, if_true, if_false, ite_true, ite_false, Bool.false_eq_true, reduceIte, Bool.not_true, Bool.not_false, Int.reducePow, Int.reduceToNat, Int.reduceMul, Int.reduceAdd, Int.reduceSub, addD, subD, negD, ltR, leR, gtR, geR, eqR_int, neR_int, eqR_bl, neR_bl, absR, max2R, min2R, intR, mulRi, divRi, powRi, modR, absI, len_fr, len_tb, isiT_fr, isiT_tb, isiI_int, isiB_int, isiB_bl, isiL_lst, isiT_tup, items_tb, items_fr, zip_tb, all4, addD_tup2, addD_lst2, eLc, lcL, cYes, wipeE, gN, gTup_tup, gTup_tb, gTup_fr, gLs_lst, gCons, gNil, tuple_lst, List.set_cons_zero, List.set_cons_succ, List.set_nil, ix_fr0, ix_fr1, ix_tb0, ix_tb1, ix_tb2, ix_tb3, eqR_fr, neR_fr, eqR_tb, neR_tb, mod_zero, e0]; try rfl)) (by have := hP x; simpa using this)
  | succ k ih =>
    rintro (_ | n) x c h ⟨m, e, z⟩ hP
    · omega
    have e0 : decide (p ∣ x) = true := decide_eq_true ⟨p ^ k * m, by rw [e, Int.pow_succ, Int.mul_comm (p ^ k), Int.mul_assoc]⟩
    have e3 : x / p = p ^ k * m := by
      rw [e, Int.pow_succ, Int.mul_comm (p ^ k), Int.mul_assoc, Int.mul_ediv_cancel_left _ hp.ne]
    refine while_go (by (simp (disch := first | decide | assumption | omega) only [startE, List.map_cons, List.map_nil, List.replicate, eVar, eC, PT.e1, PT.e2, aNil, aCons, eCall, tupR, lstR, eTup, eLst, eIte, eLenO, eIxO, cT, cAnd, cOr, cNot, andV, orV, notD, truR, truD, bindR, bindRB, bindRL, bindL, bindB, bindBB, bindLL, toD, okD, okI, okB, itA, itD, items_tup, items_lst, items_scr, len_tup, len_lst, len_scr, List.getElem?_cons_zero, List.getElem?_cons_succ, List.length_cons, List.length_nil, List.length_map, List.cons_append, List.nil_append, List.append_nil, Nat.zero_add, Nat.reduceAdd, Nat.reduceSub, Nat.reduceLeDiff, if_true, if_false, ite_true, ite_false, Bool.false_eq_true, reduceIte, Bool.not_true, Bool.not_false, Int.reducePow, Int.reduceToNat, Int.reduceMul, Int.reduceAdd, Int.reduceSub, addD, subD, negD, ltR, leR, gtR, geR, eqR_int, neR_int, eqR_bl, neR_bl, absR, max2R, min2R, intR, mulRi, divRi, powRi, modR, absI, len_fr, len_tb, isiT_fr, isiT_tb, isiI_int, isiB_int, isiB_bl, isiL_lst, isiT_tup, items_tb, items_fr, zip_tb, all4, addD_tup2, addD_lst2, eLc, lcL, cYes, wipeE, gN, gTup_tup, gTup_tb, gTup_fr, gLs_lst, gCons, gNil, tuple_lst, List.set_cons_zero, List.set_cons_succ, List.set_nil, ix_fr0, ix_fr1, ix_tb0, ix_tb1, ix_tb2, ix_tb3, eqR_fr, neR_fr, eqR_tb, neR_tb, mod_zero, e0]; try rfl)) (q_set (v := .int (x / p)) (by (simp (disch := first | decide | assumption | omega) only [startE, List.map_cons, List.map_nil, List.replicate, eVar, eC, PT.e1, PT.e2, aNil, aCons, eCall, tupR, lstR, eTup, eLst, eIte, eLenO, eIxO, cT, cAnd, cOr, cNot, andV, orV, notD, truR, truD, bindR, bindRB, bindRL, bindL, bindB, bindBB, bindLL, toD, okD, okI, okB, itA, itD, items_tup, items_lst, items_scr, len_tup, len_lst, len_scr, List.getElem?_cons_zero, List.getElem?_cons_succ, List.length_cons, List.length_nil, List.length_map, List.cons_append, List.nil_append, List.append_nil, Nat.zero_add, Nat.reduceAdd, Nat.reduceSub, Nat.reduceLeDiff, if_true, if_false, ite_true, ite_false, Bool.false_eq_true, reduceIte, Bool.not_true, Bool.not_false, Int.reducePow, Int.reduceToNat, Int.reduceMul, Int.reduceAdd, Int.reduceSub, addD, subD, negD, ltR, leR, gtR, geR, eqR_int, neR_int, eqR_bl, neR_bl, absR, max2R, min2R, intR, mulRi, divRi, powRi, modR, absI, len_fr, len_tb, isiT_fr, isiT_tb, isiI_int, isiB_int, isiB_bl, isiL_lst, isiT_tup, items_tb, items_fr, zip_tb, all4, addD_tup2, addD_lst2, eLc, lcL, cYes, wipeE, gN, gTup_tup, gTup_tb, gTup_fr, gLs_lst, gCons, gNil, tuple_lst, List.set_cons_zero, List.set_cons_succ, List.set_nil, ix_fr0, ix_fr1, ix_tb0, ix_tb1, ix_tb2, ix_tb3, eqR_fr, neR_fr, eqR_tb, neR_tb]; try rfl)) ?_)
    try simp only [List.set_cons_zero, List.set_cons_succ, startE, List.map_cons, List.map_nil, List.replicate, List.cons_append, List.nil_append, List.append_nil, List.length_cons, List.length_nil, Nat.zero_add, Nat.reduceAdd, Nat.reduceSub]
    refine z_set (v := .int (c + 1)) (by (simp (disch := first | decide | assumption | omega) only [startE, List.map_cons, List.map_nil, List.replicate, eVar, eC, PT.e1, PT.e2, aNil, aCons, eCall, tupR, lstR, eTup, eLst, eIte, eLenO, eIxO, cT, cAnd, cOr, cNot, andV, orV, notD, truR, truD, bindR, bindRB, bindRL, bindL, bindB, bindBB, bindLL, toD, okD, okI, okB, itA, itD, items_tup, items_lst, items_scr, len_tup, len_lst, len_scr, List.getElem?_cons_zero, List.getElem?_cons_succ, List.length_cons, List.length_nil, List.length_map, List.cons_append, List.nil_append, List.append_nil, Nat.zero_add, Nat.reduceAdd, Nat.reduceSub, Nat.reduceLeDiff, if_true, if_false, ite_true, ite_false, Bool.false_eq_true, reduceIte, Bool.not_true, Bool.not_false, Int.reducePow, Int.reduceToNat, Int.reduceMul, Int.reduceAdd, Int.reduceSub, addD, subD, negD, ltR, leR, gtR, geR, eqR_int, neR_int, eqR_bl, neR_bl, absR, max2R, min2R, intR, mulRi, divRi, powRi, modR, absI, len_fr, len_tb, isiT_fr, isiT_tb, isiI_int, isiB_int, isiB_bl, isiL_lst, isiT_tup, items_tb, items_fr, zip_tb, all4, addD_tup2, addD_lst2, eLc, lcL, cYes, wipeE, gN, gTup_tup, gTup_tb, gTup_fr, gLs_lst, gCons, gNil, tuple_lst, List.set_cons_zero, List.set_cons_succ, List.set_nil, ix_fr0, ix_fr1, ix_tb0, ix_tb1, ix_tb2, ix_tb3, eqR_fr, neR_fr, eqR_tb, neR_tb]; try rfl)) ?_
    try simp only [List.set_cons_zero, List.set_cons_succ, startE, List.map_cons, List.map_nil, List.replicate, List.cons_append, List.nil_append, List.append_nil, List.length_cons, List.length_nil, Nat.zero_add, Nat.reduceAdd, Nat.reduceSub]
    rw [e3]
    exact ih n _ _ (by omega) ⟨m, rfl, z⟩ fun y => by
      have := hP y
      rw [show c + ((k + 1 : Nat) : Int) = c + 1 + k by push_cast; omega] at this
      exact this
theorem ev_power_of {p n : Int} (hp : Pr p) (h : n ≠ 0) : f_power_of [.int p, .int n] = okI (vp p n) := by
  refine outF_ev rfl ?_
  have e0 : (n == 0) = false := by simpa using h
  try simp only [List.set_cons_zero, List.set_cons_succ, startE, List.map_cons, List.map_nil, List.replicate, List.cons_append, List.nil_append, List.append_nil, List.length_cons, List.length_nil, Nat.zero_add, Nat.reduceAdd, Nat.reduceSub]
  refine q_ifN (t := false) (by (simp (disch := first | decide | assumption | omega) only [startE, List.map_cons, List.map_nil, List.replicate, eVar, eC, PT.e1, PT.e2, aNil, aCons, eCall, tupR, lstR, eTup, eLst, eIte, eLenO, eIxO, cT, cAnd, cOr, cNot, andV, orV, notD, truR, truD, bindR, bindRB, bindRL, bindL, bindB, bindBB, bindLL, toD, okD, okI, okB, itA, itD, items_tup, items_lst, items_scr, len_tup, len_lst, len_scr, List.getElem?_cons_zero, List.getElem?_cons_succ, List.length_cons, List.length_nil, List.length_map, List.cons_append, List.nil_append, List.append_nil, Nat.zero_add, Nat.reduceAdd, Nat.reduceSub, Nat.reduceLeDiff, if_true, if_false, ite_true, ite_false, Bool.false_eq_true, reduceIte, Bool.not_true, Bool.not_false, Int.reducePow, Int.reduceToNat, Int.reduceMul, Int.reduceAdd, Int.reduceSub, addD, subD, negD, ltR, leR, gtR, geR, eqR_int, neR_int, eqR_bl, neR_bl, absR, max2R, min2R, intR, mulRi, divRi, powRi, modR, absI, len_fr, len_tb, isiT_fr, isiT_tb, isiI_int, isiB_int, isiB_bl, isiL_lst, isiT_tup, items_tb, items_fr, zip_tb, all4, addD_tup2, addD_lst2, eLc, lcL, cYes, wipeE, gN, gTup_tup, gTup_tb, gTup_fr, gLs_lst, gCons, gNil, tuple_lst, List.set_cons_zero, List.set_cons_succ, List.set_nil, ix_fr0, ix_fr1, ix_tb0, ix_tb1, ix_tb2, ix_tb3, eqR_fr, neR_fr, eqR_tb, neR_tb, e0]; try rfl)) (fun z => by cases z) fun _ => ?_
  refine q_set (v := .int 0) (by (simp (disch := first | decide | assumption | omega) only [startE, List.map_cons, List.map_nil, List.replicate, eVar, eC, PT.e1, PT.e2, aNil, aCons, eCall, tupR, lstR, eTup, eLst, eIte, eLenO, eIxO, cT, cAnd, cOr, cNot, andV, orV, notD, truR, truD, bindR, bindRB, bindRL, bindL, bindB, bindBB, bindLL, toD, okD, okI, okB, itA, itD, items_tup, items_lst, items_scr, len_tup, len_lst, len_scr, List.getElem?_cons_zero, List.getElem?_cons_succ, List.length_cons, List.length_nil, List.length_map, List.cons_append, List.nil_append, List.append_nil, Nat.zero_add, Nat.reduceAdd, Nat.reduceSub, Nat.reduceLeDiff, if_true, if_false, ite_true, ite_false, Bool.false_eq_true, reduceIte, Bool.not_true, Bool.not_false, Int.reducePow, Int.reduceToNat, Int.reduceMul, Int.reduceAdd, Int.reduceSub, addD, subD, negD, ltR, leR, gtR, geR, eqR_int, neR_int, eqR_bl, neR_bl, absR, max2R, min2R, intR, mulRi, divRi, powRi, modR, absI, len_fr, len_tb, isiT_fr, isiT_tb, isiI_int, isiB_int, isiB_bl, isiL_lst, isiT_tup, items_tb, items_fr, zip_tb, all4, addD_tup2, addD_lst2, eLc, lcL, cYes, wipeE, gN, gTup_tup, gTup_tb, gTup_fr, gLs_lst, gCons, gNil, tuple_lst, List.set_cons_zero, List.set_cons_succ, List.set_nil, ix_fr0, ix_fr1, ix_tb0, ix_tb1, ix_tb2, ix_tb3, eqR_fr, neR_fr, eqR_tb, neR_tb]; try rfl)) ?_
  try simp only [List.set_cons_zero, List.set_cons_succ, startE, List.map_cons, List.map_nil, List.replicate, List.cons_append, List.nil_append, List.append_nil, List.length_cons, List.length_nil, Nat.zero_add, Nat.reduceAdd, Nat.reduceSub]
  refine q_while ⟨vp p n + 1, loop_power _ hp _ _ _ _ (Nat.lt_succ_self _) (vp_spec hp.two h) fun y => ?_⟩
  try simp only [List.set_cons_zero, List.set_cons_succ, startE, List.map_cons, List.map_nil, List.replicate, List.cons_append, List.nil_append, List.append_nil, List.length_cons, List.length_nil, Nat.zero_add, Nat.reduceAdd, Nat.reduceSub]
  rw [Int.zero_add]
  exact z_ret (by (simp (disch := first | decide | assumption | omega) only [startE, List.map_cons, List.map_nil, List.replicate, eVar, eC, PT.e1, PT.e2, aNil, aCons, eCall, tupR, lstR, eTup, eLst, eIte, eLenO, eIxO, cT, cAnd, cOr, cNot, andV, orV, notD, truR, truD, bindR, bindRB, bindRL, bindL, bindB, bindBB, bindLL, toD, okD, okI, okB, itA, itD, items_tup, items_lst, items_scr, len_tup, len_lst, len_scr, List.getElem?_cons_zero, List.getElem?_cons_succ, List.length_cons, List.length_nil, List.length_map, List.cons_append, List.nil_append, List.append_nil, Nat.zero_add, Nat.reduceAdd, Nat.reduceSub, Nat.reduceLeDiff, if_true, if_false, ite_true, ite_false, Bool.false_eq_true, reduceIte, Bool.not_true, Bool.not_false, Int.reducePow, Int.reduceToNat, Int.reduceMul, Int.reduceAdd, Int.reduceSub, addD, subD, negD, ltR, leR, gtR, geR, eqR_int, neR_int, eqR_bl, neR_bl, absR, max2R, min2R, intR, mulRi, divRi, powRi, modR, absI, len_fr, len_tb, isiT_fr, isiT_tb, isiI_int, isiB_int, isiB_bl, isiL_lst, isiT_tup, items_tb, items_fr, zip_tb, all4, addD_tup2, addD_lst2, eLc, lcL, cYes, wipeE, gN, gTup_tup, gTup_tb, gTup_fr, gLs_lst, gCons, gNil, tuple_lst, List.set_cons_zero, List.set_cons_succ, List.set_nil, ix_fr0, ix_fr1, ix_tb0, ix_tb1, ix_tb2, ix_tb3, eqR_fr, neR_fr, eqR_tb, neR_tb]; try rfl)) rfl
theorem ev_power_of0 {p : Int} : f_power_of [.int p, .int 0] = okD .non := by
  refine outF_ev rfl ?_
  have e0 : ((0 : Int) == 0) = true := rfl
  try simp only [List.set_cons_zero, List.set_cons_succ, startE, List.map_cons, List.map_nil, List.replicate, List.cons_append, List.nil_append, List.append_nil, List.length_cons, List.length_nil, Nat.zero_add, Nat.reduceAdd, Nat.reduceSub]
  exact q_ifN (t := true) (by (simp (disch := first | decide | assumption | omega) only [startE, List.map_cons, List.map_nil, List.replicate, eVar, eC, PT.e1, PT.e2, aNil, aCons, eCall, tupR, lstR, eTup, eLst, eIte, eLenO, eIxO, cT, cAnd, cOr, cNot, andV, orV, notD, truR, truD, bindR, bindRB, bindRL, bindL, bindB, bindBB, bindLL, toD, okD, okI, okB, itA, itD, items_tup, items_lst, items_scr, len_tup, len_lst, len_scr, List.getElem?_cons_zero, List.getElem?_cons_succ, List.length_cons, List.length_nil, List.length_map, List.cons_append, List.nil_append, List.append_nil, Nat.zero_add, Nat.reduceAdd, Nat.reduceSub, Nat.reduceLeDiff, if_true, if_false, ite_true, ite_false, Bool.false_eq_true, reduceIte, Bool.not_true, Bool.not_false, Int.reducePow, Int.reduceToNat, Int.reduceMul, Int.reduceAdd, Int.reduceSub, addD, subD, negD, ltR, leR, gtR, geR, eqR_int, neR_int, eqR_bl, neR_bl, absR, max2R, min2R, intR, mulRi, divRi, powRi, modR, absI, len_fr, len_tb, isiT_fr, isiT_tb, isiI_int, isiB_int, isiB_bl, isiL_lst, isiT_tup, items_tb, items_fr, zip_tb, all4, addD_tup2, addD_lst2, eLc, lcL, cYes, wipeE, gN, gTup_tup, gTup_tb, gTup_fr, gLs_lst, gCons, gNil, tuple_lst, List.set_cons_zero, List.set_cons_succ, List.set_nil, ix_fr0, ix_fr1, ix_tb0, ix_tb1, ix_tb2, ix_tb3, eqR_fr, neR_fr, eqR_tb, neR_tb, e0]; try rfl)) (fun _ => z_ret (by (simp (disch := first | decide | assumption | omega) only [startE, List.map_cons, List.map_nil, List.replicate, eVar, eC, PT.e1, PT.e2, aNil, aCons, eCall, tupR, lstR, eTup, eLst, eIte, eLenO, eIxO, cT, cAnd, cOr, cNot, andV, orV, notD, truR, truD, bindR, bindRB, bindRL, bindL, bindB, bindBB, bindLL, toD, okD, okI, okB, itA, itD, items_tup, items_lst, items_scr, len_tup, len_lst, len_scr, List.getElem?_cons_zero, List.getElem?_cons_succ, List.length_cons, List.length_nil, List.length_map, List.cons_append, List.nil_append, List.append_nil, Nat.zero_add, Nat.reduceAdd, Nat.reduceSub, Nat.reduceLeDiff, if_true, if_false, ite_true, ite_false, Bool.false_eq_true, reduceIte, Bool.not_true, Bool.not_false, Int.reducePow, Int.reduceToNat, Int.reduceMul, Int.reduceAdd, Int.reduceSub, addD, subD, negD, ltR, leR, gtR, geR, eqR_int, neR_int, eqR_bl, neR_bl, absR, max2R, min2R, intR, mulRi, divRi, powRi, modR, absI, len_fr, len_tb, isiT_fr, isiT_tb, isiI_int, isiB_int, isiB_bl, isiL_lst, isiT_tup, items_tb, items_fr, zip_tb, all4, addD_tup2, addD_lst2, eLc, lcL, cYes, wipeE, gN, gTup_tup, gTup_tb, gTup_fr, gLs_lst, gCons, gNil, tuple_lst, List.set_cons_zero, List.set_cons_succ, List.set_nil, ix_fr0, ix_fr1, ix_tb0, ix_tb1, ix_tb2, ix_tb3, eqR_fr, neR_fr, eqR_tb, neR_tb]; try rfl)) rfl) fun z => by cases z
/-! ### powers -/
theorem loop_raised (P : PD) : ∀ (n k b c : Nat) (x f : Int), k < n → B b x → B c f → c + b * k ≤ 400000 → (∀ y, P.nx [some (.d (.int y)), some (.d (.int 0)), some (.d (.int (f * x ^ k)))]) →
    wWhileN (cT (e2 gtR (eVar 1) (eC (.int 0)))) (wSeq (wIf (cT (e2 eqR (e2 modD (eVar 1) (eC (.int 2))) (eC (.int 1)))) (wSet 2 (e2 mulD (eVar 2) (eVar 0))) (wNop)) (wSeq (wSet 0 (e2 mulD (eVar 0) (eVar 0))) (wSet 1 (e2 fdivD (eVar 1) (eC (.int 2)))))) P n [some (.d (.int x)), some (.d (.int k)), some (.d (.int f))] := by
  intro n
  induction n with
  | zero => intro k b c x f h; omega
  | succ n ih =>
    intro k b c x f h hx hf hs hP
    by_cases hk : k = 0
    · subst hk
      have e0 : decide ((0 : Int) < ((0 : Nat) : Int)) = false := by decide
      exact while_end (by (simp (disch := first | decide | assumption | omega) only [startE, List.map_cons, List.map_nil, List.replicate, eVar, eC, PT.e1, PT.e2, aNil, aCons, eCall, tupR, lstR, eTup, eLst, eIte, eLenO, eIxO, cT, cAnd, cOr, cNot, andV, orV, notD, truR, truD, bindR, bindRB, bindRL, bindL, bindB, bindBB, bindLL, toD, okD, okI, okB, itA, itD, items_tup, items_lst, items_scr, len_tup, len_lst, len_scr, List.getElem?_cons_zero, List.getElem?_cons_succ, List.length_cons, List.length_nil, List.length_map, List.cons_append, List.nil_append, List.append_nil, Nat.zero_add, Nat.reduceAdd, Nat.reduceSub, Nat.reduceLeDiff, if_true, if_false, ite_true, ite_false, Bool.false_eq_true, reduceIte, Bool.not_true, Bool.not_false, Int.reducePow, Int.reduceToNat, Int.reduceMul, Int.reduceAdd, Int.reduceSub, addD, subD, negD, ltR, leR, gtR, geR, eqR_int, neR_int, eqR_bl, neR_bl, absR, max2R, min2R, intR, mulRi, divRi, powRi, modR, absI, len_fr, len_tb, isiT_fr, isiT_tb, isiI_int, isiB_int, isiB_bl, isiL_lst, isiT_tup, items_tb, items_fr, zip_tb, all4, addD_tup2, addD_lst2, eLc, lcL, cYes, wipeE, gN, gTup_tup, gTup_tb, gTup_fr, gLs_lst, gCons, gNil, tuple_lst, List.set_cons_zero, List.set_cons_succ, List.set_nil, ix_fr0, ix_fr1, ix_tb0, ix_tb1, ix_tb2, ix_tb3, eqR_fr, neR_fr, eqR_tb, neR_tb, e0]; try rfl)) (by have := hP x; simpa using this)
    · have e0 : decide ((0 : Int) < (k : Int)) = true := decide_eq_true (by omega)
      have hbk : b * 1 ≤ b * k := Nat.mul_le_mul_left b (by omega)
      have bx : Bd x b := ⟨hx⟩
      have bf : Bd f c := ⟨hf⟩
      have l1 : c + b < 1000000 := by omega
      have l2 : b + b < 1000000 := by omega
      have hd : ((k : Int) / 2) = ((k / 2 : Nat) : Int) := by omega
      have eo : ((k : Int) % 2 == 1) = decide (k % 2 = 1) := by
        rw [Bool.eq_iff_iff, beq_iff_eq, decide_eq_true_iff]; omega
      have hbk2 : b * (k / 2) * 2 ≤ b * k := by rw [Nat.mul_assoc]; exact Nat.mul_le_mul_left b (by omega)
      refine while_go (by (simp (disch := first | decide | assumption | omega) only [startE, List.map_cons, List.map_nil, List.replicate, eVar, eC, PT.e1, PT.e2, aNil, aCons, eCall, tupR, lstR, eTup, eLst, eIte, eLenO, eIxO, cT, cAnd, cOr, cNot, andV, orV, notD, truR, truD, bindR, bindRB, bindRL, bindL, bindB, bindBB, bindLL, toD, okD, okI, okB, itA, itD, items_tup, items_lst, items_scr, len_tup, len_lst, len_scr, List.getElem?_cons_zero, List.getElem?_cons_succ, List.length_cons, List.length_nil, List.length_map, List.cons_append, List.nil_append, List.append_nil, Nat.zero_add, Nat.reduceAdd, Nat.reduceSub, Nat.reduceLeDiff, if_true, if_false, ite_true, ite_false, Bool.false_eq_true, reduceIte, Bool.not_true, Bool.not_false, Int.reducePow, Int.reduceToNat, Int.reduceMul, Int.reduceAdd, Int.reduceSub, addD, subD, negD, ltR, leR, gtR, geR, eqR_int, neR_int, eqR_bl, neR_bl, absR, max2R, min2R, intR, mulRi, divRi, powRi, modR, absI, len_fr, len_tb, isiT_fr, isiT_tb, isiI_int, isiB_int, isiB_bl, isiL_lst, isiT_tup, items_tb, items_fr, zip_tb, all4, addD_tup2, addD_lst2, eLc, lcL, cYes, wipeE, gN, gTup_tup, gTup_tb, gTup_fr, gLs_lst, gCons, gNil, tuple_lst, List.set_cons_zero, List.set_cons_succ, List.set_nil, ix_fr0, ix_fr1, ix_tb0, ix_tb1, ix_tb2, ix_tb3, eqR_fr, neR_fr, eqR_tb, neR_tb, e0]; try rfl)) ?_
      refine q_ifJ (fun ρ => ρ = [some (.d (.int x)), some (.d (.int k)), some (.d (.int (if k % 2 = 1 then f * x else f)))]) (t := decide (k % 2 = 1)) (by (simp (disch := first | decide | assumption | omega) only [startE, List.map_cons, List.map_nil, List.replicate, eVar, eC, PT.e1, PT.e2, aNil, aCons, eCall, tupR, lstR, eTup, eLst, eIte, eLenO, eIxO, cT, cAnd, cOr, cNot, andV, orV, notD, truR, truD, bindR, bindRB, bindRL, bindL, bindB, bindBB, bindLL, toD, okD, okI, okB, itA, itD, items_tup, items_lst, items_scr, len_tup, len_lst, len_scr, List.getElem?_cons_zero, List.getElem?_cons_succ, List.length_cons, List.length_nil, List.length_map, List.cons_append, List.nil_append, List.append_nil, Nat.zero_add, Nat.reduceAdd, Nat.reduceSub, Nat.reduceLeDiff, if_true, if_false, ite_true, ite_false, Bool.false_eq_true, reduceIte, Bool.not_true, Bool.not_false, Int.reducePow, Int.reduceToNat, Int.reduceMul, Int.reduceAdd, Int.reduceSub, addD, subD, negD, ltR, leR, gtR, geR, eqR_int, neR_int, eqR_bl, neR_bl, absR, max2R, min2R, intR, mulRi, divRi, powRi, modR, absI, len_fr, len_tb, isiT_fr, isiT_tb, isiI_int, isiB_int, isiB_bl, isiL_lst, isiT_tup, items_tb, items_fr, zip_tb, all4, addD_tup2, addD_lst2, eLc, lcL, cYes, wipeE, gN, gTup_tup, gTup_tb, gTup_fr, gLs_lst, gCons, gNil, tuple_lst, List.set_cons_zero, List.set_cons_succ, List.set_nil, ix_fr0, ix_fr1, ix_tb0, ix_tb1, ix_tb2, ix_tb3, eqR_fr, neR_fr, eqR_tb, neR_tb, eo]; try rfl)) ?_ ?_ ?_
      · rintro ρ rfl
        refine q_set (v := .int (x * x)) (by (simp (disch := first | decide | assumption | omega) only [startE, List.map_cons, List.map_nil, List.replicate, eVar, eC, PT.e1, PT.e2, aNil, aCons, eCall, tupR, lstR, eTup, eLst, eIte, eLenO, eIxO, cT, cAnd, cOr, cNot, andV, orV, notD, truR, truD, bindR, bindRB, bindRL, bindL, bindB, bindBB, bindLL, toD, okD, okI, okB, itA, itD, items_tup, items_lst, items_scr, len_tup, len_lst, len_scr, List.getElem?_cons_zero, List.getElem?_cons_succ, List.length_cons, List.length_nil, List.length_map, List.cons_append, List.nil_append, List.append_nil, Nat.zero_add, Nat.reduceAdd, Nat.reduceSub, Nat.reduceLeDiff, if_true, if_false, ite_true, ite_false, Bool.false_eq_true, reduceIte, Bool.not_true, Bool.not_false, Int.reducePow, Int.reduceToNat, Int.reduceMul, Int.reduceAdd, Int.reduceSub, addD, subD, negD, ltR, leR, gtR, geR, eqR_int, neR_int, eqR_bl, neR_bl, absR, max2R, min2R, intR, mulRi, divRi, powRi, modR, absI, len_fr, len_tb, isiT_fr, isiT_tb, isiI_int, isiB_int, isiB_bl, isiL_lst, isiT_tup, items_tb, items_fr, zip_tb, all4, addD_tup2, addD_lst2, eLc, lcL, cYes, wipeE, gN, gTup_tup, gTup_tb, gTup_fr, gLs_lst, gCons, gNil, tuple_lst, List.set_cons_zero, List.set_cons_succ, List.set_nil, ix_fr0, ix_fr1, ix_tb0, ix_tb1, ix_tb2, ix_tb3, eqR_fr, neR_fr, eqR_tb, neR_tb]; try rfl)) ?_
        try simp only [List.set_cons_zero, List.set_cons_succ, startE, List.map_cons, List.map_nil, List.replicate, List.cons_append, List.nil_append, List.append_nil, List.length_cons, List.length_nil, Nat.zero_add, Nat.reduceAdd, Nat.reduceSub]
        refine z_set (v := .int ((k / 2 : Nat) : Int)) (by (simp (disch := first | decide | assumption | omega) only [startE, List.map_cons, List.map_nil, List.replicate, eVar, eC, PT.e1, PT.e2, aNil, aCons, eCall, tupR, lstR, eTup, eLst, eIte, eLenO, eIxO, cT, cAnd, cOr, cNot, andV, orV, notD, truR, truD, bindR, bindRB, bindRL, bindL, bindB, bindBB, bindLL, toD, okD, okI, okB, itA, itD, items_tup, items_lst, items_scr, len_tup, len_lst, len_scr, List.getElem?_cons_zero, List.getElem?_cons_succ, List.length_cons, List.length_nil, List.length_map, List.cons_append, List.nil_append, List.append_nil, Nat.zero_add, Nat.reduceAdd, Nat.reduceSub, Nat.reduceLeDiff, if_true, if_false, ite_true, ite_false, Bool.false_eq_true, reduceIte, Bool.not_true, Bool.not_false, Int.reducePow, Int.reduceToNat, Int.reduceMul, Int.reduceAdd, Int.reduceSub, addD, subD, negD, ltR, leR, gtR, geR, eqR_int, neR_int, eqR_bl, neR_bl, absR, max2R, min2R, intR, mulRi, divRi, powRi, modR, absI, len_fr, len_tb, isiT_fr, isiT_tb, isiI_int, isiB_int, isiB_bl, isiL_lst, isiT_tup, items_tb, items_fr, zip_tb, all4, addD_tup2, addD_lst2, eLc, lcL, cYes, wipeE, gN, gTup_tup, gTup_tb, gTup_fr, gLs_lst, gCons, gNil, tuple_lst, List.set_cons_zero, List.set_cons_succ, List.set_nil, ix_fr0, ix_fr1, ix_tb0, ix_tb1, ix_tb2, ix_tb3, eqR_fr, neR_fr, eqR_tb, neR_tb, hd]; try rfl)) ?_
        try simp only [List.set_cons_zero, List.set_cons_succ, startE, List.map_cons, List.map_nil, List.replicate, List.cons_append, List.nil_append, List.append_nil, List.length_cons, List.length_nil, Nat.zero_add, Nat.reduceAdd, Nat.reduceSub]
        refine ih (k / 2) (b + b) (if k % 2 = 1 then c + b else c) _ _ (by omega) (hx.mul hx (Nat.le_refl _)) ?_ ?_ fun y => ?_
        · split
          · exact hf.mul hx (Nat.le_refl _)
          · exact hf
        · have h1 : (b + b) * (k / 2) = b * (k / 2) * 2 := by rw [Nat.add_mul]; omega
          rw [h1]
          split
          · rename_i ho
            have h2 : b * (k / 2) * 2 + b = b * k := by
              rw [Nat.mul_assoc]
              have : b * (k / 2 * 2) + b * 1 = b * (k / 2 * 2 + 1) := (Nat.mul_add _ _ _).symm
              rw [Nat.mul_one] at this
              rw [this, show k / 2 * 2 + 1 = k by omega]
            omega
          · omega
        · have h3 : (if k % 2 = 1 then f * x else f) * (x * x) ^ (k / 2) = f * x ^ k := by
            rw [show x * x = x ^ 2 by rw [Int.pow_succ, Int.pow_succ, Int.pow_zero, Int.one_mul], ← Int.pow_mul]
            split
            · rename_i ho
              rw [Int.mul_assoc, Int.mul_comm x, ← Int.pow_succ, show (2 * (k / 2)).succ = k by omega]
            · rw [show 2 * (k / 2) = k by omega]
          rw [h3]
          exact hP y
      · intro K hK ht
        have ho := of_decide_eq_true ht
        exact z_set (v := .int (f * x)) (by (simp (disch := first | decide | assumption | omega) only [startE, List.map_cons, List.map_nil, List.replicate, eVar, eC, PT.e1, PT.e2, aNil, aCons, eCall, tupR, lstR, eTup, eLst, eIte, eLenO, eIxO, cT, cAnd, cOr, cNot, andV, orV, notD, truR, truD, bindR, bindRB, bindRL, bindL, bindB, bindBB, bindLL, toD, okD, okI, okB, itA, itD, items_tup, items_lst, items_scr, len_tup, len_lst, len_scr, List.getElem?_cons_zero, List.getElem?_cons_succ, List.length_cons, List.length_nil, List.length_map, List.cons_append, List.nil_append, List.append_nil, Nat.zero_add, Nat.reduceAdd, Nat.reduceSub, Nat.reduceLeDiff, if_true, if_false, ite_true, ite_false, Bool.false_eq_true, reduceIte, Bool.not_true, Bool.not_false, Int.reducePow, Int.reduceToNat, Int.reduceMul, Int.reduceAdd, Int.reduceSub, addD, subD, negD, ltR, leR, gtR, geR, eqR_int, neR_int, eqR_bl, neR_bl, absR, max2R, min2R, intR, mulRi, divRi, powRi, modR, absI, len_fr, len_tb, isiT_fr, isiT_tb, isiI_int, isiB_int, isiB_bl, isiL_lst, isiT_tup, items_tb, items_fr, zip_tb, all4, addD_tup2, addD_lst2, eLc, lcL, cYes, wipeE, gN, gTup_tup, gTup_tb, gTup_fr, gLs_lst, gCons, gNil, tuple_lst, List.set_cons_zero, List.set_cons_succ, List.set_nil, ix_fr0, ix_fr1, ix_tb0, ix_tb1, ix_tb2, ix_tb3, eqR_fr, neR_fr, eqR_tb, neR_tb]; try rfl)) (hK _ (by rw [if_pos ho]; rfl))
      · intro K hK ht
        have ho := of_decide_eq_false ht
        exact hK _ (by rw [if_neg ho])
theorem ev_raised {x : Int} {b k : Nat} (hx : B b x) (l : b * k ≤ 300000) : f_raised [.int x, .int k] = okI (x ^ k) := by
  refine outF_ev rfl ?_
  try simp only [List.set_cons_zero, List.set_cons_succ, startE, List.map_cons, List.map_nil, List.replicate, List.cons_append, List.nil_append, List.append_nil, List.length_cons, List.length_nil, Nat.zero_add, Nat.reduceAdd, Nat.reduceSub]
  refine q_set (v := .int 1) (by (simp (disch := first | decide | assumption | omega) only [startE, List.map_cons, List.map_nil, List.replicate, eVar, eC, PT.e1, PT.e2, aNil, aCons, eCall, tupR, lstR, eTup, eLst, eIte, eLenO, eIxO, cT, cAnd, cOr, cNot, andV, orV, notD, truR, truD, bindR, bindRB, bindRL, bindL, bindB, bindBB, bindLL, toD, okD, okI, okB, itA, itD, items_tup, items_lst, items_scr, len_tup, len_lst, len_scr, List.getElem?_cons_zero, List.getElem?_cons_succ, List.length_cons, List.length_nil, List.length_map, List.cons_append, List.nil_append, List.append_nil, Nat.zero_add, Nat.reduceAdd, Nat.reduceSub, Nat.reduceLeDiff, if_true, if_false, ite_true, ite_false, Bool.false_eq_true, reduceIte, Bool.not_true, Bool.not_false, Int.reducePow, Int.reduceToNat, Int.reduceMul, Int.reduceAdd, Int.reduceSub, addD, subD, negD, ltR, leR, gtR, geR, eqR_int, neR_int, eqR_bl, neR_bl, absR, max2R, min2R, intR, mulRi, divRi, powRi, modR, absI, len_fr, len_tb, isiT_fr, isiT_tb, isiI_int, isiB_int, isiB_bl, isiL_lst, isiT_tup, items_tb, items_fr, zip_tb, all4, addD_tup2, addD_lst2, eLc, lcL, cYes, wipeE, gN, gTup_tup, gTup_tb, gTup_fr, gLs_lst, gCons, gNil, tuple_lst, List.set_cons_zero, List.set_cons_succ, List.set_nil, ix_fr0, ix_fr1, ix_tb0, ix_tb1, ix_tb2, ix_tb3, eqR_fr, neR_fr, eqR_tb, neR_tb]; try rfl)) ?_
  try simp only [List.set_cons_zero, List.set_cons_succ, startE, List.map_cons, List.map_nil, List.replicate, List.cons_append, List.nil_append, List.append_nil, List.length_cons, List.length_nil, Nat.zero_add, Nat.reduceAdd, Nat.reduceSub]
  refine q_while ⟨k + 1, loop_raised _ _ k b 1 x 1 (Nat.lt_succ_self _) hx (by decide) (by omega) fun y => ?_⟩
  try simp only [List.set_cons_zero, List.set_cons_succ, startE, List.map_cons, List.map_nil, List.replicate, List.cons_append, List.nil_append, List.append_nil, List.length_cons, List.length_nil, Nat.zero_add, Nat.reduceAdd, Nat.reduceSub]
  rw [Int.one_mul]
  exact z_ret (by (simp (disch := first | decide | assumption | omega) only [startE, List.map_cons, List.map_nil, List.replicate, eVar, eC, PT.e1, PT.e2, aNil, aCons, eCall, tupR, lstR, eTup, eLst, eIte, eLenO, eIxO, cT, cAnd, cOr, cNot, andV, orV, notD, truR, truD, bindR, bindRB, bindRL, bindL, bindB, bindBB, bindLL, toD, okD, okI, okB, itA, itD, items_tup, items_lst, items_scr, len_tup, len_lst, len_scr, List.getElem?_cons_zero, List.getElem?_cons_succ, List.length_cons, List.length_nil, List.length_map, List.cons_append, List.nil_append, List.append_nil, Nat.zero_add, Nat.reduceAdd, Nat.reduceSub, Nat.reduceLeDiff, if_true, if_false, ite_true, ite_false, Bool.false_eq_true, reduceIte, Bool.not_true, Bool.not_false, Int.reducePow, Int.reduceToNat, Int.reduceMul, Int.reduceAdd, Int.reduceSub, addD, subD, negD, ltR, leR, gtR, geR, eqR_int, neR_int, eqR_bl, neR_bl, absR, max2R, min2R, intR, mulRi, divRi, powRi, modR, absI, len_fr, len_tb, isiT_fr, isiT_tb, isiI_int, isiB_int, isiB_bl, isiL_lst, isiT_tup, items_tb, items_fr, zip_tb, all4, addD_tup2, addD_lst2, eLc, lcL, cYes, wipeE, gN, gTup_tup, gTup_tb, gTup_fr, gLs_lst, gCons, gNil, tuple_lst, List.set_cons_zero, List.set_cons_succ, List.set_nil, ix_fr0, ix_fr1, ix_tb0, ix_tb1, ix_tb2, ix_tb3, eqR_fr, neR_fr, eqR_tb, neR_tb]; try rfl)) rfl
/-! ### turned over by a power of the prime -/
theorem Pr.pow_bd {p : Int} (hp : Pr p) (k : Nat) : B (3 * k + 1) (p ^ k) := hp.bd.pow k
theorem Pr.pow_pos {p : Int} (hp : Pr p) (k : Nat) : 0 < p ^ k := Int.pow_pos hp.pos
theorem bd_lt {x y : Int} {b : Nat} (h0 : 0 ≤ x) (h : x < y) (hy : B b y) : B b x := hy.le (by omega)
theorem loop_find (P : PD) {p n : Int} {b : Nat} (hp : Pr p) (hn : B b n) (l : b < 900000) (x2 x4 : Option SV) (x : Nat) (hx : (x : Int) < p) (he : n * x % p = 1) (hP : ∀ f : Int, 1 ≤ f → f < p → n * f % p = 1 → P.nx [some (.d (.int p)), some (.d (.int n)), x2, some (.d (.int f)), x4]) : ∀ (d c : Nat), c + d = x → 1 ≤ c →
    wWhileN (cT (e2 neR (e2 modD (e2 mulD (eVar 1) (eVar 3)) (eVar 0)) (eC (.int 1)))) (wSet 3 (e2 addD (eVar 3) (eC (.int 1)))) P (d + 1) [some (.d (.int p)), some (.d (.int n)), x2, some (.d (.int c)), x4] := by
  intro d
  have pp := hp.pos
  have p7 := hp.le
  have bn : Bd n b := ⟨hn⟩
  have l1 : b + 10 < 1000000 := by omega
  induction d with
  | zero =>
    intro c hc h1
    have bc : Bd (c : Int) 10 := ⟨B.of (by omega) (by omega)⟩
    have e0 : (n * (c : Int) % p == 1) = true := by rw [show c = x by omega, he]; rfl
    exact while_end (by (simp (disch := first | decide | assumption | omega) only [startE, List.map_cons, List.map_nil, List.replicate, eVar, eC, PT.e1, PT.e2, aNil, aCons, eCall, tupR, lstR, eTup, eLst, eIte, eLenO, eIxO, cT, cAnd, cOr, cNot, andV, orV, notD, truR, truD, bindR, bindRB, bindRL, bindL, bindB, bindBB, bindLL, toD, okD, okI, okB, itA, itD, items_tup, items_lst, items_scr, len_tup, len_lst, len_scr, List.getElem?_cons_zero, List.getElem?_cons_succ, List.length_cons, List.length_nil, List.length_map, List.cons_append, List.nil_append, List.append_nil, Nat.zero_add, Nat.reduceAdd, Nat.reduceSub, Nat.reduceLeDiff, if_true, if_false, ite_true, ite_false, Bool.false_eq_true, reduceIte, Bool.not_true, Bool.not_false, Int.reducePow, Int.reduceToNat, Int.reduceMul, Int.reduceAdd, Int.reduceSub, addD, subD, negD, ltR, leR, gtR, geR, eqR_int, neR_int, eqR_bl, neR_bl, absR, max2R, min2R, intR, mulRi, divRi, powRi, modR, absI, len_fr, len_tb, isiT_fr, isiT_tb, isiI_int, isiB_int, isiB_bl, isiL_lst, isiT_tup, items_tb, items_fr, zip_tb, all4, addD_tup2, addD_lst2, eLc, lcL, cYes, wipeE, gN, gTup_tup, gTup_tb, gTup_fr, gLs_lst, gCons, gNil, tuple_lst, List.set_cons_zero, List.set_cons_succ, List.set_nil, ix_fr0, ix_fr1, ix_tb0, ix_tb1, ix_tb2, ix_tb3, eqR_fr, neR_fr, eqR_tb, neR_tb, e0]; try rfl)) (hP c (by omega) (by omega) (by rw [show c = x by omega]; exact he))
  | succ d ih =>
    intro c hc h1
    have bc : Bd (c : Int) 10 := ⟨B.of (by omega) (by omega)⟩
    by_cases hz : n * (c : Int) % p = 1
    · have e0 : (n * (c : Int) % p == 1) = true := by rw [hz]; rfl
      exact while_end (by (simp (disch := first | decide | assumption | omega) only [startE, List.map_cons, List.map_nil, List.replicate, eVar, eC, PT.e1, PT.e2, aNil, aCons, eCall, tupR, lstR, eTup, eLst, eIte, eLenO, eIxO, cT, cAnd, cOr, cNot, andV, orV, notD, truR, truD, bindR, bindRB, bindRL, bindL, bindB, bindBB, bindLL, toD, okD, okI, okB, itA, itD, items_tup, items_lst, items_scr, len_tup, len_lst, len_scr, List.getElem?_cons_zero, List.getElem?_cons_succ, List.length_cons, List.length_nil, List.length_map, List.cons_append, List.nil_append, List.append_nil, Nat.zero_add, Nat.reduceAdd, Nat.reduceSub, Nat.reduceLeDiff, if_true, if_false, ite_true, ite_false, Bool.false_eq_true, reduceIte, Bool.not_true, Bool.not_false, Int.reducePow, Int.reduceToNat, Int.reduceMul, Int.reduceAdd, Int.reduceSub, addD, subD, negD, ltR, leR, gtR, geR, eqR_int, neR_int, eqR_bl, neR_bl, absR, max2R, min2R, intR, mulRi, divRi, powRi, modR, absI, len_fr, len_tb, isiT_fr, isiT_tb, isiI_int, isiB_int, isiB_bl, isiL_lst, isiT_tup, items_tb, items_fr, zip_tb, all4, addD_tup2, addD_lst2, eLc, lcL, cYes, wipeE, gN, gTup_tup, gTup_tb, gTup_fr, gLs_lst, gCons, gNil, tuple_lst, List.set_cons_zero, List.set_cons_succ, List.set_nil, ix_fr0, ix_fr1, ix_tb0, ix_tb1, ix_tb2, ix_tb3, eqR_fr, neR_fr, eqR_tb, neR_tb, e0]; try rfl)) (hP c (by omega) (by omega) hz)
    · have e0 : (n * (c : Int) % p == 1) = false := by simpa using hz
      refine while_go (by (simp (disch := first | decide | assumption | omega) only [startE, List.map_cons, List.map_nil, List.replicate, eVar, eC, PT.e1, PT.e2, aNil, aCons, eCall, tupR, lstR, eTup, eLst, eIte, eLenO, eIxO, cT, cAnd, cOr, cNot, andV, orV, notD, truR, truD, bindR, bindRB, bindRL, bindL, bindB, bindBB, bindLL, toD, okD, okI, okB, itA, itD, items_tup, items_lst, items_scr, len_tup, len_lst, len_scr, List.getElem?_cons_zero, List.getElem?_cons_succ, List.length_cons, List.length_nil, List.length_map, List.cons_append, List.nil_append, List.append_nil, Nat.zero_add, Nat.reduceAdd, Nat.reduceSub, Nat.reduceLeDiff, if_true, if_false, ite_true, ite_false, Bool.false_eq_true, reduceIte, Bool.not_true, Bool.not_false, Int.reducePow, Int.reduceToNat, Int.reduceMul, Int.reduceAdd, Int.reduceSub, addD, subD, negD, ltR, leR, gtR, geR, eqR_int, neR_int, eqR_bl, neR_bl, absR, max2R, min2R, intR, mulRi, divRi, powRi, modR, absI, len_fr, len_tb, isiT_fr, isiT_tb, isiI_int, isiB_int, isiB_bl, isiL_lst, isiT_tup, items_tb, items_fr, zip_tb, all4, addD_tup2, addD_lst2, eLc, lcL, cYes, wipeE, gN, gTup_tup, gTup_tb, gTup_fr, gLs_lst, gCons, gNil, tuple_lst, List.set_cons_zero, List.set_cons_succ, List.set_nil, ix_fr0, ix_fr1, ix_tb0, ix_tb1, ix_tb2, ix_tb3, eqR_fr, neR_fr, eqR_tb, neR_tb, e0]; try rfl)) (z_set (v := .int ((c + 1 : Nat) : Int)) (by (simp (disch := first | decide | assumption | omega) only [startE, List.map_cons, List.map_nil, List.replicate, eVar, eC, PT.e1, PT.e2, aNil, aCons, eCall, tupR, lstR, eTup, eLst, eIte, eLenO, eIxO, cT, cAnd, cOr, cNot, andV, orV, notD, truR, truD, bindR, bindRB, bindRL, bindL, bindB, bindBB, bindLL, toD, okD, okI, okB, itA, itD, items_tup, items_lst, items_scr, len_tup, len_lst, len_scr, List.getElem?_cons_zero, List.getElem?_cons_succ, List.length_cons, List.length_nil, List.length_map, List.cons_append, List.nil_append, List.append_nil, Nat.zero_add, Nat.reduceAdd, Nat.reduceSub, Nat.reduceLeDiff, if_true, if_false, ite_true, ite_false, Bool.false_eq_true, reduceIte, Bool.not_true, Bool.not_false, Int.reducePow, Int.reduceToNat, Int.reduceMul, Int.reduceAdd, Int.reduceSub, addD, subD, negD, ltR, leR, gtR, geR, eqR_int, neR_int, eqR_bl, neR_bl, absR, max2R, min2R, intR, mulRi, divRi, powRi, modR, absI, len_fr, len_tb, isiT_fr, isiT_tb, isiI_int, isiB_int, isiB_bl, isiL_lst, isiT_tup, items_tb, items_fr, zip_tb, all4, addD_tup2, addD_lst2, eLc, lcL, cYes, wipeE, gN, gTup_tup, gTup_tb, gTup_fr, gLs_lst, gCons, gNil, tuple_lst, List.set_cons_zero, List.set_cons_succ, List.set_nil, ix_fr0, ix_fr1, ix_tb0, ix_tb1, ix_tb2, ix_tb3, eqR_fr, neR_fr, eqR_tb, neR_tb]; try rfl)) ?_)
      try simp only [List.set_cons_zero, List.set_cons_succ, startE, List.map_cons, List.map_nil, List.replicate, List.cons_append, List.nil_append, List.append_nil, List.length_cons, List.length_nil, Nat.zero_add, Nat.reduceAdd, Nat.reduceSub]
      exact ih (c + 1) (by omega) (by omega)
theorem newton {p n f M : Int} {s t : Nat} (hM : M = p ^ t) (hp : 0 < p) (ht : t ≤ 2 * s) (h : p ^ s ∣ n * f - 1) : M ∣ n * (f * (2 - n * f) % M) - 1 := by
  obtain ⟨c, hc⟩ := h
  have e : n * (f * (2 - n * f) % M) - 1 = M * (-(p ^ (2 * s - t) * (c * c)) - n * (f * (2 - n * f) / M)) := by
    rw [Int.emod_def]
    have e2 : M * p ^ (2 * s - t) = p ^ s * p ^ s := by
      rw [hM, ← Int.pow_add, ← Int.pow_add]; congr 1; omega
    have e3 : n * f = p ^ s * c + 1 := by omega
    generalize f * (2 - n * f) / M = q
    grind
  exact ⟨_, e⟩
theorem loop_newton (P : PD) {p n : Int} {b k : Nat} (hp : Pr p) (hn : B b n) (l : b ≤ 100000) (lk : k ≤ 10000) (hP : ∀ f : Int, 0 ≤ f → f < p ^ k → p ^ k ∣ n * f - 1 → P.nx [some (.d (.int p)), some (.d (.int n)), some (.d (.int k)), some (.d (.int f)), some (.d (.int k))]) : ∀ (m s : Nat) (f : Int), k - s < m → 1 ≤ s → s ≤ k → 0 ≤ f → f < p ^ s → p ^ s ∣ n * f - 1 →
    wWhileN (cT (e2 ltR (eVar 4) (eVar 2))) (wSeq (wSet 4 (eCall min2R (aCons (e2 mulD (eC (.int 2)) (eVar 4)) (aCons (eVar 2) (aNil))))) (wSet 3 (e2 modD (e2 mulD (eVar 3) (e2 subD (eC (.int 2)) (e2 mulD (eVar 1) (eVar 3)))) (eCall f_raised (aCons (eVar 0) (aCons (eVar 4) (aNil))))))) P m [some (.d (.int p)), some (.d (.int n)), some (.d (.int k)), some (.d (.int f)), some (.d (.int s))] := by
  intro m
  induction m with
  | zero => intro s f h; omega
  | succ m ih =>
    intro s f h h1 hs h0 hf hd
    by_cases hk : s = k
    · subst hk
      have e0 : decide ((s : Int) < (s : Int)) = false := decide_eq_false (by omega)
      exact while_end (by (simp (disch := first | decide | assumption | omega) only [startE, List.map_cons, List.map_nil, List.replicate, eVar, eC, PT.e1, PT.e2, aNil, aCons, eCall, tupR, lstR, eTup, eLst, eIte, eLenO, eIxO, cT, cAnd, cOr, cNot, andV, orV, notD, truR, truD, bindR, bindRB, bindRL, bindL, bindB, bindBB, bindLL, toD, okD, okI, okB, itA, itD, items_tup, items_lst, items_scr, len_tup, len_lst, len_scr, List.getElem?_cons_zero, List.getElem?_cons_succ, List.length_cons, List.length_nil, List.length_map, List.cons_append, List.nil_append, List.append_nil, Nat.zero_add, Nat.reduceAdd, Nat.reduceSub, Nat.reduceLeDiff, if_true, if_false, ite_true, ite_false, Bool.false_eq_true, reduceIte, Bool.not_true, Bool.not_false, Int.reducePow, Int.reduceToNat, Int.reduceMul, Int.reduceAdd, Int.reduceSub, addD, subD, negD, ltR, leR, gtR, geR, eqR_int, neR_int, eqR_bl, neR_bl, absR, max2R, min2R, intR, mulRi, divRi, powRi, modR, absI, len_fr, len_tb, isiT_fr, isiT_tb, isiI_int, isiB_int, isiB_bl, isiL_lst, isiT_tup, items_tb, items_fr, zip_tb, all4, addD_tup2, addD_lst2, eLc, lcL, cYes, wipeE, gN, gTup_tup, gTup_tb, gTup_fr, gLs_lst, gCons, gNil, tuple_lst, List.set_cons_zero, List.set_cons_succ, List.set_nil, ix_fr0, ix_fr1, ix_tb0, ix_tb1, ix_tb2, ix_tb3, eqR_fr, neR_fr, eqR_tb, neR_tb, e0]; try rfl)) (hP f h0 hf hd)
    · have e0 : decide ((s : Int) < (k : Int)) = true := decide_eq_true (by omega)
      obtain ⟨t, ht, e1⟩ : ∃ t : Nat, (s < t ∧ t ≤ k ∧ t ≤ 2 * s) ∧ (if (k : Int) < 2 * (s : Int) then (k : Int) else 2 * (s : Int)) = (t : Int) := by
        by_cases h2 : k < 2 * s
        · exact ⟨k, ⟨by omega, by omega, by omega⟩, by rw [if_pos (by omega)]⟩
        · exact ⟨2 * s, ⟨by omega, by omega, by omega⟩, by rw [if_neg (by omega)]; push_cast; rfl⟩
      have bs : Bd (s : Int) 20 := ⟨B.of (by omega) (by omega)⟩
      have bf : Bd f 30001 := ⟨(bd_lt h0 hf (hp.pow_bd s)).mono (by omega)⟩
      have bn : Bd n 100000 := ⟨hn.mono l⟩
      have pt := hp.pow_pos t
      refine while_go (by (simp (disch := first | decide | assumption | omega) only [startE, List.map_cons, List.map_nil, List.replicate, eVar, eC, PT.e1, PT.e2, aNil, aCons, eCall, tupR, lstR, eTup, eLst, eIte, eLenO, eIxO, cT, cAnd, cOr, cNot, andV, orV, notD, truR, truD, bindR, bindRB, bindRL, bindL, bindB, bindBB, bindLL, toD, okD, okI, okB, itA, itD, items_tup, items_lst, items_scr, len_tup, len_lst, len_scr, List.getElem?_cons_zero, List.getElem?_cons_succ, List.length_cons, List.length_nil, List.length_map, List.cons_append, List.nil_append, List.append_nil, Nat.zero_add, Nat.reduceAdd, Nat.reduceSub, Nat.reduceLeDiff, if_true, if_false, ite_true, ite_false, Bool.false_eq_true, reduceIte, Bool.not_true, Bool.not_false, Int.reducePow, Int.reduceToNat, Int.reduceMul, Int.reduceAdd, Int.reduceSub, addD, subD, negD, ltR, leR, gtR, geR, eqR_int, neR_int, eqR_bl, neR_bl, absR, max2R, min2R, intR, mulRi, divRi, powRi, modR, absI, len_fr, len_tb, isiT_fr, isiT_tb, isiI_int, isiB_int, isiB_bl, isiL_lst, isiT_tup, items_tb, items_fr, zip_tb, all4, addD_tup2, addD_lst2, eLc, lcL, cYes, wipeE, gN, gTup_tup, gTup_tb, gTup_fr, gLs_lst, gCons, gNil, tuple_lst, List.set_cons_zero, List.set_cons_succ, List.set_nil, ix_fr0, ix_fr1, ix_tb0, ix_tb1, ix_tb2, ix_tb3, eqR_fr, neR_fr, eqR_tb, neR_tb, e0]; try rfl)) (q_set (v := .int t) (by (simp (disch := first | decide | assumption | omega) only [startE, List.map_cons, List.map_nil, List.replicate, eVar, eC, PT.e1, PT.e2, aNil, aCons, eCall, tupR, lstR, eTup, eLst, eIte, eLenO, eIxO, cT, cAnd, cOr, cNot, andV, orV, notD, truR, truD, bindR, bindRB, bindRL, bindL, bindB, bindBB, bindLL, toD, okD, okI, okB, itA, itD, items_tup, items_lst, items_scr, len_tup, len_lst, len_scr, List.getElem?_cons_zero, List.getElem?_cons_succ, List.length_cons, List.length_nil, List.length_map, List.cons_append, List.nil_append, List.append_nil, Nat.zero_add, Nat.reduceAdd, Nat.reduceSub, Nat.reduceLeDiff, if_true, if_false, ite_true, ite_false, Bool.false_eq_true, reduceIte, Bool.not_true, Bool.not_false, Int.reducePow, Int.reduceToNat, Int.reduceMul, Int.reduceAdd, Int.reduceSub, addD, subD, negD, ltR, leR, gtR, geR, eqR_int, neR_int, eqR_bl, neR_bl, absR, max2R, min2R, intR, mulRi, divRi, powRi, modR, absI, len_fr, len_tb, isiT_fr, isiT_tb, isiI_int, isiB_int, isiB_bl, isiL_lst, isiT_tup, items_tb, items_fr, zip_tb, all4, addD_tup2, addD_lst2, eLc, lcL, cYes, wipeE, gN, gTup_tup, gTup_tb, gTup_fr, gLs_lst, gCons, gNil, tuple_lst, List.set_cons_zero, List.set_cons_succ, List.set_nil, ix_fr0, ix_fr1, ix_tb0, ix_tb1, ix_tb2, ix_tb3, eqR_fr, neR_fr, eqR_tb, neR_tb, e1]; try rfl)) ?_)
      try simp only [List.set_cons_zero, List.set_cons_succ, startE, List.map_cons, List.map_nil, List.replicate, List.cons_append, List.nil_append, List.append_nil, List.length_cons, List.length_nil, Nat.zero_add, Nat.reduceAdd, Nat.reduceSub]
      refine z_set (v := .int (f * (2 - n * f) % p ^ t)) (by (simp (disch := first | decide | assumption | omega) only [startE, List.map_cons, List.map_nil, List.replicate, eVar, eC, PT.e1, PT.e2, aNil, aCons, eCall, tupR, lstR, eTup, eLst, eIte, eLenO, eIxO, cT, cAnd, cOr, cNot, andV, orV, notD, truR, truD, bindR, bindRB, bindRL, bindL, bindB, bindBB, bindLL, toD, okD, okI, okB, itA, itD, items_tup, items_lst, items_scr, len_tup, len_lst, len_scr, List.getElem?_cons_zero, List.getElem?_cons_succ, List.length_cons, List.length_nil, List.length_map, List.cons_append, List.nil_append, List.append_nil, Nat.zero_add, Nat.reduceAdd, Nat.reduceSub, Nat.reduceLeDiff, if_true, if_false, ite_true, ite_false, Bool.false_eq_true, reduceIte, Bool.not_true, Bool.not_false, Int.reducePow, Int.reduceToNat, Int.reduceMul, Int.reduceAdd, Int.reduceSub, addD, subD, negD, ltR, leR, gtR, geR, eqR_int, neR_int, eqR_bl, neR_bl, absR, max2R, min2R, intR, mulRi, divRi, powRi, modR, absI, len_fr, len_tb, isiT_fr, isiT_tb, isiI_int, isiB_int, isiB_bl, isiL_lst, isiT_tup, items_tb, items_fr, zip_tb, all4, addD_tup2, addD_lst2, eLc, lcL, cYes, wipeE, gN, gTup_tup, gTup_tb, gTup_fr, gLs_lst, gCons, gNil, tuple_lst, List.set_cons_zero, List.set_cons_succ, List.set_nil, ix_fr0, ix_fr1, ix_tb0, ix_tb1, ix_tb2, ix_tb3, eqR_fr, neR_fr, eqR_tb, neR_tb, ev_raised (k := t) hp.bd (by omega)]; try rfl)) ?_
      try simp only [List.set_cons_zero, List.set_cons_succ, startE, List.map_cons, List.map_nil, List.replicate, List.cons_append, List.nil_append, List.append_nil, List.length_cons, List.length_nil, Nat.zero_add, Nat.reduceAdd, Nat.reduceSub]
      exact ih t _ (by omega) (by omega) (by omega) (Int.emod_nonneg _ (by omega)) (Int.emod_lt_of_pos _ pt) (newton rfl hp.pos ht.2.2 hd)
theorem ev_over_by {p n : Int} {b k : Nat} (hp : Pr p) (hn : B b n) (hd : 0 < k → ¬ p ∣ n) (l : b ≤ 100000) (lk : k ≤ 10000) : ∃ x : Int, (0 ≤ x ∧ x < p ^ k ∧ p ^ k ∣ n * x - 1) ∧ f_over_by [.int p, .int n, .int k] = okI x := by
  refine postI rfl ?_
  try simp only [List.set_cons_zero, List.set_cons_succ, startE, List.map_cons, List.map_nil, List.replicate, List.cons_append, List.nil_append, List.append_nil, List.length_cons, List.length_nil, Nat.zero_add, Nat.reduceAdd, Nat.reduceSub]
  by_cases hk : k = 0
  · subst hk
    have e0 : (((0 : Nat) : Int) == 0) = true := rfl
    exact q_ifN (t := true) (by (simp (disch := first | decide | assumption | omega) only [startE, List.map_cons, List.map_nil, List.replicate, eVar, eC, PT.e1, PT.e2, aNil, aCons, eCall, tupR, lstR, eTup, eLst, eIte, eLenO, eIxO, cT, cAnd, cOr, cNot, andV, orV, notD, truR, truD, bindR, bindRB, bindRL, bindL, bindB, bindBB, bindLL, toD, okD, okI, okB, itA, itD, items_tup, items_lst, items_scr, len_tup, len_lst, len_scr, List.getElem?_cons_zero, List.getElem?_cons_succ, List.length_cons, List.length_nil, List.length_map, List.cons_append, List.nil_append, List.append_nil, Nat.zero_add, Nat.reduceAdd, Nat.reduceSub, Nat.reduceLeDiff, if_true, if_false, ite_true, ite_false, Bool.false_eq_true, reduceIte, Bool.not_true, Bool.not_false, Int.reducePow, Int.reduceToNat, Int.reduceMul, Int.reduceAdd, Int.reduceSub, addD, subD, negD, ltR, leR, gtR, geR, eqR_int, neR_int, eqR_bl, neR_bl, absR, max2R, min2R, intR, mulRi, divRi, powRi, modR, absI, len_fr, len_tb, isiT_fr, isiT_tb, isiI_int, isiB_int, isiB_bl, isiL_lst, isiT_tup, items_tb, items_fr, zip_tb, all4, addD_tup2, addD_lst2, eLc, lcL, cYes, wipeE, gN, gTup_tup, gTup_tb, gTup_fr, gLs_lst, gCons, gNil, tuple_lst, List.set_cons_zero, List.set_cons_succ, List.set_nil, ix_fr0, ix_fr1, ix_tb0, ix_tb1, ix_tb2, ix_tb3, eqR_fr, neR_fr, eqR_tb, neR_tb, e0]; try rfl)) (fun _ => z_ret (by (simp (disch := first | decide | assumption | omega) only [startE, List.map_cons, List.map_nil, List.replicate, eVar, eC, PT.e1, PT.e2, aNil, aCons, eCall, tupR, lstR, eTup, eLst, eIte, eLenO, eIxO, cT, cAnd, cOr, cNot, andV, orV, notD, truR, truD, bindR, bindRB, bindRL, bindL, bindB, bindBB, bindLL, toD, okD, okI, okB, itA, itD, items_tup, items_lst, items_scr, len_tup, len_lst, len_scr, List.getElem?_cons_zero, List.getElem?_cons_succ, List.length_cons, List.length_nil, List.length_map, List.cons_append, List.nil_append, List.append_nil, Nat.zero_add, Nat.reduceAdd, Nat.reduceSub, Nat.reduceLeDiff, if_true, if_false, ite_true, ite_false, Bool.false_eq_true, reduceIte, Bool.not_true, Bool.not_false, Int.reducePow, Int.reduceToNat, Int.reduceMul, Int.reduceAdd, Int.reduceSub, addD, subD, negD, ltR, leR, gtR, geR, eqR_int, neR_int, eqR_bl, neR_bl, absR, max2R, min2R, intR, mulRi, divRi, powRi, modR, absI, len_fr, len_tb, isiT_fr, isiT_tb, isiI_int, isiB_int, isiB_bl, isiL_lst, isiT_tup, items_tb, items_fr, zip_tb, all4, addD_tup2, addD_lst2, eLc, lcL, cYes, wipeE, gN, gTup_tup, gTup_tb, gTup_fr, gLs_lst, gCons, gNil, tuple_lst, List.set_cons_zero, List.set_cons_succ, List.set_nil, ix_fr0, ix_fr1, ix_tb0, ix_tb1, ix_tb2, ix_tb3, eqR_fr, neR_fr, eqR_tb, neR_tb]; try rfl)) ⟨0, ⟨by decide, by rw [Int.pow_zero]; decide, by rw [Int.pow_zero]; exact Int.one_dvd _⟩, rfl⟩) fun z => by cases z
  · have e0 : ((k : Int) == 0) = false := by simpa using hk
    obtain ⟨x, hx, he⟩ := hp.inv (hd (by omega))
    have hx1 : 1 ≤ x := by
      rcases Nat.eq_zero_or_pos x with z | z
      · rw [z] at he; simp at he
      · exact z
    refine q_ifN (t := false) (by (simp (disch := first | decide | assumption | omega) only [startE, List.map_cons, List.map_nil, List.replicate, eVar, eC, PT.e1, PT.e2, aNil, aCons, eCall, tupR, lstR, eTup, eLst, eIte, eLenO, eIxO, cT, cAnd, cOr, cNot, andV, orV, notD, truR, truD, bindR, bindRB, bindRL, bindL, bindB, bindBB, bindLL, toD, okD, okI, okB, itA, itD, items_tup, items_lst, items_scr, len_tup, len_lst, len_scr, List.getElem?_cons_zero, List.getElem?_cons_succ, List.length_cons, List.length_nil, List.length_map, List.cons_append, List.nil_append, List.append_nil, Nat.zero_add, Nat.reduceAdd, Nat.reduceSub, Nat.reduceLeDiff, if_true, if_false, ite_true, ite_false, Bool.false_eq_true, reduceIte, Bool.not_true, Bool.not_false, Int.reducePow, Int.reduceToNat, Int.reduceMul, Int.reduceAdd, Int.reduceSub, addD, subD, negD, ltR, leR, gtR, geR, eqR_int, neR_int, eqR_bl, neR_bl, absR, max2R, min2R, intR, mulRi, divRi, powRi, modR, absI, len_fr, len_tb, isiT_fr, isiT_tb, isiI_int, isiB_int, isiB_bl, isiL_lst, isiT_tup, items_tb, items_fr, zip_tb, all4, addD_tup2, addD_lst2, eLc, lcL, cYes, wipeE, gN, gTup_tup, gTup_tb, gTup_fr, gLs_lst, gCons, gNil, tuple_lst, List.set_cons_zero, List.set_cons_succ, List.set_nil, ix_fr0, ix_fr1, ix_tb0, ix_tb1, ix_tb2, ix_tb3, eqR_fr, neR_fr, eqR_tb, neR_tb, e0]; try rfl)) (fun z => by cases z) fun _ => ?_
    refine q_set (v := .int 1) (by (simp (disch := first | decide | assumption | omega) only [startE, List.map_cons, List.map_nil, List.replicate, eVar, eC, PT.e1, PT.e2, aNil, aCons, eCall, tupR, lstR, eTup, eLst, eIte, eLenO, eIxO, cT, cAnd, cOr, cNot, andV, orV, notD, truR, truD, bindR, bindRB, bindRL, bindL, bindB, bindBB, bindLL, toD, okD, okI, okB, itA, itD, items_tup, items_lst, items_scr, len_tup, len_lst, len_scr, List.getElem?_cons_zero, List.getElem?_cons_succ, List.length_cons, List.length_nil, List.length_map, List.cons_append, List.nil_append, List.append_nil, Nat.zero_add, Nat.reduceAdd, Nat.reduceSub, Nat.reduceLeDiff, if_true, if_false, ite_true, ite_false, Bool.false_eq_true, reduceIte, Bool.not_true, Bool.not_false, Int.reducePow, Int.reduceToNat, Int.reduceMul, Int.reduceAdd, Int.reduceSub, addD, subD, negD, ltR, leR, gtR, geR, eqR_int, neR_int, eqR_bl, neR_bl, absR, max2R, min2R, intR, mulRi, divRi, powRi, modR, absI, len_fr, len_tb, isiT_fr, isiT_tb, isiI_int, isiB_int, isiB_bl, isiL_lst, isiT_tup, items_tb, items_fr, zip_tb, all4, addD_tup2, addD_lst2, eLc, lcL, cYes, wipeE, gN, gTup_tup, gTup_tb, gTup_fr, gLs_lst, gCons, gNil, tuple_lst, List.set_cons_zero, List.set_cons_succ, List.set_nil, ix_fr0, ix_fr1, ix_tb0, ix_tb1, ix_tb2, ix_tb3, eqR_fr, neR_fr, eqR_tb, neR_tb]; try rfl)) ?_
    try simp only [List.set_cons_zero, List.set_cons_succ, startE, List.map_cons, List.map_nil, List.replicate, List.cons_append, List.nil_append, List.append_nil, List.length_cons, List.length_nil, Nat.zero_add, Nat.reduceAdd, Nat.reduceSub]
    refine q_while ⟨x - 1 + 1, loop_find _ hp hn (by omega) _ _ x hx he (fun f h1 h2 h3 => ?_) (x - 1) 1 (by omega) (by decide)⟩
    try simp only [List.set_cons_zero, List.set_cons_succ, startE, List.map_cons, List.map_nil, List.replicate, List.cons_append, List.nil_append, List.append_nil, List.length_cons, List.length_nil, Nat.zero_add, Nat.reduceAdd, Nat.reduceSub]
    refine q_set (v := .int 1) (by (simp (disch := first | decide | assumption | omega) only [startE, List.map_cons, List.map_nil, List.replicate, eVar, eC, PT.e1, PT.e2, aNil, aCons, eCall, tupR, lstR, eTup, eLst, eIte, eLenO, eIxO, cT, cAnd, cOr, cNot, andV, orV, notD, truR, truD, bindR, bindRB, bindRL, bindL, bindB, bindBB, bindLL, toD, okD, okI, okB, itA, itD, items_tup, items_lst, items_scr, len_tup, len_lst, len_scr, List.getElem?_cons_zero, List.getElem?_cons_succ, List.length_cons, List.length_nil, List.length_map, List.cons_append, List.nil_append, List.append_nil, Nat.zero_add, Nat.reduceAdd, Nat.reduceSub, Nat.reduceLeDiff, if_true, if_false, ite_true, ite_false, Bool.false_eq_true, reduceIte, Bool.not_true, Bool.not_false, Int.reducePow, Int.reduceToNat, Int.reduceMul, Int.reduceAdd, Int.reduceSub, addD, subD, negD, ltR, leR, gtR, geR, eqR_int, neR_int, eqR_bl, neR_bl, absR, max2R, min2R, intR, mulRi, divRi, powRi, modR, absI, len_fr, len_tb, isiT_fr, isiT_tb, isiI_int, isiB_int, isiB_bl, isiL_lst, isiT_tup, items_tb, items_fr, zip_tb, all4, addD_tup2, addD_lst2, eLc, lcL, cYes, wipeE, gN, gTup_tup, gTup_tb, gTup_fr, gLs_lst, gCons, gNil, tuple_lst, List.set_cons_zero, List.set_cons_succ, List.set_nil, ix_fr0, ix_fr1, ix_tb0, ix_tb1, ix_tb2, ix_tb3, eqR_fr, neR_fr, eqR_tb, neR_tb]; try rfl)) ?_
    try simp only [List.set_cons_zero, List.set_cons_succ, startE, List.map_cons, List.map_nil, List.replicate, List.cons_append, List.nil_append, List.append_nil, List.length_cons, List.length_nil, Nat.zero_add, Nat.reduceAdd, Nat.reduceSub]
    refine q_while ⟨k + 1, loop_newton _ hp hn l lk (fun g g1 g2 g3 => ?_) (k + 1) 1 f (by omega) (by decide) (by omega) (by omega) (by rw [Int.pow_succ, Int.pow_zero, Int.one_mul]; exact h2) ?_⟩
    · try simp only [List.set_cons_zero, List.set_cons_succ, startE, List.map_cons, List.map_nil, List.replicate, List.cons_append, List.nil_append, List.append_nil, List.length_cons, List.length_nil, Nat.zero_add, Nat.reduceAdd, Nat.reduceSub]
      exact z_ret (by (simp (disch := first | decide | assumption | omega) only [startE, List.map_cons, List.map_nil, List.replicate, eVar, eC, PT.e1, PT.e2, aNil, aCons, eCall, tupR, lstR, eTup, eLst, eIte, eLenO, eIxO, cT, cAnd, cOr, cNot, andV, orV, notD, truR, truD, bindR, bindRB, bindRL, bindL, bindB, bindBB, bindLL, toD, okD, okI, okB, itA, itD, items_tup, items_lst, items_scr, len_tup, len_lst, len_scr, List.getElem?_cons_zero, List.getElem?_cons_succ, List.length_cons, List.length_nil, List.length_map, List.cons_append, List.nil_append, List.append_nil, Nat.zero_add, Nat.reduceAdd, Nat.reduceSub, Nat.reduceLeDiff, if_true, if_false, ite_true, ite_false, Bool.false_eq_true, reduceIte, Bool.not_true, Bool.not_false, Int.reducePow, Int.reduceToNat, Int.reduceMul, Int.reduceAdd, Int.reduceSub, addD, subD, negD, ltR, leR, gtR, geR, eqR_int, neR_int, eqR_bl, neR_bl, absR, max2R, min2R, intR, mulRi, divRi, powRi, modR, absI, len_fr, len_tb, isiT_fr, isiT_tb, isiI_int, isiB_int, isiB_bl, isiL_lst, isiT_tup, items_tb, items_fr, zip_tb, all4, addD_tup2, addD_lst2, eLc, lcL, cYes, wipeE, gN, gTup_tup, gTup_tb, gTup_fr, gLs_lst, gCons, gNil, tuple_lst, List.set_cons_zero, List.set_cons_succ, List.set_nil, ix_fr0, ix_fr1, ix_tb0, ix_tb1, ix_tb2, ix_tb3, eqR_fr, neR_fr, eqR_tb, neR_tb]; try rfl)) ⟨g, ⟨g1, g2, g3⟩, rfl⟩
    · rw [Int.pow_succ, Int.pow_zero, Int.one_mul]
      exact Int.dvd_of_emod_eq_zero (by
        rw [Int.sub_emod, h3]
        have := hp.two
        rw [Int.emod_eq_of_lt (show (0 : Int) ≤ 1 by decide) (by omega)]
        rfl)
end PT
/-! PM: fractions and the power of a prime in them. -/
namespace PT
open PySem (Str)
theorem not_dvd_mul {p a b : Int} (hp : Pr p) (ha : ¬ p ∣ a) (hb : ¬ p ∣ b) : ¬ p ∣ a * b := fun h => (hp.mul h).elim ha hb
theorem Vk.mul {p x y : Int} {i j : Nat} (hp : Pr p) (h : Vk p x i) (g : Vk p y j) : Vk p (x * y) (i + j) := by
  obtain ⟨m, rfl, a⟩ := h
  obtain ⟨m', rfl, b⟩ := g
  exact ⟨m * m', by rw [Int.pow_add]; grind, not_dvd_mul hp a b⟩
theorem vp_mul {p x y : Int} (hp : Pr p) (hx : x ≠ 0) (hy : y ≠ 0) : vp p (x * y) = vp p x + vp p y := vp_eq hp.ne ((vp_spec hp.two hx).mul hp (vp_spec hp.two hy))
theorem not_one {p : Int} (hp : Pr p) : ¬ p ∣ 1 := fun h => by
  have := Int.le_of_dvd (by decide) h
  have := hp.two
  omega
theorem vp_pow {p : Int} (hp : Pr p) (k : Nat) : vp p (p ^ k) = k := vp_eq hp.ne ⟨1, by rw [Int.mul_one], not_one hp⟩
theorem vp_one {p : Int} (hp : Pr p) : vp p 1 = 0 := vp_eq hp.ne ⟨1, by rw [Int.pow_zero]; rfl, not_one hp⟩
theorem vp_zero {p n : Int} (hp : Pr p) (h : ¬ p ∣ n) : vp p n = 0 := vp_eq hp.ne ⟨n, by rw [Int.pow_zero, Int.one_mul], h⟩
theorem vp_neg {p n : Int} (hp : Pr p) : vp p (-n) = vp p n := by
  by_cases h : n = 0
  · rw [h]; rfl
  · obtain ⟨m, e, z⟩ := vp_spec hp.two h
    exact vp_eq hp.ne ⟨-m, by rw [Int.mul_neg, ← e], fun y => z (Int.dvd_neg.mp y)⟩
/-- the power of a fraction -/
noncomputable def vq (p : Int) (q : Rat) : Int := (vp p q.num : Int) - vp p q.den
theorem cast_ne {b : Int} (h : b ≠ 0) : (b : Rat) ≠ 0 := by
  intro z; apply h; exact_mod_cast z
theorem vq_div {p a b : Int} (hp : Pr p) (ha : a ≠ 0) (hb : b ≠ 0) : vq p ((a : Rat) / (b : Rat)) = vp p a - vp p b := by
  have hb' := cast_ne hb
  have ha' := cast_ne ha
  generalize hq : (a : Rat) / (b : Rat) = q
  have hq0 : q ≠ 0 := by rw [← hq]; intro z; grind
  have hn : q.num ≠ 0 := fun z => hq0 (fr_num.mp z)
  have e : q.num * b = a * q.den := by
    have h1 : ((q.num : Int) : Rat) / ((q.den : Int) : Rat) = q := by rw [← Rat.divInt_eq_div, Rat.num_divInt_den]
    have hd : ((q.den : Int) : Rat) ≠ 0 := cast_ne (den_ne q)
    have h2 : (q.num : Rat) * (b : Rat) = (a : Rat) * ((q.den : Int) : Rat) := by
      generalize (q.num : Rat) = N at *
      generalize ((q.den : Int) : Rat) = M at *
      generalize (a : Rat) = a' at *
      generalize (b : Rat) = b' at *
      subst hq
      clear hq0
      grind
    exact_mod_cast h2
  have h1 := vp_mul hp hn hb
  have h2 := vp_mul hp ha (den_ne q)
  rw [e, h2] at h1
  unfold vq
  omega
theorem num_den (q : Rat) : ((q.num : Int) : Rat) / ((q.den : Int) : Rat) = q := by rw [← Rat.divInt_eq_div, Rat.num_divInt_den]
theorem vq_mul {p : Int} {q r : Rat} (hp : Pr p) (hq : q ≠ 0) (hr : r ≠ 0) : vq p (q * r) = vq p q + vq p r := by
  have h1 : q.num ≠ 0 := fun z => hq (fr_num.mp z)
  have h2 : r.num ≠ 0 := fun z => hr (fr_num.mp z)
  have e : q * r = ((q.num * r.num : Int) : Rat) / ((q.den * r.den : Int) : Rat) := by
    have a := num_den q
    have b := num_den r
    have c := cast_ne (den_ne q)
    have d := cast_ne (den_ne r)
    push_cast at *
    grind
  rw [e, vq_div hp (Int.mul_ne_zero h1 h2) (Int.mul_ne_zero (den_ne q) (den_ne r)), vp_mul hp h1 h2, vp_mul hp (den_ne q) (den_ne r)]
  unfold vq
  omega
theorem vq_int {p a : Int} (hp : Pr p) : vq p (a : Rat) = vp p a := by
  unfold vq
  have : ((a : Rat).den : Int) = 1 := rfl
  rw [this, vp_one hp]
  have : (a : Rat).num = a := rfl
  rw [this]; omega
theorem vq_one {p : Int} (hp : Pr p) : vq p 1 = 0 := by
  have := vq_int (a := 1) hp
  rw [vp_one hp] at this
  exact this
theorem vq_neg {p : Int} {q : Rat} (hp : Pr p) : vq p (-q) = vq p q := by
  unfold vq
  rw [Rat.neg_num, Rat.neg_den, vp_neg hp]
theorem vq_inv {p : Int} {q : Rat} (hp : Pr p) (hq : q ≠ 0) : vq p q⁻¹ = -vq p q := by
  have h : q⁻¹ ≠ 0 := by intro z; grind
  have e : q * q⁻¹ = 1 := by grind
  have := vq_mul hp hq h
  rw [e, vq_one hp] at this
  omega
theorem vq_dv {p : Int} {q r : Rat} (hp : Pr p) (hq : q ≠ 0) (hr : r ≠ 0) : vq p (q / r) = vq p q - vq p r := by
  have h : r⁻¹ ≠ 0 := by intro z; grind
  rw [Rat.div_def, vq_mul hp hq h, vq_inv hp hr]
  omega
/-! powers of the prime -/
noncomputable def pz (p k : Int) : Rat := (p : Rat) ^ k
theorem Pr.cne {p : Int} (hp : Pr p) : (p : Rat) ≠ 0 := cast_ne hp.ne
theorem pz_add {p : Int} (hp : Pr p) (j k : Int) : pz p (j + k) = pz p j * pz p k := Rat.zpow_add hp.cne j k
theorem pz_zero (p : Int) : pz p 0 = 1 := Rat.zpow_zero _
theorem pz_nat (p : Int) (k : Nat) : pz p k = ((p ^ k : Int) : Rat) := by
  unfold pz
  rw [Rat.zpow_natCast]
  push_cast
  rfl
theorem pz_neg (p k : Int) : pz p (-k) = (pz p k)⁻¹ := Rat.zpow_neg _ _
theorem Pr.cpos {p : Int} (hp : Pr p) : (0 : Rat) < (p : Rat) := by exact_mod_cast hp.pos
theorem pz_pos {p : Int} (hp : Pr p) (k : Int) : 0 < pz p k := Rat.zpow_pos hp.cpos
theorem pz_ne {p : Int} (hp : Pr p) (k : Int) : pz p k ≠ 0 := fun z => by
  have := pz_pos hp k
  rw [z] at this
  exact absurd this (by decide)
theorem vq_pz {p : Int} (hp : Pr p) (k : Int) : vq p (pz p k) = k := by
  have nat : ∀ n : Nat, vq p (pz p n) = n := fun n => by rw [pz_nat, vq_int hp, vp_pow hp]
  rcases Int.le_total 0 k with h | h
  · obtain ⟨n, rfl⟩ : ∃ n : Nat, k = n := ⟨k.toNat, by omega⟩
    exact nat n
  · obtain ⟨n, rfl⟩ : ∃ n : Nat, k = -n := ⟨(-k).toNat, by omega⟩
    rw [pz_neg, vq_inv hp (pz_ne hp _), nat]
/-- alike to 0 by p ** k -/
def Al (p k : Int) (q : Rat) : Prop := q = 0 ∨ k ≤ vq p q
theorem vq_num_den {p : Int} (hp : Pr p) {q : Rat} (hq : q ≠ 0) : ∃ a b : Int, ¬ p ∣ a ∧ ¬ p ∣ b ∧ q = pz p (vq p q) * ((a : Rat) / (b : Rat)) := by
  have h1 : q.num ≠ 0 := fun z => hq (fr_num.mp z)
  obtain ⟨a, ea, za⟩ := vp_spec hp.two h1
  obtain ⟨b, eb, zb⟩ := vp_spec hp.two (den_ne q)
  refine ⟨a, b, za, zb, ?_⟩
  have e := num_den q
  have b0 : (b : Rat) ≠ 0 := cast_ne fun z => zb (by rw [z]; exact Int.dvd_zero p)
  have e1 : vq p q = (vp p q.num : Int) + -(vp p (q.den : Int) : Int) := by unfold vq; omega
  have e2 : pz p (vq p q) = pz p (vp p q.num) * (pz p (vp p (q.den : Int)))⁻¹ := by
    rw [e1, pz_add hp, pz_neg]
  have n1 := pz_ne hp (vp p (q.den : Int))
  have hn : (q.num : Rat) = pz p (vp p q.num) * a := by
    rw [pz_nat]
    have : (q.num : Rat) = ((p ^ vp p q.num * a : Int) : Rat) := by rw [← ea]
    rw [this]; push_cast; rfl
  have hd : ((q.den : Int) : Rat) = pz p (vp p (q.den : Int)) * b := by
    rw [pz_nat]
    have : ((q.den : Int) : Rat) = ((p ^ vp p (q.den : Int) * b : Int) : Rat) := by rw [← eb]
    rw [this]; push_cast; rfl
  rw [e2]
  rw [hn, hd] at e
  generalize pz p (vp p q.num) = x at *
  generalize pz p (vp p (q.den : Int)) = y at *
  clear e1 e2 ea eb hn hd h1
  generalize hq2 : (a : Rat) = a' at *
  generalize hb2 : (b : Rat) = b' at *
  clear hq2 hb2
  rw [← e]
  grind
theorem al_iff {p : Int} (hp : Pr p) {k : Int} {q : Rat} : Al p k q ↔ ∃ a b : Int, ¬ p ∣ b ∧ q = pz p k * ((a : Rat) / (b : Rat)) := by
  constructor
  · rintro (rfl | h)
    · refine ⟨0, 1, not_one hp, ?_⟩
      have : ((0 : Int) : Rat) = 0 := rfl
      rw [this]; grind
    · by_cases hq : q = 0
      · subst hq
        refine ⟨0, 1, not_one hp, ?_⟩
        have : ((0 : Int) : Rat) = 0 := rfl
        rw [this]; grind
      obtain ⟨a, b, -, hb, e⟩ := vq_num_den hp hq
      obtain ⟨n, hn⟩ : ∃ n : Nat, vq p q = k + n := ⟨(vq p q - k).toNat, by omega⟩
      refine ⟨p ^ n * a, b, hb, ?_⟩
      rw [hn, pz_add hp, pz_nat] at e
      rw [e]
      push_cast
      grind
  · rintro ⟨a, b, hb, rfl⟩
    by_cases ha : a = 0
    · left
      subst ha
      have : ((0 : Int) : Rat) = 0 := rfl
      rw [this]; grind
    · right
      have hb0 : b ≠ 0 := fun z => hb (by rw [z]; exact Int.dvd_zero p)
      have h0 : (a : Rat) / (b : Rat) ≠ 0 := by
        have := cast_ne ha
        have := cast_ne hb0
        grind
      rw [vq_mul hp (pz_ne hp k) h0, vq_pz hp, vq_div hp ha hb0, vp_zero hp hb]
      omega
theorem Al.add {p : Int} (hp : Pr p) {k : Int} {q r : Rat} (h : Al p k q) (g : Al p k r) : Al p k (q + r) := by
  rw [al_iff hp] at *
  obtain ⟨a, b, hb, rfl⟩ := h
  obtain ⟨c, d, hd, rfl⟩ := g
  refine ⟨a * d + c * b, b * d, not_dvd_mul hp hb hd, ?_⟩
  have h1 : (b : Rat) ≠ 0 := cast_ne fun z => hb (by rw [z]; exact Int.dvd_zero p)
  have h2 : (d : Rat) ≠ 0 := cast_ne fun z => hd (by rw [z]; exact Int.dvd_zero p)
  push_cast
  grind
theorem Al.neg {p : Int} (hp : Pr p) {k : Int} {q : Rat} (h : Al p k q) : Al p k (-q) := by
  rcases h with rfl | h
  · left; grind
  · right; rw [vq_neg hp]; exact h
theorem Al.sub {p : Int} (hp : Pr p) {k : Int} {q r : Rat} (h : Al p k q) (g : Al p k r) : Al p k (q - r) := by
  rw [Rat.sub_eq_add_neg]; exact h.add hp (g.neg hp)
theorem Al.mul {p : Int} (hp : Pr p) {j k : Int} {q r : Rat} (h : Al p j q) (g : Al p k r) : Al p (j + k) (q * r) := by
  by_cases hq : q = 0
  · left; rw [hq]; grind
  by_cases hr : r = 0
  · left; rw [hr]; grind
  right
  rw [vq_mul hp hq hr]
  have a := h.resolve_left hq
  have b := g.resolve_left hr
  omega
theorem Al.le {p : Int} {j k : Int} {q : Rat} (h : Al p k q) (l : j ≤ k) : Al p j q := by
  rcases h with h | h
  · exact .inl h
  · exact .inr (by omega)
theorem Al.zero (p k : Int) : Al p k 0 := .inl rfl
theorem Al.symm {p : Int} (hp : Pr p) {k : Int} {q r : Rat} (h : Al p k (q - r)) : Al p k (r - q) := by
  have := h.neg hp
  rwa [show -(q - r) = r - q by grind] at this
theorem Al.trans {p : Int} (hp : Pr p) {k : Int} {q r s : Rat} (h : Al p k (q - r)) (g : Al p k (r - s)) : Al p k (q - s) := by
  have := h.add hp g
  rwa [show q - r + (r - s) = q - s by grind] at this
end PT
/-! PM: fractions and the prime: what the package's functions answer. -/
namespace PT
open PySem (Str)
/-- power_in(p, a): slots p, a -/
def w_power_in : SF := wSeq (wIf (cT (e2 eqR (eVar 1) (eC k_NOUGHT))) (wRet (eC .non)) (wNop)) (wRet (e2 subD (eCall f_power_of (aCons (eVar 0) (aCons (e2 ixR (eVar 1) (eC (.int 0))) (aNil)))) (eCall f_power_of (aCons (eVar 0) (aCons (e2 ixR (eVar 1) (eC (.int 1))) (aNil))))))
instance : Det w_power_in := by unfold w_power_in; infer_instance
instance : Out w_power_in := by unfold w_power_in; infer_instance
noncomputable def f_power_in : List D → Option R := outF 2 2 w_power_in
theorem len_power_in : ∀ ds r, f_power_in ds = some r → ds.length = 2 := outF_len
theorem does_power_in : Does 2 w_power_in f_power_in := outF_does
/-- prime_power(p, k): slots p, k -/
def w_prime_power : SF := wSeq (wIf (cT (e2 ltR (eVar 1) (eC (.int 0)))) (wRet (eTup (aCons (eC (.int 1)) (aCons (eCall f_raised (aCons (eVar 0) (aCons (e1 negD (eVar 1)) (aNil)))) (aNil))))) (wNop)) (wRet (eTup (aCons (eCall f_raised (aCons (eVar 0) (aCons (eVar 1) (aNil)))) (aCons (eC (.int 1)) (aNil)))))
instance : Det w_prime_power := by unfold w_prime_power; infer_instance
instance : Out w_prime_power := by unfold w_prime_power; infer_instance
noncomputable def f_prime_power : List D → Option R := outF 2 2 w_prime_power
theorem len_prime_power : ∀ ds r, f_prime_power ds = some r → ds.length = 2 := outF_len
theorem does_prime_power : Does 2 w_prime_power f_prime_power := outF_does

/-- rest_by(p, k, a): slots p, k, a, deep, below, whole -/
def w_rest_by : SF := wSeq (wSet 3 (eCall f_power_of (aCons (eVar 0) (aCons (e2 ixR (eVar 2) (eC (.int 1))) (aNil))))) (wSeq (wIf (cT (e2 leR (e2 addD (eVar 1) (eVar 3)) (eC (.int 0)))) (wRet (eC k_NOUGHT)) (wNop)) (wSeq (wSet 4 (eCall f_raised (aCons (eVar 0) (aCons (eVar 3) (aNil))))) (wSeq (wSet 5 (eCall f_raised (aCons (eVar 0) (aCons (e2 addD (eVar 1) (eVar 3)) (aNil))))) (wRet (eCall f_fraction (aCons (e2 modD (e2 mulD (e2 ixR (eVar 2) (eC (.int 0))) (eCall f_over_by (aCons (eVar 0) (aCons (e2 fdivD (e2 ixR (eVar 2) (eC (.int 1))) (eVar 4)) (aCons (e2 addD (eVar 1) (eVar 3)) (aNil)))))) (eVar 5)) (aCons (eVar 4) (aNil))))))))
instance : Det w_rest_by := by unfold w_rest_by; infer_instance
instance : Out w_rest_by := by unfold w_rest_by; infer_instance
noncomputable def f_rest_by : List D → Option R := outF 3 6 w_rest_by
theorem len_rest_by : ∀ ds r, f_rest_by ds = some r → ds.length = 3 := outF_len
theorem does_rest_by : Does 6 w_rest_by f_rest_by := outF_does
/-- alike(p, k, a, b): slots p, k, a, b, power -/
def w_alike : SF := wSeq (wSet 4 (eCall f_power_in (aCons (eVar 0) (aCons (eCall f_minus (aCons (eVar 2) (aCons (eVar 3) (aNil)))) (aNil))))) (wRet (orV (e2 isR (eVar 4) (eC .non)) (e2 geR (eVar 4) (eVar 1))))
instance : Det w_alike := by unfold w_alike; infer_instance
instance : Out w_alike := by unfold w_alike; infer_instance
noncomputable def f_alike : List D → Option R := outF 4 5 w_alike
theorem len_alike : ∀ ds r, f_alike ds = some r → ds.length = 4 := outF_len
theorem does_alike : Does 5 w_alike f_alike := outF_does

/-- the power told: none of 0 -/
noncomputable def vqD (p : Int) (q : Rat) : D := if q = 0 then .non else .int (vq p q)
theorem ev_power_in {p : Int} {q : Rat} (hp : Pr p) : f_power_in [.int p, fr q] = okD (vqD p q) := by
  refine outF_ev rfl ?_
  try simp only [List.set_cons_zero, List.set_cons_succ, startE, List.map_cons, List.map_nil, List.replicate, List.cons_append, List.nil_append, List.append_nil, List.length_cons, List.length_nil, Nat.zero_add, Nat.reduceAdd, Nat.reduceSub]
  refine q_ifN (t := decide (q = 0)) (by (simp (disch := first | decide | assumption | omega) only [startE, List.map_cons, List.map_nil, List.replicate, eVar, eC, PT.e1, PT.e2, aNil, aCons, eCall, tupR, lstR, eTup, eLst, eIte, eLenO, eIxO, cT, cAnd, cOr, cNot, andV, orV, notD, truR, truD, bindR, bindRB, bindRL, bindL, bindB, bindBB, bindLL, toD, okD, okI, okB, itA, itD, items_tup, items_lst, items_scr, len_tup, len_lst, len_scr, List.getElem?_cons_zero, List.getElem?_cons_succ, List.length_cons, List.length_nil, List.length_map, List.cons_append, List.nil_append, List.append_nil, Nat.zero_add, Nat.reduceAdd, Nat.reduceSub, Nat.reduceLeDiff, if_true, if_false, ite_true, ite_false, Bool.false_eq_true, reduceIte, Bool.not_true, Bool.not_false, Int.reducePow, Int.reduceToNat, Int.reduceMul, Int.reduceAdd, Int.reduceSub, addD, subD, negD, ltR, leR, gtR, geR, eqR_int, neR_int, eqR_bl, neR_bl, absR, max2R, min2R, intR, mulRi, divRi, powRi, modR, absI, len_fr, len_tb, isiT_fr, isiT_tb, isiI_int, isiB_int, isiB_bl, isiL_lst, isiT_tup, items_tb, items_fr, zip_tb, all4, addD_tup2, addD_lst2, eLc, lcL, cYes, wipeE, gN, gTup_tup, gTup_tb, gTup_fr, gLs_lst, gCons, gNil, tuple_lst, List.set_cons_zero, List.set_cons_succ, List.set_nil, ix_fr0, ix_fr1, ix_tb0, ix_tb1, ix_tb2, ix_tb3, eqR_fr, neR_fr, eqR_tb, neR_tb, k_NOUGHT, fr_0]; try rfl)) (fun ht => ?_) fun ht => ?_
  · exact z_ret (by (simp (disch := first | decide | assumption | omega) only [startE, List.map_cons, List.map_nil, List.replicate, eVar, eC, PT.e1, PT.e2, aNil, aCons, eCall, tupR, lstR, eTup, eLst, eIte, eLenO, eIxO, cT, cAnd, cOr, cNot, andV, orV, notD, truR, truD, bindR, bindRB, bindRL, bindL, bindB, bindBB, bindLL, toD, okD, okI, okB, itA, itD, items_tup, items_lst, items_scr, len_tup, len_lst, len_scr, List.getElem?_cons_zero, List.getElem?_cons_succ, List.length_cons, List.length_nil, List.length_map, List.cons_append, List.nil_append, List.append_nil, Nat.zero_add, Nat.reduceAdd, Nat.reduceSub, Nat.reduceLeDiff, if_true, if_false, ite_true, ite_false, Bool.false_eq_true, reduceIte, Bool.not_true, Bool.not_false, Int.reducePow, Int.reduceToNat, Int.reduceMul, Int.reduceAdd, Int.reduceSub, addD, subD, negD, ltR, leR, gtR, geR, eqR_int, neR_int, eqR_bl, neR_bl, absR, max2R, min2R, intR, mulRi, divRi, powRi, modR, absI, len_fr, len_tb, isiT_fr, isiT_tb, isiI_int, isiB_int, isiB_bl, isiL_lst, isiT_tup, items_tb, items_fr, zip_tb, all4, addD_tup2, addD_lst2, eLc, lcL, cYes, wipeE, gN, gTup_tup, gTup_tb, gTup_fr, gLs_lst, gCons, gNil, tuple_lst, List.set_cons_zero, List.set_cons_succ, List.set_nil, ix_fr0, ix_fr1, ix_tb0, ix_tb1, ix_tb2, ix_tb3, eqR_fr, neR_fr, eqR_tb, neR_tb]; try rfl)) (by have := of_decide_eq_true ht; unfold vqD; rw [if_pos this]; rfl)
  · have h := of_decide_eq_false ht
    have hn : q.num ≠ 0 := fun z => h (fr_num.mp z)
    exact z_ret (sv := .d (.int (vq p q))) (by (simp (disch := first | decide | assumption | omega) only [startE, List.map_cons, List.map_nil, List.replicate, eVar, eC, PT.e1, PT.e2, aNil, aCons, eCall, tupR, lstR, eTup, eLst, eIte, eLenO, eIxO, cT, cAnd, cOr, cNot, andV, orV, notD, truR, truD, bindR, bindRB, bindRL, bindL, bindB, bindBB, bindLL, toD, okD, okI, okB, itA, itD, items_tup, items_lst, items_scr, len_tup, len_lst, len_scr, List.getElem?_cons_zero, List.getElem?_cons_succ, List.length_cons, List.length_nil, List.length_map, List.cons_append, List.nil_append, List.append_nil, Nat.zero_add, Nat.reduceAdd, Nat.reduceSub, Nat.reduceLeDiff, if_true, if_false, ite_true, ite_false, Bool.false_eq_true, reduceIte, Bool.not_true, Bool.not_false, Int.reducePow, Int.reduceToNat, Int.reduceMul, Int.reduceAdd, Int.reduceSub, addD, subD, negD, ltR, leR, gtR, geR, eqR_int, neR_int, eqR_bl, neR_bl, absR, max2R, min2R, intR, mulRi, divRi, powRi, modR, absI, len_fr, len_tb, isiT_fr, isiT_tb, isiI_int, isiB_int, isiB_bl, isiL_lst, isiT_tup, items_tb, items_fr, zip_tb, all4, addD_tup2, addD_lst2, eLc, lcL, cYes, wipeE, gN, gTup_tup, gTup_tb, gTup_fr, gLs_lst, gCons, gNil, tuple_lst, List.set_cons_zero, List.set_cons_succ, List.set_nil, ix_fr0, ix_fr1, ix_tb0, ix_tb1, ix_tb2, ix_tb3, eqR_fr, neR_fr, eqR_tb, neR_tb, ev_power_of hp hn, ev_power_of hp (den_ne q)]; try rfl)) (by unfold vqD; rw [if_neg h]; rfl)
/-! powers of the prime as fractions -/
theorem fr_pz {p : Int} (hp : Pr p) (k : Nat) : D.tup [.int (p ^ k), .int 1] = fr (pz p k) := by
  rw [pz_nat, fr_int]
theorem fr_pz_neg {p : Int} (hp : Pr p) (k : Nat) : D.tup [.int 1, .int (p ^ k)] = fr (pz p (-(k : Int))) := by
  have h := hp.pow_pos k
  have e : pz p (-(k : Int)) = Rat.divInt 1 (p ^ k) := by
    rw [pz_neg, pz_nat, Rat.divInt_eq_div, Rat.div_def]
    have : ((1 : Int) : Rat) = 1 := rfl
    rw [this, Rat.one_mul]
  rw [e]
  unfold fr
  rw [Rat.num_divInt, Rat.den_divInt, if_neg (by omega), Int.sign_eq_one_of_pos h, Int.gcd_one_right]
  have e1 : (1 * 1 / ((1 : Nat) : Int)) = 1 := by decide
  have e2 : (((p ^ k).natAbs / 1 : Nat) : Int) = p ^ k := by rw [Nat.div_one]; omega
  rw [e1, e2]
theorem qd_pz {p : Int} (hp : Pr p) (k : Int) : Qd (pz p k) (3 * k.natAbs + 1) := by
  rcases Int.le_total 0 k with h | h
  · obtain ⟨n, rfl⟩ : ∃ n : Nat, k = n := ⟨k.toNat, by omega⟩
    rw [pz_nat, Int.natAbs_natCast]
    exact Qd.int (hp.pow_bd n) (by omega)
  · obtain ⟨n, rfl⟩ : ∃ n : Nat, k = -n := ⟨(-k).toNat, by omega⟩
    have e := fr_pz_neg hp n
    unfold fr at e
    injection e with e
    injection e with e1 e
    injection e with e2 e
    injection e1 with e1
    injection e2 with e2
    rw [Int.natAbs_neg, Int.natAbs_natCast]
    exact ⟨by rw [← e1]; exact B.mono (m := 1) (show B 1 1 by decide) (by omega), by rw [← e2]; exact hp.pow_bd n⟩
theorem ev_prime_power {p k : Int} (hp : Pr p) (l : k.natAbs ≤ 100000) : f_prime_power [.int p, .int k] = okD (fr (pz p k)) := by
  refine outF_ev rfl ?_
  try simp only [List.set_cons_zero, List.set_cons_succ, startE, List.map_cons, List.map_nil, List.replicate, List.cons_append, List.nil_append, List.append_nil, List.length_cons, List.length_nil, Nat.zero_add, Nat.reduceAdd, Nat.reduceSub]
  refine q_ifN (t := decide (k < 0)) (by (simp (disch := first | decide | assumption | omega) only [startE, List.map_cons, List.map_nil, List.replicate, eVar, eC, PT.e1, PT.e2, aNil, aCons, eCall, tupR, lstR, eTup, eLst, eIte, eLenO, eIxO, cT, cAnd, cOr, cNot, andV, orV, notD, truR, truD, bindR, bindRB, bindRL, bindL, bindB, bindBB, bindLL, toD, okD, okI, okB, itA, itD, items_tup, items_lst, items_scr, len_tup, len_lst, len_scr, List.getElem?_cons_zero, List.getElem?_cons_succ, List.length_cons, List.length_nil, List.length_map, List.cons_append, List.nil_append, List.append_nil, Nat.zero_add, Nat.reduceAdd, Nat.reduceSub, Nat.reduceLeDiff, if_true, if_false, ite_true, ite_false, Bool.false_eq_true, reduceIte, Bool.not_true, Bool.not_false, Int.reducePow, Int.reduceToNat, Int.reduceMul, Int.reduceAdd, Int.reduceSub, addD, subD, negD, ltR, leR, gtR, geR, eqR_int, neR_int, eqR_bl, neR_bl, absR, max2R, min2R, intR, mulRi, divRi, powRi, modR, absI, len_fr, len_tb, isiT_fr, isiT_tb, isiI_int, isiB_int, isiB_bl, isiL_lst, isiT_tup, items_tb, items_fr, zip_tb, all4, addD_tup2, addD_lst2, eLc, lcL, cYes, wipeE, gN, gTup_tup, gTup_tb, gTup_fr, gLs_lst, gCons, gNil, tuple_lst, List.set_cons_zero, List.set_cons_succ, List.set_nil, ix_fr0, ix_fr1, ix_tb0, ix_tb1, ix_tb2, ix_tb3, eqR_fr, neR_fr, eqR_tb, neR_tb]; try rfl)) (fun ht => ?_) fun ht => ?_
  · have h := of_decide_eq_true ht
    obtain ⟨n, rfl⟩ : ∃ n : Nat, k = -n := ⟨(-k).toNat, by omega⟩
    exact z_ret (sv := .d (fr (pz p (-(n : Int))))) (by (simp (disch := first | decide | assumption | omega) only [startE, List.map_cons, List.map_nil, List.replicate, eVar, eC, PT.e1, PT.e2, aNil, aCons, eCall, tupR, lstR, eTup, eLst, eIte, eLenO, eIxO, cT, cAnd, cOr, cNot, andV, orV, notD, truR, truD, bindR, bindRB, bindRL, bindL, bindB, bindBB, bindLL, toD, okD, okI, okB, itA, itD, items_tup, items_lst, items_scr, len_tup, len_lst, len_scr, List.getElem?_cons_zero, List.getElem?_cons_succ, List.length_cons, List.length_nil, List.length_map, List.cons_append, List.nil_append, List.append_nil, Nat.zero_add, Nat.reduceAdd, Nat.reduceSub, Nat.reduceLeDiff, if_true, if_false, ite_true, ite_false, Bool.false_eq_true, reduceIte, Bool.not_true, Bool.not_false, Int.reducePow, Int.reduceToNat, Int.reduceMul, Int.reduceAdd, Int.reduceSub, addD, subD, negD, ltR, leR, gtR, geR, eqR_int, neR_int, eqR_bl, neR_bl, absR, max2R, min2R, intR, mulRi, divRi, powRi, modR, absI, len_fr, len_tb, isiT_fr, isiT_tb, isiI_int, isiB_int, isiB_bl, isiL_lst, isiT_tup, items_tb, items_fr, zip_tb, all4, addD_tup2, addD_lst2, eLc, lcL, cYes, wipeE, gN, gTup_tup, gTup_tb, gTup_fr, gLs_lst, gCons, gNil, tuple_lst, List.set_cons_zero, List.set_cons_succ, List.set_nil, ix_fr0, ix_fr1, ix_tb0, ix_tb1, ix_tb2, ix_tb3, eqR_fr, neR_fr, eqR_tb, neR_tb, Int.neg_neg, ev_raised (k := n) hp.bd (by omega), fr_pz_neg hp]; try rfl)) rfl
  · have h := of_decide_eq_false ht
    obtain ⟨n, rfl⟩ : ∃ n : Nat, k = n := ⟨k.toNat, by omega⟩
    exact z_ret (sv := .d (fr (pz p n))) (by (simp (disch := first | decide | assumption | omega) only [startE, List.map_cons, List.map_nil, List.replicate, eVar, eC, PT.e1, PT.e2, aNil, aCons, eCall, tupR, lstR, eTup, eLst, eIte, eLenO, eIxO, cT, cAnd, cOr, cNot, andV, orV, notD, truR, truD, bindR, bindRB, bindRL, bindL, bindB, bindBB, bindLL, toD, okD, okI, okB, itA, itD, items_tup, items_lst, items_scr, len_tup, len_lst, len_scr, List.getElem?_cons_zero, List.getElem?_cons_succ, List.length_cons, List.length_nil, List.length_map, List.cons_append, List.nil_append, List.append_nil, Nat.zero_add, Nat.reduceAdd, Nat.reduceSub, Nat.reduceLeDiff, if_true, if_false, ite_true, ite_false, Bool.false_eq_true, reduceIte, Bool.not_true, Bool.not_false, Int.reducePow, Int.reduceToNat, Int.reduceMul, Int.reduceAdd, Int.reduceSub, addD, subD, negD, ltR, leR, gtR, geR, eqR_int, neR_int, eqR_bl, neR_bl, absR, max2R, min2R, intR, mulRi, divRi, powRi, modR, absI, len_fr, len_tb, isiT_fr, isiT_tb, isiI_int, isiB_int, isiB_bl, isiL_lst, isiT_tup, items_tb, items_fr, zip_tb, all4, addD_tup2, addD_lst2, eLc, lcL, cYes, wipeE, gN, gTup_tup, gTup_tb, gTup_fr, gLs_lst, gCons, gNil, tuple_lst, List.set_cons_zero, List.set_cons_succ, List.set_nil, ix_fr0, ix_fr1, ix_tb0, ix_tb1, ix_tb2, ix_tb3, eqR_fr, neR_fr, eqR_tb, neR_tb, ev_raised (k := n) hp.bd (by omega), fr_pz hp]; try rfl)) rfl
/-! ### alike -/
open Classical in
theorem ev_alike {p k : Int} {q r : Rat} {m n : Nat} [Qd q m] [Qd r n] (hp : Pr p) (l : m + n < 9000) : f_alike [.int p, .int k, fr q, fr r] = okB (decide (Al p k (q - r))) := by
  refine outF_ev rfl ?_
  try simp only [List.set_cons_zero, List.set_cons_succ, startE, List.map_cons, List.map_nil, List.replicate, List.cons_append, List.nil_append, List.append_nil, List.length_cons, List.length_nil, Nat.zero_add, Nat.reduceAdd, Nat.reduceSub]
  refine q_set (v := vqD p (q - r)) (by (simp (disch := first | decide | assumption | omega) only [startE, List.map_cons, List.map_nil, List.replicate, eVar, eC, PT.e1, PT.e2, aNil, aCons, eCall, tupR, lstR, eTup, eLst, eIte, eLenO, eIxO, cT, cAnd, cOr, cNot, andV, orV, notD, truR, truD, bindR, bindRB, bindRL, bindL, bindB, bindBB, bindLL, toD, okD, okI, okB, itA, itD, items_tup, items_lst, items_scr, len_tup, len_lst, len_scr, List.getElem?_cons_zero, List.getElem?_cons_succ, List.length_cons, List.length_nil, List.length_map, List.cons_append, List.nil_append, List.append_nil, Nat.zero_add, Nat.reduceAdd, Nat.reduceSub, Nat.reduceLeDiff, if_true, if_false, ite_true, ite_false, Bool.false_eq_true, reduceIte, Bool.not_true, Bool.not_false, Int.reducePow, Int.reduceToNat, Int.reduceMul, Int.reduceAdd, Int.reduceSub, addD, subD, negD, ltR, leR, gtR, geR, eqR_int, neR_int, eqR_bl, neR_bl, absR, max2R, min2R, intR, mulRi, divRi, powRi, modR, absI, len_fr, len_tb, isiT_fr, isiT_tb, isiI_int, isiB_int, isiB_bl, isiL_lst, isiT_tup, items_tb, items_fr, zip_tb, all4, addD_tup2, addD_lst2, eLc, lcL, cYes, wipeE, gN, gTup_tup, gTup_tb, gTup_fr, gLs_lst, gCons, gNil, tuple_lst, List.set_cons_zero, List.set_cons_succ, List.set_nil, ix_fr0, ix_fr1, ix_tb0, ix_tb1, ix_tb2, ix_tb3, eqR_fr, neR_fr, eqR_tb, neR_tb, ev_minus, ev_power_in hp]; try rfl)) ?_
  try simp only [List.set_cons_zero, List.set_cons_succ, startE, List.map_cons, List.map_nil, List.replicate, List.cons_append, List.nil_append, List.append_nil, List.length_cons, List.length_nil, Nat.zero_add, Nat.reduceAdd, Nat.reduceSub]
  by_cases h : q - r = 0
  · have e : vqD p (q - r) = .non := by unfold vqD; rw [if_pos h]
    have e2 : decide (Al p k (q - r)) = true := decide_eq_true (.inl h)
    rw [e, e2]
    exact z_ret (by (simp (disch := first | decide | assumption | omega) only [startE, List.map_cons, List.map_nil, List.replicate, eVar, eC, PT.e1, PT.e2, aNil, aCons, eCall, tupR, lstR, eTup, eLst, eIte, eLenO, eIxO, cT, cAnd, cOr, cNot, andV, orV, notD, truR, truD, bindR, bindRB, bindRL, bindL, bindB, bindBB, bindLL, toD, okD, okI, okB, itA, itD, items_tup, items_lst, items_scr, len_tup, len_lst, len_scr, List.getElem?_cons_zero, List.getElem?_cons_succ, List.length_cons, List.length_nil, List.length_map, List.cons_append, List.nil_append, List.append_nil, Nat.zero_add, Nat.reduceAdd, Nat.reduceSub, Nat.reduceLeDiff, if_true, if_false, ite_true, ite_false, Bool.false_eq_true, reduceIte, Bool.not_true, Bool.not_false, Int.reducePow, Int.reduceToNat, Int.reduceMul, Int.reduceAdd, Int.reduceSub, addD, subD, negD, ltR, leR, gtR, geR, eqR_int, neR_int, eqR_bl, neR_bl, absR, max2R, min2R, intR, mulRi, divRi, powRi, modR, absI, len_fr, len_tb, isiT_fr, isiT_tb, isiI_int, isiB_int, isiB_bl, isiL_lst, isiT_tup, items_tb, items_fr, zip_tb, all4, addD_tup2, addD_lst2, eLc, lcL, cYes, wipeE, gN, gTup_tup, gTup_tb, gTup_fr, gLs_lst, gCons, gNil, tuple_lst, List.set_cons_zero, List.set_cons_succ, List.set_nil, ix_fr0, ix_fr1, ix_tb0, ix_tb1, ix_tb2, ix_tb3, eqR_fr, neR_fr, eqR_tb, neR_tb, isR]; try rfl)) rfl
  · have e : vqD p (q - r) = .int (vq p (q - r)) := by unfold vqD; rw [if_neg h]
    have e2 : decide (Al p k (q - r)) = decide (k ≤ vq p (q - r)) := by
      rw [decide_eq_decide]; unfold Al; simp [h]
    rw [e, e2]
    exact z_ret (by (simp (disch := first | decide | assumption | omega) only [startE, List.map_cons, List.map_nil, List.replicate, eVar, eC, PT.e1, PT.e2, aNil, aCons, eCall, tupR, lstR, eTup, eLst, eIte, eLenO, eIxO, cT, cAnd, cOr, cNot, andV, orV, notD, truR, truD, bindR, bindRB, bindRL, bindL, bindB, bindBB, bindLL, toD, okD, okI, okB, itA, itD, items_tup, items_lst, items_scr, len_tup, len_lst, len_scr, List.getElem?_cons_zero, List.getElem?_cons_succ, List.length_cons, List.length_nil, List.length_map, List.cons_append, List.nil_append, List.append_nil, Nat.zero_add, Nat.reduceAdd, Nat.reduceSub, Nat.reduceLeDiff, if_true, if_false, ite_true, ite_false, Bool.false_eq_true, reduceIte, Bool.not_true, Bool.not_false, Int.reducePow, Int.reduceToNat, Int.reduceMul, Int.reduceAdd, Int.reduceSub, addD, subD, negD, ltR, leR, gtR, geR, eqR_int, neR_int, eqR_bl, neR_bl, absR, max2R, min2R, intR, mulRi, divRi, powRi, modR, absI, len_fr, len_tb, isiT_fr, isiT_tb, isiI_int, isiB_int, isiB_bl, isiL_lst, isiT_tup, items_tb, items_fr, zip_tb, all4, addD_tup2, addD_lst2, eLc, lcL, cYes, wipeE, gN, gTup_tup, gTup_tb, gTup_fr, gLs_lst, gCons, gNil, tuple_lst, List.set_cons_zero, List.set_cons_succ, List.set_nil, ix_fr0, ix_fr1, ix_tb0, ix_tb1, ix_tb2, ix_tb3, eqR_fr, neR_fr, eqR_tb, neR_tb, isR]; try rfl)) rfl
/-! ### rests -/
structure IsRest (p k : Int) (q r : Rat) : Prop where
  nn : 0 ≤ r
  lt : r < pz p k
  den : ∃ j : Nat, (r.den : Int) = p ^ j
  al : Al p k (q - r)
theorem den_one {p t : Int} (hp : Pr p) (ht : ¬ p ∣ t) (h0 : 0 < t) : ∀ n : Nat, t ∣ p ^ n → t = 1
  | 0, h => by
    rw [Int.pow_zero] at h
    have := Int.le_of_dvd (by decide) h
    omega
  | n + 1, ⟨e, h⟩ => by
    rcases hp.mul (a := t) (b := e) ⟨p ^ n, by rw [← h, Int.pow_succ, Int.mul_comm]⟩ with h1 | ⟨e', rfl⟩
    · exact (ht h1).elim
    · refine den_one hp ht h0 n ⟨e', ?_⟩
      have : p * p ^ n = p * (t * e') := by rw [Int.mul_comm p, ← Int.pow_succ, h]; grind
      exact Int.eq_of_mul_eq_mul_left hp.ne this
theorem dvd_cop {d n b : Int} (h : d ∣ n * b) (c : Int.gcd d n = 1) : d ∣ b :=
  Int.natAbs_dvd_natAbs.mp (Nat.Coprime.dvd_of_dvd_mul_left (k := d.natAbs) (m := n.natAbs) c (by rw [← Int.natAbs_mul]; exact Int.natAbs_dvd_natAbs.mpr h))
/-- whole by p, and a power of the prime times it whole: it is whole -/
theorem whole_of {p : Int} (hp : Pr p) {t : Rat} {a b c : Int} {n : Nat} (hb : ¬ p ∣ b) (h1 : t = (a : Rat) / (b : Rat)) (h2 : t * ((p ^ n : Int) : Rat) = (c : Rat)) : ∃ m : Int, t = (m : Rat) := by
  have hb0 : b ≠ 0 := fun z => hb (by rw [z]; exact Int.dvd_zero p)
  have hbq := cast_ne hb0
  have nd := num_den t
  have dq := cast_ne (den_ne t)
  have e1 : t.num * b = a * t.den := by
    have : ((t.num * b : Int) : Rat) = ((a * t.den : Int) : Rat) := by
      rw [Rat.intCast_mul, Rat.intCast_mul]
      generalize (t.num : Rat) = N at *
      generalize ((t.den : Int) : Rat) = M at *
      generalize (a : Rat) = a' at *
      generalize (b : Rat) = b' at *
      grind
    exact_mod_cast this
  have e2 : t.num * p ^ n = c * t.den := by
    have : ((t.num * p ^ n : Int) : Rat) = ((c * t.den : Int) : Rat) := by
      rw [Rat.intCast_mul, Rat.intCast_mul]
      generalize ((p ^ n : Int) : Rat) = pn at *
      generalize (t.num : Rat) = N at *
      generalize ((t.den : Int) : Rat) = M at *
      generalize (c : Rat) = c' at *
      grind
    exact_mod_cast this
  have cop : Int.gcd t.den t.num = 1 := by
    have := t.reduced
    rw [Int.gcd_comm]
    exact this
  have d1 : (t.den : Int) ∣ b := dvd_cop (n := t.num) ⟨a, by rw [e1, Int.mul_comm]⟩ cop
  have d2 : (t.den : Int) ∣ p ^ n := dvd_cop (n := t.num) ⟨c, by rw [e2, Int.mul_comm]⟩ cop
  have d3 : (t.den : Int) = 1 := den_one hp (fun z => hb (Int.dvd_trans z d1)) (den_pos t) n d2
  have nd2 : (t.num : Rat) / ((1 : Int) : Rat) = t := by rw [← d3]; exact nd
  refine ⟨t.num, ?_⟩
  have o : ((1 : Int) : Rat) = 1 := rfl
  rw [o] at nd2
  generalize (t.num : Rat) = N at *
  clear nd h1 h2
  grind
theorem rest_one {p k : Int} (hp : Pr p) {q q' r r' : Rat} (h : IsRest p k q r) (h' : IsRest p k q' r') (g : Al p k (q - q')) : r = r' := by
  have a : Al p k (r - r') := by
    have h1 := h.al.symm hp
    exact (h1.trans hp g).trans hp h'.al
  obtain ⟨x, y, hy, e⟩ := (al_iff hp).mp a
  obtain ⟨i, hi⟩ := h.den
  obtain ⟨j, hj⟩ := h'.den
  have pk := pz_pos hp k
  have pk0 := pz_ne hp k
  -- (r - r') * p ^ (i + j) is whole
  obtain ⟨c, hc⟩ : ∃ c : Int, (r - r') * pz p ((i + j : Nat) : Int) = (c : Rat) := by
    refine ⟨r.num * p ^ j - r'.num * p ^ i, ?_⟩
    have n1 := num_den r
    have n2 := num_den r'
    rw [hi] at n1
    rw [hj] at n2
    have p1 := cast_ne (Int.ne_of_gt (hp.pow_pos i))
    have p2 := cast_ne (Int.ne_of_gt (hp.pow_pos j))
    have e3 : pz p ((i + j : Nat) : Int) = ((p ^ i : Int) : Rat) * ((p ^ j : Int) : Rat) := by
      rw [pz_nat, Int.pow_add, Rat.intCast_mul]
    rw [e3, Rat.intCast_sub, Rat.intCast_mul, Rat.intCast_mul]
    rw [← n1, ← n2]
    generalize hA : ((p ^ i : Int) : Rat) = A at *
    generalize hB : ((p ^ j : Int) : Rat) = C at *
    rw [n1, n2]
    generalize (r.num : Rat) = N at *
    generalize (r'.num : Rat) = N' at *
    clear e3 hA hB hi hj h h' e a
    subst n1
    subst n2
    grind
  -- a power of the prime times (r - r') / p ^ k is whole
  obtain ⟨n, c2, h2⟩ : ∃ (n : Nat) (c2 : Int), ((r - r') / pz p k) * ((p ^ n : Int) : Rat) = (c2 : Rat) := by
    rcases Int.le_total 0 (k + (i + j : Nat)) with h3 | h3
    · refine ⟨(k + (i + j : Nat)).toNat, c, ?_⟩
      rw [← pz_nat, show (((k + (i + j : Nat)).toNat : Nat) : Int) = k + (i + j : Nat) by omega, pz_add hp, ← hc]
      generalize pz p ((i + j : Nat) : Int) = u at *
      grind
    · refine ⟨0, c * p ^ (-(k + (i + j : Nat))).toNat, ?_⟩
      rw [Rat.intCast_mul, ← pz_nat, ← pz_nat, ← hc, show (((-(k + (i + j : Nat))).toNat : Nat) : Int) = -(k + (i + j : Nat)) by omega, pz_neg, pz_add hp]
      have u0 := pz_ne hp ((i + j : Nat) : Int)
      rw [show ((0 : Nat) : Int) = 0 from rfl, pz_zero]
      generalize pz p ((i + j : Nat) : Int) = u at *
      grind
  obtain ⟨m, hm⟩ := whole_of hp (a := x) (b := y) hy (show (r - r') / pz p k = (x : Rat) / (y : Rat) by rw [e]; generalize (x : Rat) / (y : Rat) = z at *; grind) h2
  have e4 : r - r' = pz p k * (m : Rat) := by rw [← hm]; grind
  have b1 := h.nn
  have b2 := h.lt
  have b3 := h'.nn
  have b4 := h'.lt
  have m0 : m = 0 := by
    rcases (by omega : m = 0 ∨ 1 ≤ m ∨ m ≤ -1) with z | z | z
    · exact z
    · exfalso
      have zq : (1 : Rat) ≤ (m : Rat) := by exact_mod_cast z
      have : pz p k * 1 ≤ pz p k * (m : Rat) := Rat.mul_le_mul_of_nonneg_left zq (Rat.le_of_lt pk)
      grind
    · exfalso
      have zq : (m : Rat) ≤ ((-1 : Int) : Rat) := by exact_mod_cast z
      have o : ((-1 : Int) : Rat) = -1 := rfl
      rw [o] at zq
      have : pz p k * (m : Rat) ≤ pz p k * (-1) := Rat.mul_le_mul_of_nonneg_left zq (Rat.le_of_lt pk)
      grind
  rw [m0] at e4
  have : ((0 : Int) : Rat) = 0 := rfl
  rw [this] at e4
  grind
open Classical in
/-- the rest of q by p ** k -/
noncomputable def rst (p k : Int) (q : Rat) : Rat := if h : ∃ r, IsRest p k q r then h.choose else 0
theorem rst_of {p k : Int} {q r : Rat} (hp : Pr p) (h : IsRest p k q r) : rst p k q = r := by
  unfold rst
  have z : ∃ r, IsRest p k q r := ⟨r, h⟩
  rw [dif_pos z]
  exact rest_one hp z.choose_spec h (by rw [Rat.sub_self]; exact Al.zero p k)
theorem rest_zero {p k : Int} {q : Rat} (hp : Pr p) (h : k + (vp p (q.den : Int) : Int) ≤ 0) : IsRest p k q 0 := by
  refine ⟨by decide, pz_pos hp k, ⟨0, by rw [Int.pow_zero]; rfl⟩, ?_⟩
  rw [show q - 0 = q by grind]
  right
  unfold vq
  omega
theorem rest_make {p k x m : Int} {q : Rat} {d K : Nat} (hp : Pr p) (hK : (K : Int) = k + d) (hm : (q.den : Int) = p ^ d * m) (zm : ¬ p ∣ m) (hx : p ^ K ∣ m * x - 1) : IsRest p k q (Rat.divInt (q.num * x % p ^ K) (p ^ d)) := by
  have pK := hp.pow_pos K
  have pd := hp.pow_pos d
  have t0 := Int.emod_nonneg (q.num * x) (show p ^ K ≠ 0 by omega)
  have t1 := Int.emod_lt_of_pos (q.num * x) pK
  have e := Int.emod_add_mul_ediv (q.num * x) (p ^ K)
  obtain ⟨c, hc⟩ := hx
  have ek : pz p K = pz p k * pz p d := by rw [hK, pz_add hp]
  have pk := pz_pos hp k
  have dk := pz_pos hp d
  have dne := pz_ne hp d
  generalize q.num * x % p ^ K = top at *
  generalize q.num * x / p ^ K = z at *
  have er : Rat.divInt top (p ^ d) = (top : Rat) / pz p d := by rw [Rat.divInt_eq_div, pz_nat]
  refine ⟨?_, ?_, ?_, ?_⟩
  · exact Rat.divInt_nonneg t0 (by omega)
  · rw [er]
    have h1 : (top : Rat) < pz p K := by rw [pz_nat]; exact_mod_cast t1
    rw [ek] at h1
    rw [Rat.div_lt_iff dk]
    exact h1
  · rw [Rat.den_divInt, if_neg (by omega)]
    obtain ⟨g, hg⟩ : (Int.gcd (p ^ d) top : Int) ∣ p ^ d := Int.gcd_dvd_left ..
    have hg0 : (Int.gcd (p ^ d) top : Int) ≠ 0 := fun w => by rw [w] at hg; omega
    have hg1 : (0 : Int) ≤ (Int.gcd (p ^ d) top : Int) := by omega
    have e5 : (((p ^ d).natAbs / Int.gcd (p ^ d) top : Nat) : Int) = g := by
      rw [Int.natCast_ediv]
      have : ((p ^ d).natAbs : Int) = p ^ d := by omega
      rw [this]
      conv => lhs; arg 1; rw [hg]
      exact Int.mul_ediv_cancel_left _ hg0
    rw [e5]
    have g0 : 0 < g := by
      rcases (by omega : g ≤ 0 ∨ 0 < g) with w | w
      · have := Int.mul_nonpos_of_nonneg_of_nonpos hg1 w; omega
      · exact w
    obtain ⟨w, hw, hz⟩ := vp_spec hp.two (show g ≠ 0 by omega)
    have hd : g ∣ p ^ d := ⟨_, by rw [Int.mul_comm]; exact hg⟩
    have w0 : 0 < w := by
      have := hp.pow_pos (vp p g)
      rcases (by omega : w ≤ 0 ∨ 0 < w) with y | y
      · have := Int.mul_nonpos_of_nonneg_of_nonpos (Int.le_of_lt this) y; omega
      · exact y
    have w1 : w = 1 := den_one hp hz w0 d (Int.dvd_trans ⟨p ^ vp p g, by rw [Int.mul_comm]; exact hw⟩ hd)
    exact ⟨vp p g, by rw [w1, Int.mul_one] at hw; exact hw⟩
  · rw [al_iff hp]
    refine ⟨z * m - q.num * c, m, zm, ?_⟩
    rw [er]
    have nd := num_den q
    have m0 : m ≠ 0 := fun y => zm (by rw [y]; exact Int.dvd_zero p)
    have mq := cast_ne m0
    have hm' : ((q.den : Int) : Rat) = pz p d * (m : Rat) := by
      rw [hm, Rat.intCast_mul, pz_nat]
    rw [hm'] at nd
    have e6 : (top : Rat) + pz p K * (z : Rat) = (q.num : Rat) * (x : Rat) := by
      rw [pz_nat, ← Rat.intCast_mul, ← Rat.intCast_mul, ← Rat.intCast_add, e]
    have e7 : (m : Rat) * (x : Rat) - 1 = pz p K * (c : Rat) := by
      have : ((m * x - 1 : Int) : Rat) = ((p ^ K * c : Int) : Rat) := by rw [hc]
      rw [Rat.intCast_sub, Rat.intCast_mul, Rat.intCast_mul, ← pz_nat] at this
      exact this
    rw [Rat.intCast_sub, Rat.intCast_mul, Rat.intCast_mul]
    rw [ek] at e6 e7
    generalize pz p k = A at *
    generalize pz p d = C at *
    generalize (q.num : Rat) = N at *
    generalize (m : Rat) = m' at *
    generalize (x : Rat) = x' at *
    generalize (c : Rat) = c' at *
    generalize (z : Rat) = z' at *
    generalize (top : Rat) = t' at *
    clear e er hm' hm hc t0 t1
    subst nd
    clear ek
    grind
theorem rest_deep {p k : Int} {q : Rat} (hp : Pr p) {n : Nat} (hq : Qd q n) (l : n ≤ 4900) (lk : k.natAbs ≤ 2000) : ∃ r, IsRest p k q r ∧ Qd r (3 * (k.natAbs + n) + 1) ∧ f_rest_by [.int p, .int k, fr q] = okD (fr r) := by
  have hvl : vp p (q.den : Int) < n := vp_lt hp.two (den_ne q) hq.den
  obtain ⟨m, hm, zm⟩ := vp_spec hp.two (den_ne q)
  generalize hd : vp p (q.den : Int) = d at *
  have pd := hp.pow_pos d
  have e1 : f_power_of [.int p, .int (q.den : Int)] = okI d := by rw [ev_power_of hp (den_ne q), hd]
  have bd : Bd (p ^ d) (3 * d + 1) := ⟨hp.pow_bd d⟩
  have bdn : B n (p ^ d) := hq.den.le (by
    rw [hm, Int.natAbs_mul]
    have : 1 ≤ m.natAbs := by
      rcases Nat.eq_zero_or_pos m.natAbs with z | z
      · exact (zm (by rw [show m = 0 by omega]; exact Int.dvd_zero p)).elim
      · exact z
    exact Nat.le_mul_of_pos_right _ this)
  by_cases hk : k + (d : Int) ≤ 0
  · refine ⟨0, rest_zero hp (by rw [hd]; exact hk), (inferInstance : Qd (0 : Rat) 1).mono (by omega), ?_⟩
    refine outF_ev rfl ?_
    try simp only [List.set_cons_zero, List.set_cons_succ, startE, List.map_cons, List.map_nil, List.replicate, List.cons_append, List.nil_append, List.append_nil, List.length_cons, List.length_nil, Nat.zero_add, Nat.reduceAdd, Nat.reduceSub]
    refine q_set (v := .int d) (by (simp (disch := first | decide | assumption | omega) only [startE, List.map_cons, List.map_nil, List.replicate, eVar, eC, PT.e1, PT.e2, aNil, aCons, eCall, tupR, lstR, eTup, eLst, eIte, eLenO, eIxO, cT, cAnd, cOr, cNot, andV, orV, notD, truR, truD, bindR, bindRB, bindRL, bindL, bindB, bindBB, bindLL, toD, okD, okI, okB, itA, itD, items_tup, items_lst, items_scr, len_tup, len_lst, len_scr, List.getElem?_cons_zero, List.getElem?_cons_succ, List.length_cons, List.length_nil, List.length_map, List.cons_append, List.nil_append, List.append_nil, Nat.zero_add, Nat.reduceAdd, Nat.reduceSub, Nat.reduceLeDiff, if_true, if_false, ite_true, ite_false, Bool.false_eq_true, reduceIte, Bool.not_true, Bool.not_false, Int.reducePow, Int.reduceToNat, Int.reduceMul, Int.reduceAdd, Int.reduceSub, addD, subD, negD, ltR, leR, gtR, geR, eqR_int, neR_int, eqR_bl, neR_bl, absR, max2R, min2R, intR, mulRi, divRi, powRi, modR, absI, len_fr, len_tb, isiT_fr, isiT_tb, isiI_int, isiB_int, isiB_bl, isiL_lst, isiT_tup, items_tb, items_fr, zip_tb, all4, addD_tup2, addD_lst2, eLc, lcL, cYes, wipeE, gN, gTup_tup, gTup_tb, gTup_fr, gLs_lst, gCons, gNil, tuple_lst, List.set_cons_zero, List.set_cons_succ, List.set_nil, ix_fr0, ix_fr1, ix_tb0, ix_tb1, ix_tb2, ix_tb3, eqR_fr, neR_fr, eqR_tb, neR_tb, e1]; try rfl)) ?_
    try simp only [List.set_cons_zero, List.set_cons_succ, startE, List.map_cons, List.map_nil, List.replicate, List.cons_append, List.nil_append, List.append_nil, List.length_cons, List.length_nil, Nat.zero_add, Nat.reduceAdd, Nat.reduceSub]
    have t1 : decide (k + (d : Int) ≤ 0) = true := decide_eq_true hk
    exact q_ifN (t := true) (by (simp (disch := first | decide | assumption | omega) only [startE, List.map_cons, List.map_nil, List.replicate, eVar, eC, PT.e1, PT.e2, aNil, aCons, eCall, tupR, lstR, eTup, eLst, eIte, eLenO, eIxO, cT, cAnd, cOr, cNot, andV, orV, notD, truR, truD, bindR, bindRB, bindRL, bindL, bindB, bindBB, bindLL, toD, okD, okI, okB, itA, itD, items_tup, items_lst, items_scr, len_tup, len_lst, len_scr, List.getElem?_cons_zero, List.getElem?_cons_succ, List.length_cons, List.length_nil, List.length_map, List.cons_append, List.nil_append, List.append_nil, Nat.zero_add, Nat.reduceAdd, Nat.reduceSub, Nat.reduceLeDiff, if_true, if_false, ite_true, ite_false, Bool.false_eq_true, reduceIte, Bool.not_true, Bool.not_false, Int.reducePow, Int.reduceToNat, Int.reduceMul, Int.reduceAdd, Int.reduceSub, addD, subD, negD, ltR, leR, gtR, geR, eqR_int, neR_int, eqR_bl, neR_bl, absR, max2R, min2R, intR, mulRi, divRi, powRi, modR, absI, len_fr, len_tb, isiT_fr, isiT_tb, isiI_int, isiB_int, isiB_bl, isiL_lst, isiT_tup, items_tb, items_fr, zip_tb, all4, addD_tup2, addD_lst2, eLc, lcL, cYes, wipeE, gN, gTup_tup, gTup_tb, gTup_fr, gLs_lst, gCons, gNil, tuple_lst, List.set_cons_zero, List.set_cons_succ, List.set_nil, ix_fr0, ix_fr1, ix_tb0, ix_tb1, ix_tb2, ix_tb3, eqR_fr, neR_fr, eqR_tb, neR_tb, t1]; try rfl)) (fun _ => z_ret (by (simp (disch := first | decide | assumption | omega) only [startE, List.map_cons, List.map_nil, List.replicate, eVar, eC, PT.e1, PT.e2, aNil, aCons, eCall, tupR, lstR, eTup, eLst, eIte, eLenO, eIxO, cT, cAnd, cOr, cNot, andV, orV, notD, truR, truD, bindR, bindRB, bindRL, bindL, bindB, bindBB, bindLL, toD, okD, okI, okB, itA, itD, items_tup, items_lst, items_scr, len_tup, len_lst, len_scr, List.getElem?_cons_zero, List.getElem?_cons_succ, List.length_cons, List.length_nil, List.length_map, List.cons_append, List.nil_append, List.append_nil, Nat.zero_add, Nat.reduceAdd, Nat.reduceSub, Nat.reduceLeDiff, if_true, if_false, ite_true, ite_false, Bool.false_eq_true, reduceIte, Bool.not_true, Bool.not_false, Int.reducePow, Int.reduceToNat, Int.reduceMul, Int.reduceAdd, Int.reduceSub, addD, subD, negD, ltR, leR, gtR, geR, eqR_int, neR_int, eqR_bl, neR_bl, absR, max2R, min2R, intR, mulRi, divRi, powRi, modR, absI, len_fr, len_tb, isiT_fr, isiT_tb, isiI_int, isiB_int, isiB_bl, isiL_lst, isiT_tup, items_tb, items_fr, zip_tb, all4, addD_tup2, addD_lst2, eLc, lcL, cYes, wipeE, gN, gTup_tup, gTup_tb, gTup_fr, gLs_lst, gCons, gNil, tuple_lst, List.set_cons_zero, List.set_cons_succ, List.set_nil, ix_fr0, ix_fr1, ix_tb0, ix_tb1, ix_tb2, ix_tb3, eqR_fr, neR_fr, eqR_tb, neR_tb, k_NOUGHT, fr_0]; try rfl)) rfl) fun z => by cases z
  · obtain ⟨K, hK⟩ : ∃ K : Nat, (K : Int) = k + d := ⟨(k + d).toNat, by omega⟩
    have bK : Bd (p ^ K) (3 * K + 1) := ⟨hp.pow_bd K⟩
    have bm : B n m := hq.den.le (by
      rw [hm, Int.natAbs_mul]
      have : 1 ≤ (p ^ d).natAbs := by omega
      exact Nat.le_mul_of_pos_left _ this)
    obtain ⟨x, ⟨x0, x1, hx⟩, ex⟩ := ev_over_by (k := K) hp bm (fun _ => zm) (by omega) (by omega)
    have bx : Bd x (3 * K + 1) := ⟨bd_lt x0 x1 (hp.pow_bd K)⟩
    have pK := hp.pow_pos K
    have hr := rest_make hp hK hm zm hx
    have t0 := Int.emod_nonneg (q.num * x) (show p ^ K ≠ 0 by omega)
    have t1 := Int.emod_lt_of_pos (q.num * x) pK
    have bt : B (3 * (k.natAbs + n) + 1) (q.num * x % p ^ K) := (bd_lt t0 t1 (hp.pow_bd K)).mono (by omega)
    refine ⟨_, hr, B.divInt bt ((hp.pow_bd d).mono (by omega)) (by omega), ?_⟩
    refine outF_ev rfl ?_
    try simp only [List.set_cons_zero, List.set_cons_succ, startE, List.map_cons, List.map_nil, List.replicate, List.cons_append, List.nil_append, List.append_nil, List.length_cons, List.length_nil, Nat.zero_add, Nat.reduceAdd, Nat.reduceSub]
    refine q_set (v := .int d) (by (simp (disch := first | decide | assumption | omega) only [startE, List.map_cons, List.map_nil, List.replicate, eVar, eC, PT.e1, PT.e2, aNil, aCons, eCall, tupR, lstR, eTup, eLst, eIte, eLenO, eIxO, cT, cAnd, cOr, cNot, andV, orV, notD, truR, truD, bindR, bindRB, bindRL, bindL, bindB, bindBB, bindLL, toD, okD, okI, okB, itA, itD, items_tup, items_lst, items_scr, len_tup, len_lst, len_scr, List.getElem?_cons_zero, List.getElem?_cons_succ, List.length_cons, List.length_nil, List.length_map, List.cons_append, List.nil_append, List.append_nil, Nat.zero_add, Nat.reduceAdd, Nat.reduceSub, Nat.reduceLeDiff, if_true, if_false, ite_true, ite_false, Bool.false_eq_true, reduceIte, Bool.not_true, Bool.not_false, Int.reducePow, Int.reduceToNat, Int.reduceMul, Int.reduceAdd, Int.reduceSub, addD, subD, negD, ltR, leR, gtR, geR, eqR_int, neR_int, eqR_bl, neR_bl, absR, max2R, min2R, intR, mulRi, divRi, powRi, modR, absI, len_fr, len_tb, isiT_fr, isiT_tb, isiI_int, isiB_int, isiB_bl, isiL_lst, isiT_tup, items_tb, items_fr, zip_tb, all4, addD_tup2, addD_lst2, eLc, lcL, cYes, wipeE, gN, gTup_tup, gTup_tb, gTup_fr, gLs_lst, gCons, gNil, tuple_lst, List.set_cons_zero, List.set_cons_succ, List.set_nil, ix_fr0, ix_fr1, ix_tb0, ix_tb1, ix_tb2, ix_tb3, eqR_fr, neR_fr, eqR_tb, neR_tb, e1]; try rfl)) ?_
    try simp only [List.set_cons_zero, List.set_cons_succ, startE, List.map_cons, List.map_nil, List.replicate, List.cons_append, List.nil_append, List.append_nil, List.length_cons, List.length_nil, Nat.zero_add, Nat.reduceAdd, Nat.reduceSub]
    have t1 : decide (k + (d : Int) ≤ 0) = false := decide_eq_false hk
    refine q_ifN (t := false) (by (simp (disch := first | decide | assumption | omega) only [startE, List.map_cons, List.map_nil, List.replicate, eVar, eC, PT.e1, PT.e2, aNil, aCons, eCall, tupR, lstR, eTup, eLst, eIte, eLenO, eIxO, cT, cAnd, cOr, cNot, andV, orV, notD, truR, truD, bindR, bindRB, bindRL, bindL, bindB, bindBB, bindLL, toD, okD, okI, okB, itA, itD, items_tup, items_lst, items_scr, len_tup, len_lst, len_scr, List.getElem?_cons_zero, List.getElem?_cons_succ, List.length_cons, List.length_nil, List.length_map, List.cons_append, List.nil_append, List.append_nil, Nat.zero_add, Nat.reduceAdd, Nat.reduceSub, Nat.reduceLeDiff, if_true, if_false, ite_true, ite_false, Bool.false_eq_true, reduceIte, Bool.not_true, Bool.not_false, Int.reducePow, Int.reduceToNat, Int.reduceMul, Int.reduceAdd, Int.reduceSub, addD, subD, negD, ltR, leR, gtR, geR, eqR_int, neR_int, eqR_bl, neR_bl, absR, max2R, min2R, intR, mulRi, divRi, powRi, modR, absI, len_fr, len_tb, isiT_fr, isiT_tb, isiI_int, isiB_int, isiB_bl, isiL_lst, isiT_tup, items_tb, items_fr, zip_tb, all4, addD_tup2, addD_lst2, eLc, lcL, cYes, wipeE, gN, gTup_tup, gTup_tb, gTup_fr, gLs_lst, gCons, gNil, tuple_lst, List.set_cons_zero, List.set_cons_succ, List.set_nil, ix_fr0, ix_fr1, ix_tb0, ix_tb1, ix_tb2, ix_tb3, eqR_fr, neR_fr, eqR_tb, neR_tb, t1]; try rfl)) (fun z => by cases z) fun _ => ?_
    have e2 : f_raised [.int p, .int d] = okI (p ^ d) := ev_raised hp.bd (by omega)
    have e3 : f_raised [.int p, .int (k + d)] = okI (p ^ K) := by rw [← hK]; exact ev_raised hp.bd (by omega)
    refine q_set (v := .int (p ^ d)) (by (simp (disch := first | decide | assumption | omega) only [startE, List.map_cons, List.map_nil, List.replicate, eVar, eC, PT.e1, PT.e2, aNil, aCons, eCall, tupR, lstR, eTup, eLst, eIte, eLenO, eIxO, cT, cAnd, cOr, cNot, andV, orV, notD, truR, truD, bindR, bindRB, bindRL, bindL, bindB, bindBB, bindLL, toD, okD, okI, okB, itA, itD, items_tup, items_lst, items_scr, len_tup, len_lst, len_scr, List.getElem?_cons_zero, List.getElem?_cons_succ, List.length_cons, List.length_nil, List.length_map, List.cons_append, List.nil_append, List.append_nil, Nat.zero_add, Nat.reduceAdd, Nat.reduceSub, Nat.reduceLeDiff, if_true, if_false, ite_true, ite_false, Bool.false_eq_true, reduceIte, Bool.not_true, Bool.not_false, Int.reducePow, Int.reduceToNat, Int.reduceMul, Int.reduceAdd, Int.reduceSub, addD, subD, negD, ltR, leR, gtR, geR, eqR_int, neR_int, eqR_bl, neR_bl, absR, max2R, min2R, intR, mulRi, divRi, powRi, modR, absI, len_fr, len_tb, isiT_fr, isiT_tb, isiI_int, isiB_int, isiB_bl, isiL_lst, isiT_tup, items_tb, items_fr, zip_tb, all4, addD_tup2, addD_lst2, eLc, lcL, cYes, wipeE, gN, gTup_tup, gTup_tb, gTup_fr, gLs_lst, gCons, gNil, tuple_lst, List.set_cons_zero, List.set_cons_succ, List.set_nil, ix_fr0, ix_fr1, ix_tb0, ix_tb1, ix_tb2, ix_tb3, eqR_fr, neR_fr, eqR_tb, neR_tb, e2]; try rfl)) ?_
    try simp only [List.set_cons_zero, List.set_cons_succ, startE, List.map_cons, List.map_nil, List.replicate, List.cons_append, List.nil_append, List.append_nil, List.length_cons, List.length_nil, Nat.zero_add, Nat.reduceAdd, Nat.reduceSub]
    refine q_set (v := .int (p ^ K)) (by (simp (disch := first | decide | assumption | omega) only [startE, List.map_cons, List.map_nil, List.replicate, eVar, eC, PT.e1, PT.e2, aNil, aCons, eCall, tupR, lstR, eTup, eLst, eIte, eLenO, eIxO, cT, cAnd, cOr, cNot, andV, orV, notD, truR, truD, bindR, bindRB, bindRL, bindL, bindB, bindBB, bindLL, toD, okD, okI, okB, itA, itD, items_tup, items_lst, items_scr, len_tup, len_lst, len_scr, List.getElem?_cons_zero, List.getElem?_cons_succ, List.length_cons, List.length_nil, List.length_map, List.cons_append, List.nil_append, List.append_nil, Nat.zero_add, Nat.reduceAdd, Nat.reduceSub, Nat.reduceLeDiff, if_true, if_false, ite_true, ite_false, Bool.false_eq_true, reduceIte, Bool.not_true, Bool.not_false, Int.reducePow, Int.reduceToNat, Int.reduceMul, Int.reduceAdd, Int.reduceSub, addD, subD, negD, ltR, leR, gtR, geR, eqR_int, neR_int, eqR_bl, neR_bl, absR, max2R, min2R, intR, mulRi, divRi, powRi, modR, absI, len_fr, len_tb, isiT_fr, isiT_tb, isiI_int, isiB_int, isiB_bl, isiL_lst, isiT_tup, items_tb, items_fr, zip_tb, all4, addD_tup2, addD_lst2, eLc, lcL, cYes, wipeE, gN, gTup_tup, gTup_tb, gTup_fr, gLs_lst, gCons, gNil, tuple_lst, List.set_cons_zero, List.set_cons_succ, List.set_nil, ix_fr0, ix_fr1, ix_tb0, ix_tb1, ix_tb2, ix_tb3, eqR_fr, neR_fr, eqR_tb, neR_tb, e3]; try rfl)) ?_
    try simp only [List.set_cons_zero, List.set_cons_succ, startE, List.map_cons, List.map_nil, List.replicate, List.cons_append, List.nil_append, List.append_nil, List.length_cons, List.length_nil, Nat.zero_add, Nat.reduceAdd, Nat.reduceSub]
    have e4 : (q.den : Int).fdiv (p ^ d) = m := by rw [fdiv_pos _ pd, hm, Int.mul_ediv_cancel_left _ (by omega)]
    have e5 : fdivD (.int (q.den : Int)) (.int (p ^ d)) = okI m := by rw [fdivR (n := n) (by omega) bdn (by omega), e4]
    rw [hK] at ex
    have l4 : n + (3 * K + 1) < 1000000 := by omega
    exact z_ret (by (simp (disch := first | decide | assumption | omega) only [startE, List.map_cons, List.map_nil, List.replicate, eVar, eC, PT.e1, PT.e2, aNil, aCons, eCall, tupR, lstR, eTup, eLst, eIte, eLenO, eIxO, cT, cAnd, cOr, cNot, andV, orV, notD, truR, truD, bindR, bindRB, bindRL, bindL, bindB, bindBB, bindLL, toD, okD, okI, okB, itA, itD, items_tup, items_lst, items_scr, len_tup, len_lst, len_scr, List.getElem?_cons_zero, List.getElem?_cons_succ, List.length_cons, List.length_nil, List.length_map, List.cons_append, List.nil_append, List.append_nil, Nat.zero_add, Nat.reduceAdd, Nat.reduceSub, Nat.reduceLeDiff, if_true, if_false, ite_true, ite_false, Bool.false_eq_true, reduceIte, Bool.not_true, Bool.not_false, Int.reducePow, Int.reduceToNat, Int.reduceMul, Int.reduceAdd, Int.reduceSub, addD, subD, negD, ltR, leR, gtR, geR, eqR_int, neR_int, eqR_bl, neR_bl, absR, max2R, min2R, intR, mulRi, divRi, powRi, modR, absI, len_fr, len_tb, isiT_fr, isiT_tb, isiI_int, isiB_int, isiB_bl, isiL_lst, isiT_tup, items_tb, items_fr, zip_tb, all4, addD_tup2, addD_lst2, eLc, lcL, cYes, wipeE, gN, gTup_tup, gTup_tb, gTup_fr, gLs_lst, gCons, gNil, tuple_lst, List.set_cons_zero, List.set_cons_succ, List.set_nil, ix_fr0, ix_fr1, ix_tb0, ix_tb1, ix_tb2, ix_tb3, eqR_fr, neR_fr, eqR_tb, neR_tb, e5, ex, ev_fraction bdn (show p ^ d ≠ 0 by omega) (show n < 9000 by omega)]; try rfl)) rfl
/-- a fraction over a power of the prime, less than p ** k -/
theorem rest_self {p k top : Int} {d K : Nat} (hp : Pr p) (hK : (K : Int) = k + d) (t0 : 0 ≤ top) (t1 : top < p ^ K) : IsRest p k (Rat.divInt top (p ^ d)) (Rat.divInt top (p ^ d)) := by
  have pd := hp.pow_pos d
  have dk := pz_pos hp d
  have ek : pz p K = pz p k * pz p d := by rw [hK, pz_add hp]
  have er : Rat.divInt top (p ^ d) = (top : Rat) / pz p d := by rw [Rat.divInt_eq_div, pz_nat]
  refine ⟨Rat.divInt_nonneg t0 (by omega), ?_, ?_, by rw [Rat.sub_self]; exact Al.zero p k⟩
  · rw [er]
    have h1 : (top : Rat) < pz p K := by rw [pz_nat]; exact_mod_cast t1
    rw [ek] at h1
    rw [Rat.div_lt_iff dk]
    exact h1
  · rw [Rat.den_divInt, if_neg (by omega)]
    obtain ⟨g, hg⟩ : (Int.gcd (p ^ d) top : Int) ∣ p ^ d := Int.gcd_dvd_left ..
    have hg0 : (Int.gcd (p ^ d) top : Int) ≠ 0 := fun w => by rw [w] at hg; omega
    have hg1 : (0 : Int) ≤ (Int.gcd (p ^ d) top : Int) := by omega
    have e5 : (((p ^ d).natAbs / Int.gcd (p ^ d) top : Nat) : Int) = g := by
      rw [Int.natCast_ediv]
      have : ((p ^ d).natAbs : Int) = p ^ d := by omega
      rw [this]
      conv => lhs; arg 1; rw [hg]
      exact Int.mul_ediv_cancel_left _ hg0
    rw [e5]
    have g0 : 0 < g := by
      rcases (by omega : g ≤ 0 ∨ 0 < g) with w | w
      · have := Int.mul_nonpos_of_nonneg_of_nonpos hg1 w; omega
      · exact w
    obtain ⟨w, hw, hz⟩ := vp_spec hp.two (show g ≠ 0 by omega)
    have hd : g ∣ p ^ d := ⟨_, by rw [Int.mul_comm]; exact hg⟩
    have w0 : 0 < w := by
      have := hp.pow_pos (vp p g)
      rcases (by omega : w ≤ 0 ∨ 0 < w) with y | y
      · have := Int.mul_nonpos_of_nonneg_of_nonpos (Int.le_of_lt this) y; omega
      · exact y
    have w1 : w = 1 := den_one hp hz w0 d (Int.dvd_trans ⟨p ^ vp p g, by rw [Int.mul_comm]; exact hw⟩ hd)
    exact ⟨vp p g, by rw [w1, Int.mul_one] at hw; exact hw⟩
theorem rest_nought {p k : Int} (hp : Pr p) : IsRest p k 0 0 := ⟨by decide, pz_pos hp k, ⟨0, by rw [Int.pow_zero]; rfl⟩, by rw [Rat.sub_self]; exact Al.zero p k⟩
/-- whole over what the prime does not divide -/
theorem al_div {p a b : Int} (hp : Pr p) (hb : ¬ p ∣ b) : Al p 0 (Rat.divInt a b) := by
  rw [al_iff hp]
  exact ⟨a, b, hb, by rw [pz_zero, Rat.divInt_eq_div, Rat.one_mul]⟩
theorem unit_div {p a b : Int} (hp : Pr p) (ha : ¬ p ∣ a) (hb : ¬ p ∣ b) : Rat.divInt a b ≠ 0 ∧ vq p (Rat.divInt a b) = 0 := by
  have a0 : a ≠ 0 := fun z => ha (by rw [z]; exact Int.dvd_zero p)
  have b0 : b ≠ 0 := fun z => hb (by rw [z]; exact Int.dvd_zero p)
  rw [Rat.divInt_eq_div]
  refine ⟨?_, by rw [vq_div hp a0 b0, vp_zero hp ha, vp_zero hp hb]; rfl⟩
  have := cast_ne a0
  have := cast_ne b0
  grind
theorem step_off {p b : Int} (hp : Pr p) (h : p ∣ b) : ¬ p ∣ b + 1 := fun g => by
  have := Int.dvd_sub g h
  rw [show b + 1 - b = 1 by omega] at this
  exact not_one hp this
end PT
/-! PM: the helpers of the laws about whole numbers: what they answer. -/
namespace PT
open PySem (Str)
/-- _law_up(_law_p, _law_k): slots _law_p, _law_k, _law_found -/
def w__law_up : SF := wSeq (wSet 2 (eC (.int 1))) (wSeq (wWhile (cT (e2 gtR (eVar 1) (eC (.int 0)))) (wSeq (wIf (cT (e2 eqR (e2 modD (eVar 1) (eC (.int 2))) (eC (.int 1)))) (wSet 2 (e2 mulD (eVar 2) (eVar 0))) (wNop)) (wSeq (wSet 0 (e2 mulD (eVar 0) (eVar 0))) (wSet 1 (e2 fdivD (eVar 1) (eC (.int 2))))))) (wRet (eVar 2)))
instance : Det w__law_up := by unfold w__law_up; infer_instance
instance : Out w__law_up := by unfold w__law_up; infer_instance
noncomputable def f__law_up : List D → Option R := outF 2 3 w__law_up
theorem len__law_up : ∀ ds r, f__law_up ds = some r → ds.length = 2 := outF_len
theorem does__law_up : Does 3 w__law_up f__law_up := outF_does
/-- _law_drawn(_law_script, _law_k): slots _law_script, _law_k, _law_cell, _law_small -/
def w__law_drawn : SF := wSeq (wSet 2 (eC (.int 0))) (wSeq (wIf (cT (e2 ltR (eVar 1) (eCall lenR (aCons (eVar 0) (aNil))))) (wSet 2 (e2 modD (e2 ixR (eVar 0) (eVar 1)) (e2 powD (eC (.int 10)) (eC (.int 60))))) (wNop)) (wSeq (wIf (cAnd (cT (e2 gtR (eCall lenR (aCons (eVar 0) (aNil))) (eC (.int 0)))) (cT (e2 eqR (e2 modD (e2 ixR (eVar 0) (eC (.int 0))) (eC (.int 2))) (eC (.int 1))))) (wRet (e2 fdivD (eVar 2) (e2 addD (eC (.int 1)) (eCall intR (aCons (e2 eqR (eVar 1) (eC (.int 0))) (aNil)))))) (wNop)) (wSeq (wSet 3 (e2 modD (e2 mulD (e2 modD (e2 mulD (e2 addD (e2 addD (eVar 2) (e2 mulD (eC (.int 7919)) (eVar 1))) (eC (.int 13))) (eC (.int 48271))) (eC (.int 2147483647))) (eC (.int 69621))) (eC (.int 2147483629)))) (wRet (e2 addD (e2 mulD (eVar 2) (eC (.int 2147483629))) (eVar 3))))))
instance : Det w__law_drawn := by unfold w__law_drawn; infer_instance
instance : Out w__law_drawn := by unfold w__law_drawn; infer_instance
noncomputable def f__law_drawn : List D → Option R := outF 2 4 w__law_drawn
theorem len__law_drawn : ∀ ds r, f__law_drawn ds = some r → ds.length = 2 := outF_len
theorem does__law_drawn : Does 4 w__law_drawn f__law_drawn := outF_does
/-- _law_whole(_law_found): slots _law_found -/
def w__law_whole : SF := wRet (andV (eCall isiR (aCons (eVar 0) (aCons (eC (.raw (.ty "int"))) (aNil)))) (e1 notD (eCall isiR (aCons (eVar 0) (aCons (eC (.raw (.ty "bool"))) (aNil))))))
instance : Det w__law_whole := by unfold w__law_whole; infer_instance
instance : Out w__law_whole := by unfold w__law_whole; infer_instance
noncomputable def f__law_whole : List D → Option R := outF 1 1 w__law_whole
theorem len__law_whole : ∀ ds r, f__law_whole ds = some r → ds.length = 1 := outF_len
theorem does__law_whole : Does 1 w__law_whole f__law_whole := outF_does
/-- _law_prime(_law_number): slots _law_number -/
def w__law_prime : SF := wRet (e2 ixR (eTup (aCons (eC (.int 2)) (aCons (eC (.int 3)) (aCons (eC (.int 5)) (aCons (eC (.int 7)) (aNil)))))) (e2 modD (eVar 0) (eC (.int 4))))
instance : Det w__law_prime := by unfold w__law_prime; infer_instance
instance : Out w__law_prime := by unfold w__law_prime; infer_instance
noncomputable def f__law_prime : List D → Option R := outF 1 1 w__law_prime
theorem len__law_prime : ∀ ds r, f__law_prime ds = some r → ds.length = 1 := outF_len
theorem does__law_prime : Does 1 w__law_prime f__law_prime := outF_does

theorem len_map (ns : List Int) : lenR [.scr (ns.map D.int)] = okI ns.length := by rw [len_scr, List.length_map]
theorem ev__law_whole (i : Int) : f__law_whole [.int i] = okB true := by
  refine outF_ev rfl ?_
  simp (disch := first | decide | assumption | omega) only [startE, List.map_cons, List.map_nil, List.replicate, eVar, eC, PT.e1, PT.e2, aNil, aCons, eCall, tupR, lstR, eTup, eLst, eIte, eLenO, eIxO, cT, cAnd, cOr, cNot, andV, orV, notD, truR, truD, bindR, bindRB, bindRL, bindL, bindB, bindBB, bindLL, toD, okD, okI, okB, itA, itD, items_tup, items_lst, items_scr, len_tup, len_lst, len_scr, List.getElem?_cons_zero, List.getElem?_cons_succ, List.length_cons, List.length_nil, List.length_map, List.cons_append, List.nil_append, List.append_nil, Nat.zero_add, Nat.reduceAdd, Nat.reduceSub, Nat.reduceLeDiff, if_true, if_false, ite_true, ite_false, Bool.false_eq_true, reduceIte, Bool.not_true, Bool.not_false, Int.reducePow, Int.reduceToNat, Int.reduceMul, Int.reduceAdd, Int.reduceSub, addD, subD, negD, ltR, leR, gtR, geR, eqR_int, neR_int, eqR_bl, neR_bl, absR, max2R, min2R, intR, mulRi, divRi, powRi, modR, absI, len_fr, len_tb, isiT_fr, isiT_tb, isiI_int, isiB_int, isiB_bl, isiL_lst, isiT_tup, items_tb, items_fr, zip_tb, all4, addD_tup2, addD_lst2, eLc, lcL, cYes, wipeE, gN, gTup_tup, gTup_tb, gTup_fr, gLs_lst, gCons, gNil, tuple_lst, List.set_cons_zero, List.set_cons_succ, List.set_nil, ix_fr0, ix_fr1, ix_tb0, ix_tb1, ix_tb2, ix_tb3, eqR_fr, neR_fr, eqR_tb, neR_tb, startE, List.map_cons, List.map_nil, List.replicate, PDof, PDp, wSeq, wSet, wOwn, wRet, wRetN, wIf, wR, wRB, wRL, wExpr, wRaise, wNop, wAsg, wPar, R.ok.injEq, SV.d.injEq, D.int.injEq, D.bl.injEq, w__law_whole]
theorem up_is : f__law_up = f_raised := rfl
theorem ev__law_up {x : Int} {b k : Nat} (hx : B b x) (l : b * k ≤ 300000) : f__law_up [.int x, .int k] = okI (x ^ k) := by
  rw [up_is]; exact ev_raised hx l
theorem ev__law_prime (n : Int) : ∃ p : Int, Pr p ∧ f__law_prime [.int n] = okI p := by
  refine postI rfl ?_
  try simp only [List.set_cons_zero, List.set_cons_succ, startE, List.map_cons, List.map_nil, List.replicate, List.cons_append, List.nil_append, List.append_nil, List.length_cons, List.length_nil, Nat.zero_add, Nat.reduceAdd, Nat.reduceSub]
  obtain ⟨p, hp, e⟩ : ∃ p : Int, Pr p ∧ ixR (.tup [.int 2, .int 3, .int 5, .int 7]) (.int (n % 4)) = okD (.int p) := by
    rcases (by omega : n % 4 = 0 ∨ n % 4 = 1 ∨ n % 4 = 2 ∨ n % 4 = 3) with z | z | z | z <;> rw [z]
    · exact ⟨2, .inl rfl, rfl⟩
    · exact ⟨3, .inr (.inl rfl), rfl⟩
    · exact ⟨5, .inr (.inr (.inl rfl)), rfl⟩
    · exact ⟨7, .inr (.inr (.inr rfl)), rfl⟩
  exact z_ret (by (simp (disch := first | decide | assumption | omega) only [startE, List.map_cons, List.map_nil, List.replicate, eVar, eC, PT.e1, PT.e2, aNil, aCons, eCall, tupR, lstR, eTup, eLst, eIte, eLenO, eIxO, cT, cAnd, cOr, cNot, andV, orV, notD, truR, truD, bindR, bindRB, bindRL, bindL, bindB, bindBB, bindLL, toD, okD, okI, okB, itA, itD, items_tup, items_lst, items_scr, len_tup, len_lst, len_scr, List.getElem?_cons_zero, List.getElem?_cons_succ, List.length_cons, List.length_nil, List.length_map, List.cons_append, List.nil_append, List.append_nil, Nat.zero_add, Nat.reduceAdd, Nat.reduceSub, Nat.reduceLeDiff, if_true, if_false, ite_true, ite_false, Bool.false_eq_true, reduceIte, Bool.not_true, Bool.not_false, Int.reducePow, Int.reduceToNat, Int.reduceMul, Int.reduceAdd, Int.reduceSub, addD, subD, negD, ltR, leR, gtR, geR, eqR_int, neR_int, eqR_bl, neR_bl, absR, max2R, min2R, intR, mulRi, divRi, powRi, modR, absI, len_fr, len_tb, isiT_fr, isiT_tb, isiI_int, isiB_int, isiB_bl, isiL_lst, isiT_tup, items_tb, items_fr, zip_tb, all4, addD_tup2, addD_lst2, eLc, lcL, cYes, wipeE, gN, gTup_tup, gTup_tb, gTup_fr, gLs_lst, gCons, gNil, tuple_lst, List.set_cons_zero, List.set_cons_succ, List.set_nil, ix_fr0, ix_fr1, ix_tb0, ix_tb1, ix_tb2, ix_tb3, eqR_fr, neR_fr, eqR_tb, neR_tb, e]; try rfl)) ⟨p, hp, rfl⟩
/-- a drawn number -/
theorem ev__law_drawn (ns : List Int) (k : Nat) (hk : k < 1000) : ∃ n : Int, (0 ≤ n ∧ B 300 n) ∧ f__law_drawn [.scr (ns.map D.int), .int k] = okI n := by
  refine postI rfl ?_
  have bk : Bd (k : Int) 10 := ⟨B.of (by omega) (by omega)⟩
  try simp only [List.set_cons_zero, List.set_cons_succ, startE, List.map_cons, List.map_nil, List.replicate, List.cons_append, List.nil_append, List.append_nil, List.length_cons, List.length_nil, Nat.zero_add, Nat.reduceAdd, Nat.reduceSub]
  refine q_set (v := .int 0) rfl ?_
  try simp only [List.set_cons_zero, List.set_cons_succ, startE, List.map_cons, List.map_nil, List.replicate, List.cons_append, List.nil_append, List.append_nil, List.length_cons, List.length_nil, Nat.zero_add, Nat.reduceAdd, Nat.reduceSub]
  refine q_ifJ (fun ρ => ∃ c : Int, 0 ≤ c ∧ c < 10 ^ 60 ∧ ρ = [some (.d (.scr (ns.map D.int))), some (.d (.int k)), some (.d (.int c)), none]) (t := decide ((k : Int) < ns.length)) (by (simp (disch := first | decide | assumption | omega) only [startE, List.map_cons, List.map_nil, List.replicate, eVar, eC, PT.e1, PT.e2, aNil, aCons, eCall, tupR, lstR, eTup, eLst, eIte, eLenO, eIxO, cT, cAnd, cOr, cNot, andV, orV, notD, truR, truD, bindR, bindRB, bindRL, bindL, bindB, bindBB, bindLL, toD, okD, okI, okB, itA, itD, items_tup, items_lst, items_scr, len_tup, len_lst, len_scr, List.getElem?_cons_zero, List.getElem?_cons_succ, List.length_cons, List.length_nil, List.length_map, List.cons_append, List.nil_append, List.append_nil, Nat.zero_add, Nat.reduceAdd, Nat.reduceSub, Nat.reduceLeDiff, if_true, if_false, ite_true, ite_false, Bool.false_eq_true, reduceIte, Bool.not_true, Bool.not_false, Int.reducePow, Int.reduceToNat, Int.reduceMul, Int.reduceAdd, Int.reduceSub, addD, subD, negD, ltR, leR, gtR, geR, eqR_int, neR_int, eqR_bl, neR_bl, absR, max2R, min2R, intR, mulRi, divRi, powRi, modR, absI, len_fr, len_tb, isiT_fr, isiT_tb, isiI_int, isiB_int, isiB_bl, isiL_lst, isiT_tup, items_tb, items_fr, zip_tb, all4, addD_tup2, addD_lst2, eLc, lcL, cYes, wipeE, gN, gTup_tup, gTup_tb, gTup_fr, gLs_lst, gCons, gNil, tuple_lst, List.set_cons_zero, List.set_cons_succ, List.set_nil, ix_fr0, ix_fr1, ix_tb0, ix_tb1, ix_tb2, ix_tb3, eqR_fr, neR_fr, eqR_tb, neR_tb]; try rfl)) ?_ ?_ ?_
  · rintro ρ ⟨c, hc1, hc2, rfl⟩
    have bc : Bd c 200 := ⟨B.of (by omega) (by omega)⟩
    have e2 : (1 + (if ((k : Int) == 0) = true then (1 : Int) else 0)) = 1 ∨ (1 + (if ((k : Int) == 0) = true then (1 : Int) else 0)) = 2 := by split <;> decide
    have e3 : ∀ x : Int, x = 1 ∨ x = 2 → fdivD (.int c) (.int x) = okI (c / x) ∧ 0 ≤ c / x ∧ B 300 (c / x) := by
      rintro x (rfl | rfl)
      · exact ⟨divRi (by decide) (by decide), by omega, B.of (by omega) (by omega)⟩
      · exact ⟨divRi (by decide) (by decide), by omega, B.of (by omega) (by omega)⟩
    obtain ⟨f1, f2, f3⟩ := e3 _ e2
    refine q_ifN (t := decide (0 < ns.length ∧ ns.getD 0 0 % 2 = 1)) ?_ (fun _ => ?_) fun _ => ?_
    · cases ns with
      | nil => (simp (disch := first | decide | assumption | omega) only [startE, List.map_cons, List.map_nil, List.replicate, eVar, eC, PT.e1, PT.e2, aNil, aCons, eCall, tupR, lstR, eTup, eLst, eIte, eLenO, eIxO, cT, cAnd, cOr, cNot, andV, orV, notD, truR, truD, bindR, bindRB, bindRL, bindL, bindB, bindBB, bindLL, toD, okD, okI, okB, itA, itD, items_tup, items_lst, items_scr, len_tup, len_lst, len_scr, List.getElem?_cons_zero, List.getElem?_cons_succ, List.length_cons, List.length_nil, List.length_map, List.cons_append, List.nil_append, List.append_nil, Nat.zero_add, Nat.reduceAdd, Nat.reduceSub, Nat.reduceLeDiff, if_true, if_false, ite_true, ite_false, Bool.false_eq_true, reduceIte, Bool.not_true, Bool.not_false, Int.reducePow, Int.reduceToNat, Int.reduceMul, Int.reduceAdd, Int.reduceSub, addD, subD, negD, ltR, leR, gtR, geR, eqR_int, neR_int, eqR_bl, neR_bl, absR, max2R, min2R, intR, mulRi, divRi, powRi, modR, absI, len_fr, len_tb, isiT_fr, isiT_tb, isiI_int, isiB_int, isiB_bl, isiL_lst, isiT_tup, items_tb, items_fr, zip_tb, all4, addD_tup2, addD_lst2, eLc, lcL, cYes, wipeE, gN, gTup_tup, gTup_tb, gTup_fr, gLs_lst, gCons, gNil, tuple_lst, List.set_cons_zero, List.set_cons_succ, List.set_nil, ix_fr0, ix_fr1, ix_tb0, ix_tb1, ix_tb2, ix_tb3, eqR_fr, neR_fr, eqR_tb, neR_tb]; try rfl)
      | cons n ns =>
        have g1 : decide ((0 : Int) < (((n :: ns).length : Nat) : Int)) = true := decide_eq_true (by rw [List.length_cons]; omega)
        have g2 : ixR (.scr ((n :: ns).map D.int)) (.int 0) = okD (.int n) := ix_nat (k := 0) rfl
        simp only [List.map_cons] at g2
        (simp (disch := first | decide | assumption | omega) only [startE, List.map_cons, List.map_nil, List.replicate, eVar, eC, PT.e1, PT.e2, aNil, aCons, eCall, tupR, lstR, eTup, eLst, eIte, eLenO, eIxO, cT, cAnd, cOr, cNot, andV, orV, notD, truR, truD, bindR, bindRB, bindRL, bindL, bindB, bindBB, bindLL, toD, okD, okI, okB, itA, itD, items_tup, items_lst, items_scr, len_tup, len_lst, len_scr, List.getElem?_cons_zero, List.getElem?_cons_succ, List.length_cons, List.length_nil, List.length_map, List.cons_append, List.nil_append, List.append_nil, Nat.zero_add, Nat.reduceAdd, Nat.reduceSub, Nat.reduceLeDiff, if_true, if_false, ite_true, ite_false, Bool.false_eq_true, reduceIte, Bool.not_true, Bool.not_false, Int.reducePow, Int.reduceToNat, Int.reduceMul, Int.reduceAdd, Int.reduceSub, addD, subD, negD, ltR, leR, gtR, geR, eqR_int, neR_int, eqR_bl, neR_bl, absR, max2R, min2R, intR, mulRi, divRi, powRi, modR, absI, len_fr, len_tb, isiT_fr, isiT_tb, isiI_int, isiB_int, isiB_bl, isiL_lst, isiT_tup, items_tb, items_fr, zip_tb, all4, addD_tup2, addD_lst2, eLc, lcL, cYes, wipeE, gN, gTup_tup, gTup_tb, gTup_fr, gLs_lst, gCons, gNil, tuple_lst, List.set_cons_zero, List.set_cons_succ, List.set_nil, ix_fr0, ix_fr1, ix_tb0, ix_tb1, ix_tb2, ix_tb3, eqR_fr, neR_fr, eqR_tb, neR_tb, g2]; try rfl)
        simp
        rw [Bool.eq_iff_iff]; simp
    · exact z_ret (by (simp (disch := first | decide | assumption | omega) only [startE, List.map_cons, List.map_nil, List.replicate, eVar, eC, PT.e1, PT.e2, aNil, aCons, eCall, tupR, lstR, eTup, eLst, eIte, eLenO, eIxO, cT, cAnd, cOr, cNot, andV, orV, notD, truR, truD, bindR, bindRB, bindRL, bindL, bindB, bindBB, bindLL, toD, okD, okI, okB, itA, itD, items_tup, items_lst, items_scr, len_tup, len_lst, len_scr, List.getElem?_cons_zero, List.getElem?_cons_succ, List.length_cons, List.length_nil, List.length_map, List.cons_append, List.nil_append, List.append_nil, Nat.zero_add, Nat.reduceAdd, Nat.reduceSub, Nat.reduceLeDiff, if_true, if_false, ite_true, ite_false, Bool.false_eq_true, reduceIte, Bool.not_true, Bool.not_false, Int.reducePow, Int.reduceToNat, Int.reduceMul, Int.reduceAdd, Int.reduceSub, addD, subD, negD, ltR, leR, gtR, geR, eqR_int, neR_int, eqR_bl, neR_bl, absR, max2R, min2R, intR, mulRi, divRi, powRi, modR, absI, len_fr, len_tb, isiT_fr, isiT_tb, isiI_int, isiB_int, isiB_bl, isiL_lst, isiT_tup, items_tb, items_fr, zip_tb, all4, addD_tup2, addD_lst2, eLc, lcL, cYes, wipeE, gN, gTup_tup, gTup_tb, gTup_fr, gLs_lst, gCons, gNil, tuple_lst, List.set_cons_zero, List.set_cons_succ, List.set_nil, ix_fr0, ix_fr1, ix_tb0, ix_tb1, ix_tb2, ix_tb3, eqR_fr, neR_fr, eqR_tb, neR_tb, f1]; try rfl)) ⟨_, ⟨f2, f3⟩, rfl⟩
    · refine q_set (v := .int ((c + 7919 * k + 13) * 48271 % 2147483647 * 69621 % 2147483629)) (by (simp (disch := first | decide | assumption | omega) only [startE, List.map_cons, List.map_nil, List.replicate, eVar, eC, PT.e1, PT.e2, aNil, aCons, eCall, tupR, lstR, eTup, eLst, eIte, eLenO, eIxO, cT, cAnd, cOr, cNot, andV, orV, notD, truR, truD, bindR, bindRB, bindRL, bindL, bindB, bindBB, bindLL, toD, okD, okI, okB, itA, itD, items_tup, items_lst, items_scr, len_tup, len_lst, len_scr, List.getElem?_cons_zero, List.getElem?_cons_succ, List.length_cons, List.length_nil, List.length_map, List.cons_append, List.nil_append, List.append_nil, Nat.zero_add, Nat.reduceAdd, Nat.reduceSub, Nat.reduceLeDiff, if_true, if_false, ite_true, ite_false, Bool.false_eq_true, reduceIte, Bool.not_true, Bool.not_false, Int.reducePow, Int.reduceToNat, Int.reduceMul, Int.reduceAdd, Int.reduceSub, addD, subD, negD, ltR, leR, gtR, geR, eqR_int, neR_int, eqR_bl, neR_bl, absR, max2R, min2R, intR, mulRi, divRi, powRi, modR, absI, len_fr, len_tb, isiT_fr, isiT_tb, isiI_int, isiB_int, isiB_bl, isiL_lst, isiT_tup, items_tb, items_fr, zip_tb, all4, addD_tup2, addD_lst2, eLc, lcL, cYes, wipeE, gN, gTup_tup, gTup_tb, gTup_fr, gLs_lst, gCons, gNil, tuple_lst, List.set_cons_zero, List.set_cons_succ, List.set_nil, ix_fr0, ix_fr1, ix_tb0, ix_tb1, ix_tb2, ix_tb3, eqR_fr, neR_fr, eqR_tb, neR_tb]; try rfl)) ?_
      try simp only [List.set_cons_zero, List.set_cons_succ, startE, List.map_cons, List.map_nil, List.replicate, List.cons_append, List.nil_append, List.append_nil, List.length_cons, List.length_nil, Nat.zero_add, Nat.reduceAdd, Nat.reduceSub]
      generalize hz : (c + 7919 * (k : Int) + 13) * 48271 % 2147483647 * 69621 % 2147483629 = z
      have z0 : 0 ≤ z ∧ z < 2147483629 := ⟨by omega, by omega⟩
      exact z_ret (by (simp (disch := first | decide | assumption | omega) only [startE, List.map_cons, List.map_nil, List.replicate, eVar, eC, PT.e1, PT.e2, aNil, aCons, eCall, tupR, lstR, eTup, eLst, eIte, eLenO, eIxO, cT, cAnd, cOr, cNot, andV, orV, notD, truR, truD, bindR, bindRB, bindRL, bindL, bindB, bindBB, bindLL, toD, okD, okI, okB, itA, itD, items_tup, items_lst, items_scr, len_tup, len_lst, len_scr, List.getElem?_cons_zero, List.getElem?_cons_succ, List.length_cons, List.length_nil, List.length_map, List.cons_append, List.nil_append, List.append_nil, Nat.zero_add, Nat.reduceAdd, Nat.reduceSub, Nat.reduceLeDiff, if_true, if_false, ite_true, ite_false, Bool.false_eq_true, reduceIte, Bool.not_true, Bool.not_false, Int.reducePow, Int.reduceToNat, Int.reduceMul, Int.reduceAdd, Int.reduceSub, addD, subD, negD, ltR, leR, gtR, geR, eqR_int, neR_int, eqR_bl, neR_bl, absR, max2R, min2R, intR, mulRi, divRi, powRi, modR, absI, len_fr, len_tb, isiT_fr, isiT_tb, isiI_int, isiB_int, isiB_bl, isiL_lst, isiT_tup, items_tb, items_fr, zip_tb, all4, addD_tup2, addD_lst2, eLc, lcL, cYes, wipeE, gN, gTup_tup, gTup_tb, gTup_fr, gLs_lst, gCons, gNil, tuple_lst, List.set_cons_zero, List.set_cons_succ, List.set_nil, ix_fr0, ix_fr1, ix_tb0, ix_tb1, ix_tb2, ix_tb3, eqR_fr, neR_fr, eqR_tb, neR_tb]; try rfl)) ⟨c * 2147483629 + z, ⟨by omega, B.of (by omega) (by omega)⟩, rfl⟩
  · intro K hK ht
    have hl : k < ns.length := by have := of_decide_eq_true ht; omega
    exact z_set (v := .int (ns.getD k 0 % 10 ^ 60)) (by (simp (disch := first | decide | assumption | omega) only [startE, List.map_cons, List.map_nil, List.replicate, eVar, eC, PT.e1, PT.e2, aNil, aCons, eCall, tupR, lstR, eTup, eLst, eIte, eLenO, eIxO, cT, cAnd, cOr, cNot, andV, orV, notD, truR, truD, bindR, bindRB, bindRL, bindL, bindB, bindBB, bindLL, toD, okD, okI, okB, itA, itD, items_tup, items_lst, items_scr, len_tup, len_lst, len_scr, List.getElem?_cons_zero, List.getElem?_cons_succ, List.length_cons, List.length_nil, List.length_map, List.cons_append, List.nil_append, List.append_nil, Nat.zero_add, Nat.reduceAdd, Nat.reduceSub, Nat.reduceLeDiff, if_true, if_false, ite_true, ite_false, Bool.false_eq_true, reduceIte, Bool.not_true, Bool.not_false, Int.reducePow, Int.reduceToNat, Int.reduceMul, Int.reduceAdd, Int.reduceSub, addD, subD, negD, ltR, leR, gtR, geR, eqR_int, neR_int, eqR_bl, neR_bl, absR, max2R, min2R, intR, mulRi, divRi, powRi, modR, absI, len_fr, len_tb, isiT_fr, isiT_tb, isiI_int, isiB_int, isiB_bl, isiL_lst, isiT_tup, items_tb, items_fr, zip_tb, all4, addD_tup2, addD_lst2, eLc, lcL, cYes, wipeE, gN, gTup_tup, gTup_tb, gTup_fr, gLs_lst, gCons, gNil, tuple_lst, List.set_cons_zero, List.set_cons_succ, List.set_nil, ix_fr0, ix_fr1, ix_tb0, ix_tb1, ix_tb2, ix_tb3, eqR_fr, neR_fr, eqR_tb, neR_tb, ix_nat (map_get hl)]; try rfl)) (hK _ ⟨_, by omega, by omega, rfl⟩)
  · exact fun K hK _ => hK _ ⟨0, by decide, by decide, rfl⟩
/-- the turns by twos -/
theorem by_twos {n : Nat} (hn : n ≤ 63) : ∃ m : Nat, m < 64 ∧ (if (if (60 : Int) < n then 60 else (n : Int)) > 6 then (if (60 : Int) < n then 60 else (n : Int)) else 6) = (m : Int) := by
  refine ⟨(if (if (60 : Int) < n then 60 else (n : Int)) > 6 then (if (60 : Int) < n then 60 else (n : Int)) else 6).toNat, ?_, ?_⟩ <;> (split <;> (try split) <;> omega)
theorem r3_2 : ∀ m : Nat, m < 64 → rng3 0 m 2 = true ∧ (PySem.Builtin.Range.rangeSize 0 m 2).toNat ≤ 32 := by decide +kernel
theorem r3_3 : ∀ m : Nat, m < 64 → rng3 0 m 3 = true ∧ (PySem.Builtin.Range.rangeSize 0 m 3).toNat ≤ 22 := by decide +kernel
end PT
/-! PM: the helpers of the laws about fractions and a prime. -/
namespace PT
open PySem (Str)
/-- _law_divisor(_law_one, _law_other): slots _law_one, _law_other, _law_rest -/
def w__law_divisor : SF := wSeq (wSet 0 (eCall absR (aCons (eVar 0) (aNil)))) (wSeq (wSet 1 (eCall absR (aCons (eVar 1) (aNil)))) (wSeq (wWhile (cT (e2 gtR (eVar 1) (eC (.int 0)))) (wSeq (wSet 2 (e2 modD (eVar 0) (eVar 1))) (wSeq (wSet 0 (eVar 1)) (wSet 1 (eVar 2))))) (wRet (eVar 0))))
instance : Det w__law_divisor := by unfold w__law_divisor; infer_instance
instance : Out w__law_divisor := by unfold w__law_divisor; infer_instance
noncomputable def f__law_divisor : List D → Option R := outF 2 3 w__law_divisor
theorem len__law_divisor : ∀ ds r, f__law_divisor ds = some r → ds.length = 2 := outF_len
theorem does__law_divisor : Does 3 w__law_divisor f__law_divisor := outF_does
/-- _law_power(_law_p, _law_number_here): slots _law_p, _law_number_here, _law_power_here -/
def w__law_power : SF := wSeq (wSet 2 (eC (.int 0))) (wSeq (wWhile (cT (e2 eqR (e2 modD (eVar 1) (eVar 0)) (eC (.int 0)))) (wSeq (wSet 1 (e2 fdivD (eVar 1) (eVar 0))) (wSet 2 (e2 addD (eVar 2) (eC (.int 1)))))) (wRet (eVar 2)))
instance : Det w__law_power := by unfold w__law_power; infer_instance
instance : Out w__law_power := by unfold w__law_power; infer_instance
noncomputable def f__law_power : List D → Option R := outF 2 3 w__law_power
theorem len__law_power : ∀ ds r, f__law_power ds = some r → ds.length = 2 := outF_len
theorem does__law_power : Does 3 w__law_power f__law_power := outF_does
/-- _law_lowest(_law_top, _law_bottom): slots _law_top, _law_bottom, _law_by -/
def w__law_lowest : SF := wSeq (wSet 2 (eCall f__law_divisor (aCons (eVar 0) (aCons (eVar 1) (aNil))))) (wSeq (wIf (cT (e2 ltR (eVar 1) (eC (.int 0)))) (wSet 2 (e1 negD (eVar 2))) (wNop)) (wRet (eTup (aCons (e2 fdivD (eVar 0) (eVar 2)) (aCons (e2 fdivD (eVar 1) (eVar 2)) (aNil))))))
instance : Det w__law_lowest := by unfold w__law_lowest; infer_instance
instance : Out w__law_lowest := by unfold w__law_lowest; infer_instance
noncomputable def f__law_lowest : List D → Option R := outF 2 3 w__law_lowest
theorem len__law_lowest : ∀ ds r, f__law_lowest ds = some r → ds.length = 2 := outF_len
theorem does__law_lowest : Does 3 w__law_lowest f__law_lowest := outF_does
/-- _law_is_fraction(_law_found): slots _law_found -/
def w__law_is_fraction : SF := wSeq (wIf (cOr (cNot (cT (eCall isiR (aCons (eVar 0) (aCons (eC (.raw (.ty "tuple"))) (aNil)))))) (cOr (cT (e2 neR (eCall lenR (aCons (eVar 0) (aNil))) (eC (.int 2)))) (cOr (cNot (cT (eCall f__law_whole (aCons (e2 ixR (eVar 0) (eC (.int 0))) (aNil))))) (cNot (cT (eCall f__law_whole (aCons (e2 ixR (eVar 0) (eC (.int 1))) (aNil)))))))) (wRet (eC (.bl false))) (wNop)) (wRet (andV (e2 gtR (e2 ixR (eVar 0) (eC (.int 1))) (eC (.int 0))) (e2 eqR (eCall f__law_divisor (aCons (e2 ixR (eVar 0) (eC (.int 0))) (aCons (e2 ixR (eVar 0) (eC (.int 1))) (aNil)))) (eC (.int 1)))))
instance : Det w__law_is_fraction := by unfold w__law_is_fraction; infer_instance
instance : Out w__law_is_fraction := by unfold w__law_is_fraction; infer_instance
noncomputable def f__law_is_fraction : List D → Option R := outF 1 1 w__law_is_fraction
theorem len__law_is_fraction : ∀ ds r, f__law_is_fraction ds = some r → ds.length = 1 := outF_len
theorem does__law_is_fraction : Does 1 w__law_is_fraction f__law_is_fraction := outF_does
/-- _law_power_in(_law_p, _law_a): slots _law_p, _law_a -/
def w__law_power_in : SF := wSeq (wIf (cT (e2 eqR (e2 ixR (eVar 1) (eC (.int 0))) (eC (.int 0)))) (wRet (eC .non)) (wNop)) (wRet (e2 subD (eCall f__law_power (aCons (eVar 0) (aCons (e2 ixR (eVar 1) (eC (.int 0))) (aNil)))) (eCall f__law_power (aCons (eVar 0) (aCons (e2 ixR (eVar 1) (eC (.int 1))) (aNil))))))
instance : Det w__law_power_in := by unfold w__law_power_in; infer_instance
instance : Out w__law_power_in := by unfold w__law_power_in; infer_instance
noncomputable def f__law_power_in : List D → Option R := outF 2 2 w__law_power_in
theorem len__law_power_in : ∀ ds r, f__law_power_in ds = some r → ds.length = 2 := outF_len
theorem does__law_power_in : Does 2 w__law_power_in f__law_power_in := outF_does
/-- _law_pp(_law_p, _law_k): slots _law_p, _law_k -/
def w__law_pp : SF := wSeq (wIf (cT (e2 ltR (eVar 1) (eC (.int 0)))) (wRet (eTup (aCons (eC (.int 1)) (aCons (eCall f__law_up (aCons (eVar 0) (aCons (e1 negD (eVar 1)) (aNil)))) (aNil))))) (wNop)) (wRet (eTup (aCons (eCall f__law_up (aCons (eVar 0) (aCons (eVar 1) (aNil)))) (aCons (eC (.int 1)) (aNil)))))
instance : Det w__law_pp := by unfold w__law_pp; infer_instance
instance : Out w__law_pp := by unfold w__law_pp; infer_instance
noncomputable def f__law_pp : List D → Option R := outF 2 2 w__law_pp
theorem len__law_pp : ∀ ds r, f__law_pp ds = some r → ds.length = 2 := outF_len
theorem does__law_pp : Does 2 w__law_pp f__law_pp := outF_does
/-- _law_number(_law_p, _law_number_here): slots _law_p, _law_number_here, _law_sort, _law_top, _law_power_here, _law_bottom -/
def w__law_number : SF := wSeq (wSet 2 (e2 modD (eVar 1) (eC (.int 4)))) (wSeq (wSet 1 (e2 fdivD (eVar 1) (eC (.int 4)))) (wSeq (wSet 3 (e2 subD (e2 modD (eVar 1) (eC (.int 41))) (eC (.int 20)))) (wSeq (wIf (cT (e2 eqR (eVar 2) (eC (.int 1)))) (wSet 3 (e2 subD (e2 modD (eVar 1) (e2 addD (e2 mulD (eC (.int 2)) (e2 powD (eC (.int 10)) (eC (.int 20)))) (eC (.int 1)))) (e2 powD (eC (.int 10)) (eC (.int 20))))) (wNop)) (wSeq (wSet 4 (e2 subD (e2 modD (e2 fdivD (eVar 1) (eC (.int 500))) (eC (.int 13))) (eC (.int 6)))) (wSeq (wIf (cT (e2 eqR (eVar 2) (eC (.int 3)))) (wSet 4 (e2 subD (e2 modD (e2 fdivD (eVar 1) (eC (.int 500))) (eC (.int 81))) (eC (.int 40)))) (wNop)) (wSeq (wSet 5 (e2 addD (eC (.int 1)) (e2 modD (e2 fdivD (eVar 1) (eC (.int 41))) (eC (.int 12))))) (wSeq (wIf (cT (e2 ltR (eVar 4) (eC (.int 0)))) (wRet (eCall f__law_lowest (aCons (eVar 3) (aCons (e2 mulD (eVar 5) (eCall f__law_up (aCons (eVar 0) (aCons (e1 negD (eVar 4)) (aNil))))) (aNil))))) (wNop)) (wRet (eCall f__law_lowest (aCons (e2 mulD (eVar 3) (eCall f__law_up (aCons (eVar 0) (aCons (eVar 4) (aNil))))) (aCons (eVar 5) (aNil))))))))))))
instance : Det w__law_number := by unfold w__law_number; infer_instance
instance : Out w__law_number := by unfold w__law_number; infer_instance
noncomputable def f__law_number : List D → Option R := outF 2 6 w__law_number
theorem len__law_number : ∀ ds r, f__law_number ds = some r → ds.length = 2 := outF_len
theorem does__law_number : Does 6 w__law_number f__law_number := outF_does
/-- _law_sum(_law_a, _law_b): slots _law_a, _law_b -/
def w__law_sum : SF := wRet (eCall f__law_lowest (aCons (e2 addD (e2 mulD (e2 ixR (eVar 0) (eC (.int 0))) (e2 ixR (eVar 1) (eC (.int 1)))) (e2 mulD (e2 ixR (eVar 1) (eC (.int 0))) (e2 ixR (eVar 0) (eC (.int 1))))) (aCons (e2 mulD (e2 ixR (eVar 0) (eC (.int 1))) (e2 ixR (eVar 1) (eC (.int 1)))) (aNil))))
instance : Det w__law_sum := by unfold w__law_sum; infer_instance
instance : Out w__law_sum := by unfold w__law_sum; infer_instance
noncomputable def f__law_sum : List D → Option R := outF 2 2 w__law_sum
theorem len__law_sum : ∀ ds r, f__law_sum ds = some r → ds.length = 2 := outF_len
theorem does__law_sum : Does 2 w__law_sum f__law_sum := outF_does
/-- _law_product(_law_a, _law_b): slots _law_a, _law_b -/
def w__law_product : SF := wRet (eCall f__law_lowest (aCons (e2 mulD (e2 ixR (eVar 0) (eC (.int 0))) (e2 ixR (eVar 1) (eC (.int 0)))) (aCons (e2 mulD (e2 ixR (eVar 0) (eC (.int 1))) (e2 ixR (eVar 1) (eC (.int 1)))) (aNil))))
instance : Det w__law_product := by unfold w__law_product; infer_instance
instance : Out w__law_product := by unfold w__law_product; infer_instance
noncomputable def f__law_product : List D → Option R := outF 2 2 w__law_product
theorem len__law_product : ∀ ds r, f__law_product ds = some r → ds.length = 2 := outF_len
theorem does__law_product : Does 2 w__law_product f__law_product := outF_does

theorem ev__law_divisor (a b : Int) : f__law_divisor [.int a, .int b] = okI (Int.gcd a b) := by
  refine outF_ev rfl ?_
  try simp only [List.set_cons_zero, List.set_cons_succ, startE, List.map_cons, List.map_nil, List.replicate, List.cons_append, List.nil_append, List.append_nil, List.length_cons, List.length_nil, Nat.zero_add, Nat.reduceAdd, Nat.reduceSub]
  refine q_set (by (simp (disch := first | decide | assumption | omega) only [startE, List.map_cons, List.map_nil, List.replicate, eVar, eC, PT.e1, PT.e2, aNil, aCons, eCall, tupR, lstR, eTup, eLst, eIte, eLenO, eIxO, cT, cAnd, cOr, cNot, andV, orV, notD, truR, truD, bindR, bindRB, bindRL, bindL, bindB, bindBB, bindLL, toD, okD, okI, okB, itA, itD, items_tup, items_lst, items_scr, len_tup, len_lst, len_scr, List.getElem?_cons_zero, List.getElem?_cons_succ, List.length_cons, List.length_nil, List.length_map, List.cons_append, List.nil_append, List.append_nil, Nat.zero_add, Nat.reduceAdd, Nat.reduceSub, Nat.reduceLeDiff, if_true, if_false, ite_true, ite_false, Bool.false_eq_true, reduceIte, Bool.not_true, Bool.not_false, Int.reducePow, Int.reduceToNat, Int.reduceMul, Int.reduceAdd, Int.reduceSub, addD, subD, negD, ltR, leR, gtR, geR, eqR_int, neR_int, eqR_bl, neR_bl, absR, max2R, min2R, intR, mulRi, divRi, powRi, modR, absI, len_fr, len_tb, isiT_fr, isiT_tb, isiI_int, isiB_int, isiB_bl, isiL_lst, isiT_tup, items_tb, items_fr, zip_tb, all4, addD_tup2, addD_lst2, eLc, lcL, cYes, wipeE, gN, gTup_tup, gTup_tb, gTup_fr, gLs_lst, gCons, gNil, tuple_lst, List.set_cons_zero, List.set_cons_succ, List.set_nil, ix_fr0, ix_fr1, ix_tb0, ix_tb1, ix_tb2, ix_tb3, eqR_fr, neR_fr, eqR_tb, neR_tb]; try rfl)) ?_
  try simp only [List.set_cons_zero, List.set_cons_succ, startE, List.map_cons, List.map_nil, List.replicate, List.cons_append, List.nil_append, List.append_nil, List.length_cons, List.length_nil, Nat.zero_add, Nat.reduceAdd, Nat.reduceSub]
  refine q_set (by (simp (disch := first | decide | assumption | omega) only [startE, List.map_cons, List.map_nil, List.replicate, eVar, eC, PT.e1, PT.e2, aNil, aCons, eCall, tupR, lstR, eTup, eLst, eIte, eLenO, eIxO, cT, cAnd, cOr, cNot, andV, orV, notD, truR, truD, bindR, bindRB, bindRL, bindL, bindB, bindBB, bindLL, toD, okD, okI, okB, itA, itD, items_tup, items_lst, items_scr, len_tup, len_lst, len_scr, List.getElem?_cons_zero, List.getElem?_cons_succ, List.length_cons, List.length_nil, List.length_map, List.cons_append, List.nil_append, List.append_nil, Nat.zero_add, Nat.reduceAdd, Nat.reduceSub, Nat.reduceLeDiff, if_true, if_false, ite_true, ite_false, Bool.false_eq_true, reduceIte, Bool.not_true, Bool.not_false, Int.reducePow, Int.reduceToNat, Int.reduceMul, Int.reduceAdd, Int.reduceSub, addD, subD, negD, ltR, leR, gtR, geR, eqR_int, neR_int, eqR_bl, neR_bl, absR, max2R, min2R, intR, mulRi, divRi, powRi, modR, absI, len_fr, len_tb, isiT_fr, isiT_tb, isiI_int, isiB_int, isiB_bl, isiL_lst, isiT_tup, items_tb, items_fr, zip_tb, all4, addD_tup2, addD_lst2, eLc, lcL, cYes, wipeE, gN, gTup_tup, gTup_tb, gTup_fr, gLs_lst, gCons, gNil, tuple_lst, List.set_cons_zero, List.set_cons_succ, List.set_nil, ix_fr0, ix_fr1, ix_tb0, ix_tb1, ix_tb2, ix_tb3, eqR_fr, neR_fr, eqR_tb, neR_tb]; try rfl)) ?_
  try simp only [List.set_cons_zero, List.set_cons_succ, startE, List.map_cons, List.map_nil, List.replicate, List.cons_append, List.nil_append, List.append_nil, List.length_cons, List.length_nil, Nat.zero_add, Nat.reduceAdd, Nat.reduceSub]
  have loop : ∀ (P : PD) (n a b : Nat) (z : Option SV), b < n → (∀ z, P.nx [some (.d (.int (Nat.gcd a b : Nat))), some (.d (.int 0)), z]) →
    wWhileN (cT (e2 gtR (eVar 1) (eC (.int 0)))) (wSeq (wSet 2 (e2 modD (eVar 0) (eVar 1))) (wSeq (wSet 0 (eVar 1)) (wSet 1 (eVar 2)))) P n [some (.d (.int a)), some (.d (.int b)), z] := by
    intro P n
    induction n with
    | zero => intro a b z h; omega
    | succ n ih =>
      intro a b z h hp
      by_cases hb : b = 0
      · subst hb
        have e : decide ((0 : Int) < ((0 : Nat) : Int)) = false := by decide
        exact while_end (by (simp (disch := first | decide | assumption | omega) only [startE, List.map_cons, List.map_nil, List.replicate, eVar, eC, PT.e1, PT.e2, aNil, aCons, eCall, tupR, lstR, eTup, eLst, eIte, eLenO, eIxO, cT, cAnd, cOr, cNot, andV, orV, notD, truR, truD, bindR, bindRB, bindRL, bindL, bindB, bindBB, bindLL, toD, okD, okI, okB, itA, itD, items_tup, items_lst, items_scr, len_tup, len_lst, len_scr, List.getElem?_cons_zero, List.getElem?_cons_succ, List.length_cons, List.length_nil, List.length_map, List.cons_append, List.nil_append, List.append_nil, Nat.zero_add, Nat.reduceAdd, Nat.reduceSub, Nat.reduceLeDiff, if_true, if_false, ite_true, ite_false, Bool.false_eq_true, reduceIte, Bool.not_true, Bool.not_false, Int.reducePow, Int.reduceToNat, Int.reduceMul, Int.reduceAdd, Int.reduceSub, addD, subD, negD, ltR, leR, gtR, geR, eqR_int, neR_int, eqR_bl, neR_bl, absR, max2R, min2R, intR, mulRi, divRi, powRi, modR, absI, len_fr, len_tb, isiT_fr, isiT_tb, isiI_int, isiB_int, isiB_bl, isiL_lst, isiT_tup, items_tb, items_fr, zip_tb, all4, addD_tup2, addD_lst2, eLc, lcL, cYes, wipeE, gN, gTup_tup, gTup_tb, gTup_fr, gLs_lst, gCons, gNil, tuple_lst, List.set_cons_zero, List.set_cons_succ, List.set_nil, ix_fr0, ix_fr1, ix_tb0, ix_tb1, ix_tb2, ix_tb3, eqR_fr, neR_fr, eqR_tb, neR_tb, e]; try rfl)) (by simpa using hp z)
      · have e : decide ((0 : Int) < (b : Int)) = true := decide_eq_true (by omega)
        refine while_go (by (simp (disch := first | decide | assumption | omega) only [startE, List.map_cons, List.map_nil, List.replicate, eVar, eC, PT.e1, PT.e2, aNil, aCons, eCall, tupR, lstR, eTup, eLst, eIte, eLenO, eIxO, cT, cAnd, cOr, cNot, andV, orV, notD, truR, truD, bindR, bindRB, bindRL, bindL, bindB, bindBB, bindLL, toD, okD, okI, okB, itA, itD, items_tup, items_lst, items_scr, len_tup, len_lst, len_scr, List.getElem?_cons_zero, List.getElem?_cons_succ, List.length_cons, List.length_nil, List.length_map, List.cons_append, List.nil_append, List.append_nil, Nat.zero_add, Nat.reduceAdd, Nat.reduceSub, Nat.reduceLeDiff, if_true, if_false, ite_true, ite_false, Bool.false_eq_true, reduceIte, Bool.not_true, Bool.not_false, Int.reducePow, Int.reduceToNat, Int.reduceMul, Int.reduceAdd, Int.reduceSub, addD, subD, negD, ltR, leR, gtR, geR, eqR_int, neR_int, eqR_bl, neR_bl, absR, max2R, min2R, intR, mulRi, divRi, powRi, modR, absI, len_fr, len_tb, isiT_fr, isiT_tb, isiI_int, isiB_int, isiB_bl, isiL_lst, isiT_tup, items_tb, items_fr, zip_tb, all4, addD_tup2, addD_lst2, eLc, lcL, cYes, wipeE, gN, gTup_tup, gTup_tb, gTup_fr, gLs_lst, gCons, gNil, tuple_lst, List.set_cons_zero, List.set_cons_succ, List.set_nil, ix_fr0, ix_fr1, ix_tb0, ix_tb1, ix_tb2, ix_tb3, eqR_fr, neR_fr, eqR_tb, neR_tb, e]; try rfl)) (q_set (by (simp (disch := first | decide | assumption | omega) only [startE, List.map_cons, List.map_nil, List.replicate, eVar, eC, PT.e1, PT.e2, aNil, aCons, eCall, tupR, lstR, eTup, eLst, eIte, eLenO, eIxO, cT, cAnd, cOr, cNot, andV, orV, notD, truR, truD, bindR, bindRB, bindRL, bindL, bindB, bindBB, bindLL, toD, okD, okI, okB, itA, itD, items_tup, items_lst, items_scr, len_tup, len_lst, len_scr, List.getElem?_cons_zero, List.getElem?_cons_succ, List.length_cons, List.length_nil, List.length_map, List.cons_append, List.nil_append, List.append_nil, Nat.zero_add, Nat.reduceAdd, Nat.reduceSub, Nat.reduceLeDiff, if_true, if_false, ite_true, ite_false, Bool.false_eq_true, reduceIte, Bool.not_true, Bool.not_false, Int.reducePow, Int.reduceToNat, Int.reduceMul, Int.reduceAdd, Int.reduceSub, addD, subD, negD, ltR, leR, gtR, geR, eqR_int, neR_int, eqR_bl, neR_bl, absR, max2R, min2R, intR, mulRi, divRi, powRi, modR, absI, len_fr, len_tb, isiT_fr, isiT_tb, isiI_int, isiB_int, isiB_bl, isiL_lst, isiT_tup, items_tb, items_fr, zip_tb, all4, addD_tup2, addD_lst2, eLc, lcL, cYes, wipeE, gN, gTup_tup, gTup_tb, gTup_fr, gLs_lst, gCons, gNil, tuple_lst, List.set_cons_zero, List.set_cons_succ, List.set_nil, ix_fr0, ix_fr1, ix_tb0, ix_tb1, ix_tb2, ix_tb3, eqR_fr, neR_fr, eqR_tb, neR_tb]; try rfl)) ?_)
        try simp only [List.set_cons_zero, List.set_cons_succ, startE, List.map_cons, List.map_nil, List.replicate, List.cons_append, List.nil_append, List.append_nil, List.length_cons, List.length_nil, Nat.zero_add, Nat.reduceAdd, Nat.reduceSub]
        refine q_set (by (simp (disch := first | decide | assumption | omega) only [startE, List.map_cons, List.map_nil, List.replicate, eVar, eC, PT.e1, PT.e2, aNil, aCons, eCall, tupR, lstR, eTup, eLst, eIte, eLenO, eIxO, cT, cAnd, cOr, cNot, andV, orV, notD, truR, truD, bindR, bindRB, bindRL, bindL, bindB, bindBB, bindLL, toD, okD, okI, okB, itA, itD, items_tup, items_lst, items_scr, len_tup, len_lst, len_scr, List.getElem?_cons_zero, List.getElem?_cons_succ, List.length_cons, List.length_nil, List.length_map, List.cons_append, List.nil_append, List.append_nil, Nat.zero_add, Nat.reduceAdd, Nat.reduceSub, Nat.reduceLeDiff, if_true, if_false, ite_true, ite_false, Bool.false_eq_true, reduceIte, Bool.not_true, Bool.not_false, Int.reducePow, Int.reduceToNat, Int.reduceMul, Int.reduceAdd, Int.reduceSub, addD, subD, negD, ltR, leR, gtR, geR, eqR_int, neR_int, eqR_bl, neR_bl, absR, max2R, min2R, intR, mulRi, divRi, powRi, modR, absI, len_fr, len_tb, isiT_fr, isiT_tb, isiI_int, isiB_int, isiB_bl, isiL_lst, isiT_tup, items_tb, items_fr, zip_tb, all4, addD_tup2, addD_lst2, eLc, lcL, cYes, wipeE, gN, gTup_tup, gTup_tb, gTup_fr, gLs_lst, gCons, gNil, tuple_lst, List.set_cons_zero, List.set_cons_succ, List.set_nil, ix_fr0, ix_fr1, ix_tb0, ix_tb1, ix_tb2, ix_tb3, eqR_fr, neR_fr, eqR_tb, neR_tb]; try rfl)) ?_
        try simp only [List.set_cons_zero, List.set_cons_succ, startE, List.map_cons, List.map_nil, List.replicate, List.cons_append, List.nil_append, List.append_nil, List.length_cons, List.length_nil, Nat.zero_add, Nat.reduceAdd, Nat.reduceSub]
        refine z_set (by (simp (disch := first | decide | assumption | omega) only [startE, List.map_cons, List.map_nil, List.replicate, eVar, eC, PT.e1, PT.e2, aNil, aCons, eCall, tupR, lstR, eTup, eLst, eIte, eLenO, eIxO, cT, cAnd, cOr, cNot, andV, orV, notD, truR, truD, bindR, bindRB, bindRL, bindL, bindB, bindBB, bindLL, toD, okD, okI, okB, itA, itD, items_tup, items_lst, items_scr, len_tup, len_lst, len_scr, List.getElem?_cons_zero, List.getElem?_cons_succ, List.length_cons, List.length_nil, List.length_map, List.cons_append, List.nil_append, List.append_nil, Nat.zero_add, Nat.reduceAdd, Nat.reduceSub, Nat.reduceLeDiff, if_true, if_false, ite_true, ite_false, Bool.false_eq_true, reduceIte, Bool.not_true, Bool.not_false, Int.reducePow, Int.reduceToNat, Int.reduceMul, Int.reduceAdd, Int.reduceSub, addD, subD, negD, ltR, leR, gtR, geR, eqR_int, neR_int, eqR_bl, neR_bl, absR, max2R, min2R, intR, mulRi, divRi, powRi, modR, absI, len_fr, len_tb, isiT_fr, isiT_tb, isiI_int, isiB_int, isiB_bl, isiL_lst, isiT_tup, items_tb, items_fr, zip_tb, all4, addD_tup2, addD_lst2, eLc, lcL, cYes, wipeE, gN, gTup_tup, gTup_tb, gTup_fr, gLs_lst, gCons, gNil, tuple_lst, List.set_cons_zero, List.set_cons_succ, List.set_nil, ix_fr0, ix_fr1, ix_tb0, ix_tb1, ix_tb2, ix_tb3, eqR_fr, neR_fr, eqR_tb, neR_tb]; try rfl)) ?_
        try simp only [List.set_cons_zero, List.set_cons_succ, startE, List.map_cons, List.map_nil, List.replicate, List.cons_append, List.nil_append, List.append_nil, List.length_cons, List.length_nil, Nat.zero_add, Nat.reduceAdd, Nat.reduceSub]
        have := ih b (a % b) (some (.d (.int ((a % b : Nat) : Int)))) (by have := Nat.mod_lt a (Nat.pos_of_ne_zero hb); omega) (by rw [gcd_step a b hb]; exact hp)
        simpa using this
  refine q_while ⟨b.natAbs + 1, loop _ _ _ _ _ (Nat.lt_succ_self _) fun z => ?_⟩
  try simp only [List.set_cons_zero, List.set_cons_succ, startE, List.map_cons, List.map_nil, List.replicate, List.cons_append, List.nil_append, List.append_nil, List.length_cons, List.length_nil, Nat.zero_add, Nat.reduceAdd, Nat.reduceSub]
  exact z_ret (by (simp (disch := first | decide | assumption | omega) only [startE, List.map_cons, List.map_nil, List.replicate, eVar, eC, PT.e1, PT.e2, aNil, aCons, eCall, tupR, lstR, eTup, eLst, eIte, eLenO, eIxO, cT, cAnd, cOr, cNot, andV, orV, notD, truR, truD, bindR, bindRB, bindRL, bindL, bindB, bindBB, bindLL, toD, okD, okI, okB, itA, itD, items_tup, items_lst, items_scr, len_tup, len_lst, len_scr, List.getElem?_cons_zero, List.getElem?_cons_succ, List.length_cons, List.length_nil, List.length_map, List.cons_append, List.nil_append, List.append_nil, Nat.zero_add, Nat.reduceAdd, Nat.reduceSub, Nat.reduceLeDiff, if_true, if_false, ite_true, ite_false, Bool.false_eq_true, reduceIte, Bool.not_true, Bool.not_false, Int.reducePow, Int.reduceToNat, Int.reduceMul, Int.reduceAdd, Int.reduceSub, addD, subD, negD, ltR, leR, gtR, geR, eqR_int, neR_int, eqR_bl, neR_bl, absR, max2R, min2R, intR, mulRi, divRi, powRi, modR, absI, len_fr, len_tb, isiT_fr, isiT_tb, isiI_int, isiB_int, isiB_bl, isiL_lst, isiT_tup, items_tb, items_fr, zip_tb, all4, addD_tup2, addD_lst2, eLc, lcL, cYes, wipeE, gN, gTup_tup, gTup_tb, gTup_fr, gLs_lst, gCons, gNil, tuple_lst, List.set_cons_zero, List.set_cons_succ, List.set_nil, ix_fr0, ix_fr1, ix_tb0, ix_tb1, ix_tb2, ix_tb3, eqR_fr, neR_fr, eqR_tb, neR_tb]; try rfl)) rfl
theorem ev__law_lowest {t b : Int} {n : Nat} (hb : B n b) (h0 : b ≠ 0) (l : n < 9000) : f__law_lowest [.int t, .int b] = okD (fr (Rat.divInt t b)) := by
  refine outF_ev rfl ?_
  try simp only [List.set_cons_zero, List.set_cons_succ, startE, List.map_cons, List.map_nil, List.replicate, List.cons_append, List.nil_append, List.append_nil, List.length_cons, List.length_nil, Nat.zero_add, Nat.reduceAdd, Nat.reduceSub]
  refine q_set (v := .int (Int.gcd t b)) (by (simp (disch := first | decide | assumption | omega) only [startE, List.map_cons, List.map_nil, List.replicate, eVar, eC, PT.e1, PT.e2, aNil, aCons, eCall, tupR, lstR, eTup, eLst, eIte, eLenO, eIxO, cT, cAnd, cOr, cNot, andV, orV, notD, truR, truD, bindR, bindRB, bindRL, bindL, bindB, bindBB, bindLL, toD, okD, okI, okB, itA, itD, items_tup, items_lst, items_scr, len_tup, len_lst, len_scr, List.getElem?_cons_zero, List.getElem?_cons_succ, List.length_cons, List.length_nil, List.length_map, List.cons_append, List.nil_append, List.append_nil, Nat.zero_add, Nat.reduceAdd, Nat.reduceSub, Nat.reduceLeDiff, if_true, if_false, ite_true, ite_false, Bool.false_eq_true, reduceIte, Bool.not_true, Bool.not_false, Int.reducePow, Int.reduceToNat, Int.reduceMul, Int.reduceAdd, Int.reduceSub, addD, subD, negD, ltR, leR, gtR, geR, eqR_int, neR_int, eqR_bl, neR_bl, absR, max2R, min2R, intR, mulRi, divRi, powRi, modR, absI, len_fr, len_tb, isiT_fr, isiT_tb, isiI_int, isiB_int, isiB_bl, isiL_lst, isiT_tup, items_tb, items_fr, zip_tb, all4, addD_tup2, addD_lst2, eLc, lcL, cYes, wipeE, gN, gTup_tup, gTup_tb, gTup_fr, gLs_lst, gCons, gNil, tuple_lst, List.set_cons_zero, List.set_cons_succ, List.set_nil, ix_fr0, ix_fr1, ix_tb0, ix_tb1, ix_tb2, ix_tb3, eqR_fr, neR_fr, eqR_tb, neR_tb, ev__law_divisor]; try rfl)) ?_
  try simp only [List.set_cons_zero, List.set_cons_succ, startE, List.map_cons, List.map_nil, List.replicate, List.cons_append, List.nil_append, List.append_nil, List.length_cons, List.length_nil, Nat.zero_add, Nat.reduceAdd, Nat.reduceSub]
  have hg : B n (if b < 0 then -(Int.gcd t b : Int) else (Int.gcd t b : Int)) := by
    split
    · exact (gcd_bd hb h0).neg
    · exact gcd_bd hb h0
  have h1 : (if b < 0 then -(Int.gcd t b : Int) else (Int.gcd t b : Int)) ≠ 0 := by
    have := gcd_ne (t := t) h0
    split <;> omega
  refine q_ifset (t := decide (b < 0)) (x := -(Int.gcd t b : Int)) (y := Int.gcd t b) (by (simp (disch := first | decide | assumption | omega) only [startE, List.map_cons, List.map_nil, List.replicate, eVar, eC, PT.e1, PT.e2, aNil, aCons, eCall, tupR, lstR, eTup, eLst, eIte, eLenO, eIxO, cT, cAnd, cOr, cNot, andV, orV, notD, truR, truD, bindR, bindRB, bindRL, bindL, bindB, bindBB, bindLL, toD, okD, okI, okB, itA, itD, items_tup, items_lst, items_scr, len_tup, len_lst, len_scr, List.getElem?_cons_zero, List.getElem?_cons_succ, List.length_cons, List.length_nil, List.length_map, List.cons_append, List.nil_append, List.append_nil, Nat.zero_add, Nat.reduceAdd, Nat.reduceSub, Nat.reduceLeDiff, if_true, if_false, ite_true, ite_false, Bool.false_eq_true, reduceIte, Bool.not_true, Bool.not_false, Int.reducePow, Int.reduceToNat, Int.reduceMul, Int.reduceAdd, Int.reduceSub, addD, subD, negD, ltR, leR, gtR, geR, eqR_int, neR_int, eqR_bl, neR_bl, absR, max2R, min2R, intR, mulRi, divRi, powRi, modR, absI, len_fr, len_tb, isiT_fr, isiT_tb, isiI_int, isiB_int, isiB_bl, isiL_lst, isiT_tup, items_tb, items_fr, zip_tb, all4, addD_tup2, addD_lst2, eLc, lcL, cYes, wipeE, gN, gTup_tup, gTup_tb, gTup_fr, gLs_lst, gCons, gNil, tuple_lst, List.set_cons_zero, List.set_cons_succ, List.set_nil, ix_fr0, ix_fr1, ix_tb0, ix_tb1, ix_tb2, ix_tb3, eqR_fr, neR_fr, eqR_tb, neR_tb]; try rfl)) rfl (fun _ => by (simp (disch := first | decide | assumption | omega) only [startE, List.map_cons, List.map_nil, List.replicate, eVar, eC, PT.e1, PT.e2, aNil, aCons, eCall, tupR, lstR, eTup, eLst, eIte, eLenO, eIxO, cT, cAnd, cOr, cNot, andV, orV, notD, truR, truD, bindR, bindRB, bindRL, bindL, bindB, bindBB, bindLL, toD, okD, okI, okB, itA, itD, items_tup, items_lst, items_scr, len_tup, len_lst, len_scr, List.getElem?_cons_zero, List.getElem?_cons_succ, List.length_cons, List.length_nil, List.length_map, List.cons_append, List.nil_append, List.append_nil, Nat.zero_add, Nat.reduceAdd, Nat.reduceSub, Nat.reduceLeDiff, if_true, if_false, ite_true, ite_false, Bool.false_eq_true, reduceIte, Bool.not_true, Bool.not_false, Int.reducePow, Int.reduceToNat, Int.reduceMul, Int.reduceAdd, Int.reduceSub, addD, subD, negD, ltR, leR, gtR, geR, eqR_int, neR_int, eqR_bl, neR_bl, absR, max2R, min2R, intR, mulRi, divRi, powRi, modR, absI, len_fr, len_tb, isiT_fr, isiT_tb, isiI_int, isiB_int, isiB_bl, isiL_lst, isiT_tup, items_tb, items_fr, zip_tb, all4, addD_tup2, addD_lst2, eLc, lcL, cYes, wipeE, gN, gTup_tup, gTup_tb, gTup_fr, gLs_lst, gCons, gNil, tuple_lst, List.set_cons_zero, List.set_cons_succ, List.set_nil, ix_fr0, ix_fr1, ix_tb0, ix_tb1, ix_tb2, ix_tb3, eqR_fr, neR_fr, eqR_tb, neR_tb]; try rfl)) ?_
  try simp only [List.set_cons_zero, List.set_cons_succ, startE, List.map_cons, List.map_nil, List.replicate, List.cons_append, List.nil_append, List.append_nil, List.length_cons, List.length_nil, Nat.zero_add, Nat.reduceAdd, Nat.reduceSub]
  simp only [decide_eq_true_eq]
  refine z_ret (sv := .d (fr (Rat.divInt t b))) ?_ rfl
  (simp (disch := first | decide | assumption | omega) only [startE, List.map_cons, List.map_nil, List.replicate, eVar, eC, PT.e1, PT.e2, aNil, aCons, eCall, tupR, lstR, eTup, eLst, eIte, eLenO, eIxO, cT, cAnd, cOr, cNot, andV, orV, notD, truR, truD, bindR, bindRB, bindRL, bindL, bindB, bindBB, bindLL, toD, okD, okI, okB, itA, itD, items_tup, items_lst, items_scr, len_tup, len_lst, len_scr, List.getElem?_cons_zero, List.getElem?_cons_succ, List.length_cons, List.length_nil, List.length_map, List.cons_append, List.nil_append, List.append_nil, Nat.zero_add, Nat.reduceAdd, Nat.reduceSub, Nat.reduceLeDiff, if_true, if_false, ite_true, ite_false, Bool.false_eq_true, reduceIte, Bool.not_true, Bool.not_false, Int.reducePow, Int.reduceToNat, Int.reduceMul, Int.reduceAdd, Int.reduceSub, addD, subD, negD, ltR, leR, gtR, geR, eqR_int, neR_int, eqR_bl, neR_bl, absR, max2R, min2R, intR, mulRi, divRi, powRi, modR, absI, len_fr, len_tb, isiT_fr, isiT_tb, isiI_int, isiB_int, isiB_bl, isiL_lst, isiT_tup, items_tb, items_fr, zip_tb, all4, addD_tup2, addD_lst2, eLc, lcL, cYes, wipeE, gN, gTup_tup, gTup_tb, gTup_fr, gLs_lst, gCons, gNil, tuple_lst, List.set_cons_zero, List.set_cons_succ, List.set_nil, ix_fr0, ix_fr1, ix_tb0, ix_tb1, ix_tb2, ix_tb3, eqR_fr, neR_fr, eqR_tb, neR_tb, fdivR h1 hg l, fr_low h0]; try rfl)
theorem ev__law_lowest' {t b : Int} {n : Nat} [h : Bd b n] (h0 : b ≠ 0) (l : n < 9000) : f__law_lowest [.int t, .int b] = okD (fr (Rat.divInt t b)) := ev__law_lowest h.b h0 l
theorem ev__law_is_fraction (q : Rat) : f__law_is_fraction [fr q] = okB true := by
  refine outF_ev rfl ?_
  have e22 : ((2 : Int) == 2) = true := rfl
  have e0 : decide ((0 : Int) < (q.den : Int)) = true := decide_eq_true (den_pos q)
  have e1 : ((Int.gcd q.num q.den : Int) == 1) = true := by
    have : Int.gcd q.num q.den = 1 := q.reduced
    rw [this]; rfl
  try simp only [List.set_cons_zero, List.set_cons_succ, startE, List.map_cons, List.map_nil, List.replicate, List.cons_append, List.nil_append, List.append_nil, List.length_cons, List.length_nil, Nat.zero_add, Nat.reduceAdd, Nat.reduceSub]
  refine q_ifN (t := false) (by (simp (disch := first | decide | assumption | omega) only [startE, List.map_cons, List.map_nil, List.replicate, eVar, eC, PT.e1, PT.e2, aNil, aCons, eCall, tupR, lstR, eTup, eLst, eIte, eLenO, eIxO, cT, cAnd, cOr, cNot, andV, orV, notD, truR, truD, bindR, bindRB, bindRL, bindL, bindB, bindBB, bindLL, toD, okD, okI, okB, itA, itD, items_tup, items_lst, items_scr, len_tup, len_lst, len_scr, List.getElem?_cons_zero, List.getElem?_cons_succ, List.length_cons, List.length_nil, List.length_map, List.cons_append, List.nil_append, List.append_nil, Nat.zero_add, Nat.reduceAdd, Nat.reduceSub, Nat.reduceLeDiff, if_true, if_false, ite_true, ite_false, Bool.false_eq_true, reduceIte, Bool.not_true, Bool.not_false, Int.reducePow, Int.reduceToNat, Int.reduceMul, Int.reduceAdd, Int.reduceSub, addD, subD, negD, ltR, leR, gtR, geR, eqR_int, neR_int, eqR_bl, neR_bl, absR, max2R, min2R, intR, mulRi, divRi, powRi, modR, absI, len_fr, len_tb, isiT_fr, isiT_tb, isiI_int, isiB_int, isiB_bl, isiL_lst, isiT_tup, items_tb, items_fr, zip_tb, all4, addD_tup2, addD_lst2, eLc, lcL, cYes, wipeE, gN, gTup_tup, gTup_tb, gTup_fr, gLs_lst, gCons, gNil, tuple_lst, List.set_cons_zero, List.set_cons_succ, List.set_nil, ix_fr0, ix_fr1, ix_tb0, ix_tb1, ix_tb2, ix_tb3, eqR_fr, neR_fr, eqR_tb, neR_tb, e22, ev__law_whole]; try rfl)) (fun z => by cases z) fun _ => ?_
  exact z_ret (by (simp (disch := first | decide | assumption | omega) only [startE, List.map_cons, List.map_nil, List.replicate, eVar, eC, PT.e1, PT.e2, aNil, aCons, eCall, tupR, lstR, eTup, eLst, eIte, eLenO, eIxO, cT, cAnd, cOr, cNot, andV, orV, notD, truR, truD, bindR, bindRB, bindRL, bindL, bindB, bindBB, bindLL, toD, okD, okI, okB, itA, itD, items_tup, items_lst, items_scr, len_tup, len_lst, len_scr, List.getElem?_cons_zero, List.getElem?_cons_succ, List.length_cons, List.length_nil, List.length_map, List.cons_append, List.nil_append, List.append_nil, Nat.zero_add, Nat.reduceAdd, Nat.reduceSub, Nat.reduceLeDiff, if_true, if_false, ite_true, ite_false, Bool.false_eq_true, reduceIte, Bool.not_true, Bool.not_false, Int.reducePow, Int.reduceToNat, Int.reduceMul, Int.reduceAdd, Int.reduceSub, addD, subD, negD, ltR, leR, gtR, geR, eqR_int, neR_int, eqR_bl, neR_bl, absR, max2R, min2R, intR, mulRi, divRi, powRi, modR, absI, len_fr, len_tb, isiT_fr, isiT_tb, isiI_int, isiB_int, isiB_bl, isiL_lst, isiT_tup, items_tb, items_fr, zip_tb, all4, addD_tup2, addD_lst2, eLc, lcL, cYes, wipeE, gN, gTup_tup, gTup_tb, gTup_fr, gLs_lst, gCons, gNil, tuple_lst, List.set_cons_zero, List.set_cons_succ, List.set_nil, ix_fr0, ix_fr1, ix_tb0, ix_tb1, ix_tb2, ix_tb3, eqR_fr, neR_fr, eqR_tb, neR_tb, e0, ev__law_divisor, e1]; try rfl)) rfl
theorem ev__law_sum {q r : Rat} {m n : Nat} [Qd q m] [Qd r n] (l : m + n < 9000) : f__law_sum [fr q, fr r] = okD (fr (q + r)) := by
  have h0 : (q.den : Int) * r.den ≠ 0 := Int.mul_ne_zero (den_ne q) (den_ne r)
  refine outF_ev rfl (z_ret (sv := .d (fr (q + r))) ?_ rfl)
  have l1 : m + n < 1000000 := by omega
  have l2 : n + m < 1000000 := by omega
  (simp (disch := first | decide | assumption | omega) only [startE, List.map_cons, List.map_nil, List.replicate, eVar, eC, PT.e1, PT.e2, aNil, aCons, eCall, tupR, lstR, eTup, eLst, eIte, eLenO, eIxO, cT, cAnd, cOr, cNot, andV, orV, notD, truR, truD, bindR, bindRB, bindRL, bindL, bindB, bindBB, bindLL, toD, okD, okI, okB, itA, itD, items_tup, items_lst, items_scr, len_tup, len_lst, len_scr, List.getElem?_cons_zero, List.getElem?_cons_succ, List.length_cons, List.length_nil, List.length_map, List.cons_append, List.nil_append, List.append_nil, Nat.zero_add, Nat.reduceAdd, Nat.reduceSub, Nat.reduceLeDiff, if_true, if_false, ite_true, ite_false, Bool.false_eq_true, reduceIte, Bool.not_true, Bool.not_false, Int.reducePow, Int.reduceToNat, Int.reduceMul, Int.reduceAdd, Int.reduceSub, addD, subD, negD, ltR, leR, gtR, geR, eqR_int, neR_int, eqR_bl, neR_bl, absR, max2R, min2R, intR, mulRi, divRi, powRi, modR, absI, len_fr, len_tb, isiT_fr, isiT_tb, isiI_int, isiB_int, isiB_bl, isiL_lst, isiT_tup, items_tb, items_fr, zip_tb, all4, addD_tup2, addD_lst2, eLc, lcL, cYes, wipeE, gN, gTup_tup, gTup_tb, gTup_fr, gLs_lst, gCons, gNil, tuple_lst, List.set_cons_zero, List.set_cons_succ, List.set_nil, ix_fr0, ix_fr1, ix_tb0, ix_tb1, ix_tb2, ix_tb3, eqR_fr, neR_fr, eqR_tb, neR_tb, ev__law_lowest' h0 l, add_low]; try rfl)
theorem ev__law_product {q r : Rat} {m n : Nat} [Qd q m] [Qd r n] (l : m + n < 9000) : f__law_product [fr q, fr r] = okD (fr (q * r)) := by
  have h0 : (q.den : Int) * r.den ≠ 0 := Int.mul_ne_zero (den_ne q) (den_ne r)
  refine outF_ev rfl (z_ret (sv := .d (fr (q * r))) ?_ rfl)
  have l1 : m + n < 1000000 := by omega
  (simp (disch := first | decide | assumption | omega) only [startE, List.map_cons, List.map_nil, List.replicate, eVar, eC, PT.e1, PT.e2, aNil, aCons, eCall, tupR, lstR, eTup, eLst, eIte, eLenO, eIxO, cT, cAnd, cOr, cNot, andV, orV, notD, truR, truD, bindR, bindRB, bindRL, bindL, bindB, bindBB, bindLL, toD, okD, okI, okB, itA, itD, items_tup, items_lst, items_scr, len_tup, len_lst, len_scr, List.getElem?_cons_zero, List.getElem?_cons_succ, List.length_cons, List.length_nil, List.length_map, List.cons_append, List.nil_append, List.append_nil, Nat.zero_add, Nat.reduceAdd, Nat.reduceSub, Nat.reduceLeDiff, if_true, if_false, ite_true, ite_false, Bool.false_eq_true, reduceIte, Bool.not_true, Bool.not_false, Int.reducePow, Int.reduceToNat, Int.reduceMul, Int.reduceAdd, Int.reduceSub, addD, subD, negD, ltR, leR, gtR, geR, eqR_int, neR_int, eqR_bl, neR_bl, absR, max2R, min2R, intR, mulRi, divRi, powRi, modR, absI, len_fr, len_tb, isiT_fr, isiT_tb, isiI_int, isiB_int, isiB_bl, isiL_lst, isiT_tup, items_tb, items_fr, zip_tb, all4, addD_tup2, addD_lst2, eLc, lcL, cYes, wipeE, gN, gTup_tup, gTup_tb, gTup_fr, gLs_lst, gCons, gNil, tuple_lst, List.set_cons_zero, List.set_cons_succ, List.set_nil, ix_fr0, ix_fr1, ix_tb0, ix_tb1, ix_tb2, ix_tb3, eqR_fr, neR_fr, eqR_tb, neR_tb, ev__law_lowest' h0 l, mul_low]; try rfl)
theorem power_is : w__law_power = (wSeq (wSet 2 (eC (.int 0))) (wSeq (wWhile (cT (e2 eqR (e2 modD (eVar 1) (eVar 0)) (eC (.int 0)))) (wSeq (wSet 1 (e2 fdivD (eVar 1) (eVar 0))) (wSet 2 (e2 addD (eVar 2) (eC (.int 1)))))) (wRet (eVar 2)))) := rfl
theorem ev__law_power {p n : Int} (hp : Pr p) (h : n ≠ 0) : f__law_power [.int p, .int n] = okI (vp p n) := by
  refine outF_ev rfl ?_
  try simp only [List.set_cons_zero, List.set_cons_succ, startE, List.map_cons, List.map_nil, List.replicate, List.cons_append, List.nil_append, List.append_nil, List.length_cons, List.length_nil, Nat.zero_add, Nat.reduceAdd, Nat.reduceSub]
  refine q_set (v := .int 0) (by (simp (disch := first | decide | assumption | omega) only [startE, List.map_cons, List.map_nil, List.replicate, eVar, eC, PT.e1, PT.e2, aNil, aCons, eCall, tupR, lstR, eTup, eLst, eIte, eLenO, eIxO, cT, cAnd, cOr, cNot, andV, orV, notD, truR, truD, bindR, bindRB, bindRL, bindL, bindB, bindBB, bindLL, toD, okD, okI, okB, itA, itD, items_tup, items_lst, items_scr, len_tup, len_lst, len_scr, List.getElem?_cons_zero, List.getElem?_cons_succ, List.length_cons, List.length_nil, List.length_map, List.cons_append, List.nil_append, List.append_nil, Nat.zero_add, Nat.reduceAdd, Nat.reduceSub, Nat.reduceLeDiff, if_true, if_false, ite_true, ite_false, Bool.false_eq_true, reduceIte, Bool.not_true, Bool.not_false, Int.reducePow, Int.reduceToNat, Int.reduceMul, Int.reduceAdd, Int.reduceSub, addD, subD, negD, ltR, leR, gtR, geR, eqR_int, neR_int, eqR_bl, neR_bl, absR, max2R, min2R, intR, mulRi, divRi, powRi, modR, absI, len_fr, len_tb, isiT_fr, isiT_tb, isiI_int, isiB_int, isiB_bl, isiL_lst, isiT_tup, items_tb, items_fr, zip_tb, all4, addD_tup2, addD_lst2, eLc, lcL, cYes, wipeE, gN, gTup_tup, gTup_tb, gTup_fr, gLs_lst, gCons, gNil, tuple_lst, List.set_cons_zero, List.set_cons_succ, List.set_nil, ix_fr0, ix_fr1, ix_tb0, ix_tb1, ix_tb2, ix_tb3, eqR_fr, neR_fr, eqR_tb, neR_tb]; try rfl)) ?_
  try simp only [List.set_cons_zero, List.set_cons_succ, startE, List.map_cons, List.map_nil, List.replicate, List.cons_append, List.nil_append, List.append_nil, List.length_cons, List.length_nil, Nat.zero_add, Nat.reduceAdd, Nat.reduceSub]
  refine q_while ⟨vp p n + 1, loop_power _ hp _ _ _ _ (Nat.lt_succ_self _) (vp_spec hp.two h) fun y => ?_⟩
  try simp only [List.set_cons_zero, List.set_cons_succ, startE, List.map_cons, List.map_nil, List.replicate, List.cons_append, List.nil_append, List.append_nil, List.length_cons, List.length_nil, Nat.zero_add, Nat.reduceAdd, Nat.reduceSub]
  rw [Int.zero_add]
  exact z_ret (by (simp (disch := first | decide | assumption | omega) only [startE, List.map_cons, List.map_nil, List.replicate, eVar, eC, PT.e1, PT.e2, aNil, aCons, eCall, tupR, lstR, eTup, eLst, eIte, eLenO, eIxO, cT, cAnd, cOr, cNot, andV, orV, notD, truR, truD, bindR, bindRB, bindRL, bindL, bindB, bindBB, bindLL, toD, okD, okI, okB, itA, itD, items_tup, items_lst, items_scr, len_tup, len_lst, len_scr, List.getElem?_cons_zero, List.getElem?_cons_succ, List.length_cons, List.length_nil, List.length_map, List.cons_append, List.nil_append, List.append_nil, Nat.zero_add, Nat.reduceAdd, Nat.reduceSub, Nat.reduceLeDiff, if_true, if_false, ite_true, ite_false, Bool.false_eq_true, reduceIte, Bool.not_true, Bool.not_false, Int.reducePow, Int.reduceToNat, Int.reduceMul, Int.reduceAdd, Int.reduceSub, addD, subD, negD, ltR, leR, gtR, geR, eqR_int, neR_int, eqR_bl, neR_bl, absR, max2R, min2R, intR, mulRi, divRi, powRi, modR, absI, len_fr, len_tb, isiT_fr, isiT_tb, isiI_int, isiB_int, isiB_bl, isiL_lst, isiT_tup, items_tb, items_fr, zip_tb, all4, addD_tup2, addD_lst2, eLc, lcL, cYes, wipeE, gN, gTup_tup, gTup_tb, gTup_fr, gLs_lst, gCons, gNil, tuple_lst, List.set_cons_zero, List.set_cons_succ, List.set_nil, ix_fr0, ix_fr1, ix_tb0, ix_tb1, ix_tb2, ix_tb3, eqR_fr, neR_fr, eqR_tb, neR_tb]; try rfl)) rfl
theorem ev__law_power_in {p : Int} {q : Rat} (hp : Pr p) : f__law_power_in [.int p, fr q] = okD (vqD p q) := by
  refine outF_ev rfl ?_
  try simp only [List.set_cons_zero, List.set_cons_succ, startE, List.map_cons, List.map_nil, List.replicate, List.cons_append, List.nil_append, List.append_nil, List.length_cons, List.length_nil, Nat.zero_add, Nat.reduceAdd, Nat.reduceSub]
  have z0 : (q.num == 0) = decide (q = 0) := by rw [Bool.eq_iff_iff]; simp [fr_num]
  refine q_ifN (t := decide (q = 0)) (by (simp (disch := first | decide | assumption | omega) only [startE, List.map_cons, List.map_nil, List.replicate, eVar, eC, PT.e1, PT.e2, aNil, aCons, eCall, tupR, lstR, eTup, eLst, eIte, eLenO, eIxO, cT, cAnd, cOr, cNot, andV, orV, notD, truR, truD, bindR, bindRB, bindRL, bindL, bindB, bindBB, bindLL, toD, okD, okI, okB, itA, itD, items_tup, items_lst, items_scr, len_tup, len_lst, len_scr, List.getElem?_cons_zero, List.getElem?_cons_succ, List.length_cons, List.length_nil, List.length_map, List.cons_append, List.nil_append, List.append_nil, Nat.zero_add, Nat.reduceAdd, Nat.reduceSub, Nat.reduceLeDiff, if_true, if_false, ite_true, ite_false, Bool.false_eq_true, reduceIte, Bool.not_true, Bool.not_false, Int.reducePow, Int.reduceToNat, Int.reduceMul, Int.reduceAdd, Int.reduceSub, addD, subD, negD, ltR, leR, gtR, geR, eqR_int, neR_int, eqR_bl, neR_bl, absR, max2R, min2R, intR, mulRi, divRi, powRi, modR, absI, len_fr, len_tb, isiT_fr, isiT_tb, isiI_int, isiB_int, isiB_bl, isiL_lst, isiT_tup, items_tb, items_fr, zip_tb, all4, addD_tup2, addD_lst2, eLc, lcL, cYes, wipeE, gN, gTup_tup, gTup_tb, gTup_fr, gLs_lst, gCons, gNil, tuple_lst, List.set_cons_zero, List.set_cons_succ, List.set_nil, ix_fr0, ix_fr1, ix_tb0, ix_tb1, ix_tb2, ix_tb3, eqR_fr, neR_fr, eqR_tb, neR_tb, z0]; try rfl)) (fun ht => ?_) fun ht => ?_
  · exact z_ret (by (simp (disch := first | decide | assumption | omega) only [startE, List.map_cons, List.map_nil, List.replicate, eVar, eC, PT.e1, PT.e2, aNil, aCons, eCall, tupR, lstR, eTup, eLst, eIte, eLenO, eIxO, cT, cAnd, cOr, cNot, andV, orV, notD, truR, truD, bindR, bindRB, bindRL, bindL, bindB, bindBB, bindLL, toD, okD, okI, okB, itA, itD, items_tup, items_lst, items_scr, len_tup, len_lst, len_scr, List.getElem?_cons_zero, List.getElem?_cons_succ, List.length_cons, List.length_nil, List.length_map, List.cons_append, List.nil_append, List.append_nil, Nat.zero_add, Nat.reduceAdd, Nat.reduceSub, Nat.reduceLeDiff, if_true, if_false, ite_true, ite_false, Bool.false_eq_true, reduceIte, Bool.not_true, Bool.not_false, Int.reducePow, Int.reduceToNat, Int.reduceMul, Int.reduceAdd, Int.reduceSub, addD, subD, negD, ltR, leR, gtR, geR, eqR_int, neR_int, eqR_bl, neR_bl, absR, max2R, min2R, intR, mulRi, divRi, powRi, modR, absI, len_fr, len_tb, isiT_fr, isiT_tb, isiI_int, isiB_int, isiB_bl, isiL_lst, isiT_tup, items_tb, items_fr, zip_tb, all4, addD_tup2, addD_lst2, eLc, lcL, cYes, wipeE, gN, gTup_tup, gTup_tb, gTup_fr, gLs_lst, gCons, gNil, tuple_lst, List.set_cons_zero, List.set_cons_succ, List.set_nil, ix_fr0, ix_fr1, ix_tb0, ix_tb1, ix_tb2, ix_tb3, eqR_fr, neR_fr, eqR_tb, neR_tb]; try rfl)) (by have := of_decide_eq_true ht; unfold vqD; rw [if_pos this]; rfl)
  · have h := of_decide_eq_false ht
    have hn : q.num ≠ 0 := fun z => h (fr_num.mp z)
    exact z_ret (sv := .d (.int (vq p q))) (by (simp (disch := first | decide | assumption | omega) only [startE, List.map_cons, List.map_nil, List.replicate, eVar, eC, PT.e1, PT.e2, aNil, aCons, eCall, tupR, lstR, eTup, eLst, eIte, eLenO, eIxO, cT, cAnd, cOr, cNot, andV, orV, notD, truR, truD, bindR, bindRB, bindRL, bindL, bindB, bindBB, bindLL, toD, okD, okI, okB, itA, itD, items_tup, items_lst, items_scr, len_tup, len_lst, len_scr, List.getElem?_cons_zero, List.getElem?_cons_succ, List.length_cons, List.length_nil, List.length_map, List.cons_append, List.nil_append, List.append_nil, Nat.zero_add, Nat.reduceAdd, Nat.reduceSub, Nat.reduceLeDiff, if_true, if_false, ite_true, ite_false, Bool.false_eq_true, reduceIte, Bool.not_true, Bool.not_false, Int.reducePow, Int.reduceToNat, Int.reduceMul, Int.reduceAdd, Int.reduceSub, addD, subD, negD, ltR, leR, gtR, geR, eqR_int, neR_int, eqR_bl, neR_bl, absR, max2R, min2R, intR, mulRi, divRi, powRi, modR, absI, len_fr, len_tb, isiT_fr, isiT_tb, isiI_int, isiB_int, isiB_bl, isiL_lst, isiT_tup, items_tb, items_fr, zip_tb, all4, addD_tup2, addD_lst2, eLc, lcL, cYes, wipeE, gN, gTup_tup, gTup_tb, gTup_fr, gLs_lst, gCons, gNil, tuple_lst, List.set_cons_zero, List.set_cons_succ, List.set_nil, ix_fr0, ix_fr1, ix_tb0, ix_tb1, ix_tb2, ix_tb3, eqR_fr, neR_fr, eqR_tb, neR_tb, ev__law_power hp hn, ev__law_power hp (den_ne q)]; try rfl)) (by unfold vqD; rw [if_neg h]; rfl)
theorem ev__law_pp {p k : Int} (hp : Pr p) (l : k.natAbs ≤ 100000) : f__law_pp [.int p, .int k] = okD (fr (pz p k)) := by
  refine outF_ev rfl ?_
  try simp only [List.set_cons_zero, List.set_cons_succ, startE, List.map_cons, List.map_nil, List.replicate, List.cons_append, List.nil_append, List.append_nil, List.length_cons, List.length_nil, Nat.zero_add, Nat.reduceAdd, Nat.reduceSub]
  refine q_ifN (t := decide (k < 0)) (by (simp (disch := first | decide | assumption | omega) only [startE, List.map_cons, List.map_nil, List.replicate, eVar, eC, PT.e1, PT.e2, aNil, aCons, eCall, tupR, lstR, eTup, eLst, eIte, eLenO, eIxO, cT, cAnd, cOr, cNot, andV, orV, notD, truR, truD, bindR, bindRB, bindRL, bindL, bindB, bindBB, bindLL, toD, okD, okI, okB, itA, itD, items_tup, items_lst, items_scr, len_tup, len_lst, len_scr, List.getElem?_cons_zero, List.getElem?_cons_succ, List.length_cons, List.length_nil, List.length_map, List.cons_append, List.nil_append, List.append_nil, Nat.zero_add, Nat.reduceAdd, Nat.reduceSub, Nat.reduceLeDiff, if_true, if_false, ite_true, ite_false, Bool.false_eq_true, reduceIte, Bool.not_true, Bool.not_false, Int.reducePow, Int.reduceToNat, Int.reduceMul, Int.reduceAdd, Int.reduceSub, addD, subD, negD, ltR, leR, gtR, geR, eqR_int, neR_int, eqR_bl, neR_bl, absR, max2R, min2R, intR, mulRi, divRi, powRi, modR, absI, len_fr, len_tb, isiT_fr, isiT_tb, isiI_int, isiB_int, isiB_bl, isiL_lst, isiT_tup, items_tb, items_fr, zip_tb, all4, addD_tup2, addD_lst2, eLc, lcL, cYes, wipeE, gN, gTup_tup, gTup_tb, gTup_fr, gLs_lst, gCons, gNil, tuple_lst, List.set_cons_zero, List.set_cons_succ, List.set_nil, ix_fr0, ix_fr1, ix_tb0, ix_tb1, ix_tb2, ix_tb3, eqR_fr, neR_fr, eqR_tb, neR_tb]; try rfl)) (fun ht => ?_) fun ht => ?_
  · have h := of_decide_eq_true ht
    obtain ⟨n, rfl⟩ : ∃ n : Nat, k = -n := ⟨(-k).toNat, by omega⟩
    exact z_ret (sv := .d (fr (pz p (-(n : Int))))) (by (simp (disch := first | decide | assumption | omega) only [startE, List.map_cons, List.map_nil, List.replicate, eVar, eC, PT.e1, PT.e2, aNil, aCons, eCall, tupR, lstR, eTup, eLst, eIte, eLenO, eIxO, cT, cAnd, cOr, cNot, andV, orV, notD, truR, truD, bindR, bindRB, bindRL, bindL, bindB, bindBB, bindLL, toD, okD, okI, okB, itA, itD, items_tup, items_lst, items_scr, len_tup, len_lst, len_scr, List.getElem?_cons_zero, List.getElem?_cons_succ, List.length_cons, List.length_nil, List.length_map, List.cons_append, List.nil_append, List.append_nil, Nat.zero_add, Nat.reduceAdd, Nat.reduceSub, Nat.reduceLeDiff, if_true, if_false, ite_true, ite_false, Bool.false_eq_true, reduceIte, Bool.not_true, Bool.not_false, Int.reducePow, Int.reduceToNat, Int.reduceMul, Int.reduceAdd, Int.reduceSub, addD, subD, negD, ltR, leR, gtR, geR, eqR_int, neR_int, eqR_bl, neR_bl, absR, max2R, min2R, intR, mulRi, divRi, powRi, modR, absI, len_fr, len_tb, isiT_fr, isiT_tb, isiI_int, isiB_int, isiB_bl, isiL_lst, isiT_tup, items_tb, items_fr, zip_tb, all4, addD_tup2, addD_lst2, eLc, lcL, cYes, wipeE, gN, gTup_tup, gTup_tb, gTup_fr, gLs_lst, gCons, gNil, tuple_lst, List.set_cons_zero, List.set_cons_succ, List.set_nil, ix_fr0, ix_fr1, ix_tb0, ix_tb1, ix_tb2, ix_tb3, eqR_fr, neR_fr, eqR_tb, neR_tb, Int.neg_neg, ev__law_up (k := n) hp.bd (by omega), fr_pz_neg hp]; try rfl)) rfl
  · have h := of_decide_eq_false ht
    obtain ⟨n, rfl⟩ : ∃ n : Nat, k = n := ⟨k.toNat, by omega⟩
    exact z_ret (sv := .d (fr (pz p n))) (by (simp (disch := first | decide | assumption | omega) only [startE, List.map_cons, List.map_nil, List.replicate, eVar, eC, PT.e1, PT.e2, aNil, aCons, eCall, tupR, lstR, eTup, eLst, eIte, eLenO, eIxO, cT, cAnd, cOr, cNot, andV, orV, notD, truR, truD, bindR, bindRB, bindRL, bindL, bindB, bindBB, bindLL, toD, okD, okI, okB, itA, itD, items_tup, items_lst, items_scr, len_tup, len_lst, len_scr, List.getElem?_cons_zero, List.getElem?_cons_succ, List.length_cons, List.length_nil, List.length_map, List.cons_append, List.nil_append, List.append_nil, Nat.zero_add, Nat.reduceAdd, Nat.reduceSub, Nat.reduceLeDiff, if_true, if_false, ite_true, ite_false, Bool.false_eq_true, reduceIte, Bool.not_true, Bool.not_false, Int.reducePow, Int.reduceToNat, Int.reduceMul, Int.reduceAdd, Int.reduceSub, addD, subD, negD, ltR, leR, gtR, geR, eqR_int, neR_int, eqR_bl, neR_bl, absR, max2R, min2R, intR, mulRi, divRi, powRi, modR, absI, len_fr, len_tb, isiT_fr, isiT_tb, isiI_int, isiB_int, isiB_bl, isiL_lst, isiT_tup, items_tb, items_fr, zip_tb, all4, addD_tup2, addD_lst2, eLc, lcL, cYes, wipeE, gN, gTup_tup, gTup_tb, gTup_fr, gLs_lst, gCons, gNil, tuple_lst, List.set_cons_zero, List.set_cons_succ, List.set_nil, ix_fr0, ix_fr1, ix_tb0, ix_tb1, ix_tb2, ix_tb3, eqR_fr, neR_fr, eqR_tb, neR_tb, ev__law_up (k := n) hp.bd (by omega), fr_pz hp]; try rfl)) rfl
/-- a drawn fraction -/
theorem ev__law_number {p n : Int} (hp : Pr p) (h0 : 0 ≤ n) (hn : B 2000 n) : ∃ q : Rat, Qd q 200 ∧ f__law_number [.int p, .int n] = okD (fr q) := by
  refine postQ rfl ?_
  have bn : Bd n 2000 := ⟨hn⟩
  try simp only [List.set_cons_zero, List.set_cons_succ, startE, List.map_cons, List.map_nil, List.replicate, List.cons_append, List.nil_append, List.append_nil, List.length_cons, List.length_nil, Nat.zero_add, Nat.reduceAdd, Nat.reduceSub]
  refine q_set (v := .int (n % 4)) (by (simp (disch := first | decide | assumption | omega) only [startE, List.map_cons, List.map_nil, List.replicate, eVar, eC, PT.e1, PT.e2, aNil, aCons, eCall, tupR, lstR, eTup, eLst, eIte, eLenO, eIxO, cT, cAnd, cOr, cNot, andV, orV, notD, truR, truD, bindR, bindRB, bindRL, bindL, bindB, bindBB, bindLL, toD, okD, okI, okB, itA, itD, items_tup, items_lst, items_scr, len_tup, len_lst, len_scr, List.getElem?_cons_zero, List.getElem?_cons_succ, List.length_cons, List.length_nil, List.length_map, List.cons_append, List.nil_append, List.append_nil, Nat.zero_add, Nat.reduceAdd, Nat.reduceSub, Nat.reduceLeDiff, if_true, if_false, ite_true, ite_false, Bool.false_eq_true, reduceIte, Bool.not_true, Bool.not_false, Int.reducePow, Int.reduceToNat, Int.reduceMul, Int.reduceAdd, Int.reduceSub, addD, subD, negD, ltR, leR, gtR, geR, eqR_int, neR_int, eqR_bl, neR_bl, absR, max2R, min2R, intR, mulRi, divRi, powRi, modR, absI, len_fr, len_tb, isiT_fr, isiT_tb, isiI_int, isiB_int, isiB_bl, isiL_lst, isiT_tup, items_tb, items_fr, zip_tb, all4, addD_tup2, addD_lst2, eLc, lcL, cYes, wipeE, gN, gTup_tup, gTup_tb, gTup_fr, gLs_lst, gCons, gNil, tuple_lst, List.set_cons_zero, List.set_cons_succ, List.set_nil, ix_fr0, ix_fr1, ix_tb0, ix_tb1, ix_tb2, ix_tb3, eqR_fr, neR_fr, eqR_tb, neR_tb]; try rfl)) ?_
  try simp only [List.set_cons_zero, List.set_cons_succ, startE, List.map_cons, List.map_nil, List.replicate, List.cons_append, List.nil_append, List.append_nil, List.length_cons, List.length_nil, Nat.zero_add, Nat.reduceAdd, Nat.reduceSub]
  refine q_set (v := .int (n / 4)) (by (simp (disch := first | decide | assumption | omega) only [startE, List.map_cons, List.map_nil, List.replicate, eVar, eC, PT.e1, PT.e2, aNil, aCons, eCall, tupR, lstR, eTup, eLst, eIte, eLenO, eIxO, cT, cAnd, cOr, cNot, andV, orV, notD, truR, truD, bindR, bindRB, bindRL, bindL, bindB, bindBB, bindLL, toD, okD, okI, okB, itA, itD, items_tup, items_lst, items_scr, len_tup, len_lst, len_scr, List.getElem?_cons_zero, List.getElem?_cons_succ, List.length_cons, List.length_nil, List.length_map, List.cons_append, List.nil_append, List.append_nil, Nat.zero_add, Nat.reduceAdd, Nat.reduceSub, Nat.reduceLeDiff, if_true, if_false, ite_true, ite_false, Bool.false_eq_true, reduceIte, Bool.not_true, Bool.not_false, Int.reducePow, Int.reduceToNat, Int.reduceMul, Int.reduceAdd, Int.reduceSub, addD, subD, negD, ltR, leR, gtR, geR, eqR_int, neR_int, eqR_bl, neR_bl, absR, max2R, min2R, intR, mulRi, divRi, powRi, modR, absI, len_fr, len_tb, isiT_fr, isiT_tb, isiI_int, isiB_int, isiB_bl, isiL_lst, isiT_tup, items_tb, items_fr, zip_tb, all4, addD_tup2, addD_lst2, eLc, lcL, cYes, wipeE, gN, gTup_tup, gTup_tb, gTup_fr, gLs_lst, gCons, gNil, tuple_lst, List.set_cons_zero, List.set_cons_succ, List.set_nil, ix_fr0, ix_fr1, ix_tb0, ix_tb1, ix_tb2, ix_tb3, eqR_fr, neR_fr, eqR_tb, neR_tb]; try rfl)) ?_
  try simp only [List.set_cons_zero, List.set_cons_succ, startE, List.map_cons, List.map_nil, List.replicate, List.cons_append, List.nil_append, List.append_nil, List.length_cons, List.length_nil, Nat.zero_add, Nat.reduceAdd, Nat.reduceSub]
  refine q_set (v := .int (n / 4 % 41 - 20)) (by (simp (disch := first | decide | assumption | omega) only [startE, List.map_cons, List.map_nil, List.replicate, eVar, eC, PT.e1, PT.e2, aNil, aCons, eCall, tupR, lstR, eTup, eLst, eIte, eLenO, eIxO, cT, cAnd, cOr, cNot, andV, orV, notD, truR, truD, bindR, bindRB, bindRL, bindL, bindB, bindBB, bindLL, toD, okD, okI, okB, itA, itD, items_tup, items_lst, items_scr, len_tup, len_lst, len_scr, List.getElem?_cons_zero, List.getElem?_cons_succ, List.length_cons, List.length_nil, List.length_map, List.cons_append, List.nil_append, List.append_nil, Nat.zero_add, Nat.reduceAdd, Nat.reduceSub, Nat.reduceLeDiff, if_true, if_false, ite_true, ite_false, Bool.false_eq_true, reduceIte, Bool.not_true, Bool.not_false, Int.reducePow, Int.reduceToNat, Int.reduceMul, Int.reduceAdd, Int.reduceSub, addD, subD, negD, ltR, leR, gtR, geR, eqR_int, neR_int, eqR_bl, neR_bl, absR, max2R, min2R, intR, mulRi, divRi, powRi, modR, absI, len_fr, len_tb, isiT_fr, isiT_tb, isiI_int, isiB_int, isiB_bl, isiL_lst, isiT_tup, items_tb, items_fr, zip_tb, all4, addD_tup2, addD_lst2, eLc, lcL, cYes, wipeE, gN, gTup_tup, gTup_tb, gTup_fr, gLs_lst, gCons, gNil, tuple_lst, List.set_cons_zero, List.set_cons_succ, List.set_nil, ix_fr0, ix_fr1, ix_tb0, ix_tb1, ix_tb2, ix_tb3, eqR_fr, neR_fr, eqR_tb, neR_tb]; try rfl)) ?_
  try simp only [List.set_cons_zero, List.set_cons_succ, startE, List.map_cons, List.map_nil, List.replicate, List.cons_append, List.nil_append, List.append_nil, List.length_cons, List.length_nil, Nat.zero_add, Nat.reduceAdd, Nat.reduceSub]
  refine q_ifJ (fun ρ => ∃ t, B 70 t ∧ ρ = [some (.d (.int p)), some (.d (.int (n / 4))), some (.d (.int (n % 4))), some (.d (.int t)), none, none]) (t := decide (n % 4 = 1)) (by (simp (disch := first | decide | assumption | omega) only [startE, List.map_cons, List.map_nil, List.replicate, eVar, eC, PT.e1, PT.e2, aNil, aCons, eCall, tupR, lstR, eTup, eLst, eIte, eLenO, eIxO, cT, cAnd, cOr, cNot, andV, orV, notD, truR, truD, bindR, bindRB, bindRL, bindL, bindB, bindBB, bindLL, toD, okD, okI, okB, itA, itD, items_tup, items_lst, items_scr, len_tup, len_lst, len_scr, List.getElem?_cons_zero, List.getElem?_cons_succ, List.length_cons, List.length_nil, List.length_map, List.cons_append, List.nil_append, List.append_nil, Nat.zero_add, Nat.reduceAdd, Nat.reduceSub, Nat.reduceLeDiff, if_true, if_false, ite_true, ite_false, Bool.false_eq_true, reduceIte, Bool.not_true, Bool.not_false, Int.reducePow, Int.reduceToNat, Int.reduceMul, Int.reduceAdd, Int.reduceSub, addD, subD, negD, ltR, leR, gtR, geR, eqR_int, neR_int, eqR_bl, neR_bl, absR, max2R, min2R, intR, mulRi, divRi, powRi, modR, absI, len_fr, len_tb, isiT_fr, isiT_tb, isiI_int, isiB_int, isiB_bl, isiL_lst, isiT_tup, items_tb, items_fr, zip_tb, all4, addD_tup2, addD_lst2, eLc, lcL, cYes, wipeE, gN, gTup_tup, gTup_tb, gTup_fr, gLs_lst, gCons, gNil, tuple_lst, List.set_cons_zero, List.set_cons_succ, List.set_nil, ix_fr0, ix_fr1, ix_tb0, ix_tb1, ix_tb2, ix_tb3, eqR_fr, neR_fr, eqR_tb, neR_tb]; try rfl)) ?_ ?_ ?_
  · rintro ρ ⟨t, ht, rfl⟩
    refine q_set (v := .int (n / 4 / 500 % 13 - 6)) (by (simp (disch := first | decide | assumption | omega) only [startE, List.map_cons, List.map_nil, List.replicate, eVar, eC, PT.e1, PT.e2, aNil, aCons, eCall, tupR, lstR, eTup, eLst, eIte, eLenO, eIxO, cT, cAnd, cOr, cNot, andV, orV, notD, truR, truD, bindR, bindRB, bindRL, bindL, bindB, bindBB, bindLL, toD, okD, okI, okB, itA, itD, items_tup, items_lst, items_scr, len_tup, len_lst, len_scr, List.getElem?_cons_zero, List.getElem?_cons_succ, List.length_cons, List.length_nil, List.length_map, List.cons_append, List.nil_append, List.append_nil, Nat.zero_add, Nat.reduceAdd, Nat.reduceSub, Nat.reduceLeDiff, if_true, if_false, ite_true, ite_false, Bool.false_eq_true, reduceIte, Bool.not_true, Bool.not_false, Int.reducePow, Int.reduceToNat, Int.reduceMul, Int.reduceAdd, Int.reduceSub, addD, subD, negD, ltR, leR, gtR, geR, eqR_int, neR_int, eqR_bl, neR_bl, absR, max2R, min2R, intR, mulRi, divRi, powRi, modR, absI, len_fr, len_tb, isiT_fr, isiT_tb, isiI_int, isiB_int, isiB_bl, isiL_lst, isiT_tup, items_tb, items_fr, zip_tb, all4, addD_tup2, addD_lst2, eLc, lcL, cYes, wipeE, gN, gTup_tup, gTup_tb, gTup_fr, gLs_lst, gCons, gNil, tuple_lst, List.set_cons_zero, List.set_cons_succ, List.set_nil, ix_fr0, ix_fr1, ix_tb0, ix_tb1, ix_tb2, ix_tb3, eqR_fr, neR_fr, eqR_tb, neR_tb]; try rfl)) ?_
    try simp only [List.set_cons_zero, List.set_cons_succ, startE, List.map_cons, List.map_nil, List.replicate, List.cons_append, List.nil_append, List.append_nil, List.length_cons, List.length_nil, Nat.zero_add, Nat.reduceAdd, Nat.reduceSub]
    refine q_ifJ (fun ρ => ∃ k : Int, k.natAbs ≤ 40 ∧ ρ = [some (.d (.int p)), some (.d (.int (n / 4))), some (.d (.int (n % 4))), some (.d (.int t)), some (.d (.int k)), none]) (t := decide (n % 4 = 3)) (by (simp (disch := first | decide | assumption | omega) only [startE, List.map_cons, List.map_nil, List.replicate, eVar, eC, PT.e1, PT.e2, aNil, aCons, eCall, tupR, lstR, eTup, eLst, eIte, eLenO, eIxO, cT, cAnd, cOr, cNot, andV, orV, notD, truR, truD, bindR, bindRB, bindRL, bindL, bindB, bindBB, bindLL, toD, okD, okI, okB, itA, itD, items_tup, items_lst, items_scr, len_tup, len_lst, len_scr, List.getElem?_cons_zero, List.getElem?_cons_succ, List.length_cons, List.length_nil, List.length_map, List.cons_append, List.nil_append, List.append_nil, Nat.zero_add, Nat.reduceAdd, Nat.reduceSub, Nat.reduceLeDiff, if_true, if_false, ite_true, ite_false, Bool.false_eq_true, reduceIte, Bool.not_true, Bool.not_false, Int.reducePow, Int.reduceToNat, Int.reduceMul, Int.reduceAdd, Int.reduceSub, addD, subD, negD, ltR, leR, gtR, geR, eqR_int, neR_int, eqR_bl, neR_bl, absR, max2R, min2R, intR, mulRi, divRi, powRi, modR, absI, len_fr, len_tb, isiT_fr, isiT_tb, isiI_int, isiB_int, isiB_bl, isiL_lst, isiT_tup, items_tb, items_fr, zip_tb, all4, addD_tup2, addD_lst2, eLc, lcL, cYes, wipeE, gN, gTup_tup, gTup_tb, gTup_fr, gLs_lst, gCons, gNil, tuple_lst, List.set_cons_zero, List.set_cons_succ, List.set_nil, ix_fr0, ix_fr1, ix_tb0, ix_tb1, ix_tb2, ix_tb3, eqR_fr, neR_fr, eqR_tb, neR_tb]; try rfl)) ?_ ?_ ?_
    · rintro ρ ⟨k, hk, rfl⟩
      generalize hb : 1 + n / 4 / 41 % 12 = b
      have b1 : 1 ≤ b ∧ b ≤ 12 := by omega
      have bb : Bd b 4 := ⟨B.of (by omega) (by omega)⟩
      have bt : Bd t 70 := ⟨ht⟩
      refine q_set (v := .int b) (by (simp (disch := first | decide | assumption | omega) only [startE, List.map_cons, List.map_nil, List.replicate, eVar, eC, PT.e1, PT.e2, aNil, aCons, eCall, tupR, lstR, eTup, eLst, eIte, eLenO, eIxO, cT, cAnd, cOr, cNot, andV, orV, notD, truR, truD, bindR, bindRB, bindRL, bindL, bindB, bindBB, bindLL, toD, okD, okI, okB, itA, itD, items_tup, items_lst, items_scr, len_tup, len_lst, len_scr, List.getElem?_cons_zero, List.getElem?_cons_succ, List.length_cons, List.length_nil, List.length_map, List.cons_append, List.nil_append, List.append_nil, Nat.zero_add, Nat.reduceAdd, Nat.reduceSub, Nat.reduceLeDiff, if_true, if_false, ite_true, ite_false, Bool.false_eq_true, reduceIte, Bool.not_true, Bool.not_false, Int.reducePow, Int.reduceToNat, Int.reduceMul, Int.reduceAdd, Int.reduceSub, addD, subD, negD, ltR, leR, gtR, geR, eqR_int, neR_int, eqR_bl, neR_bl, absR, max2R, min2R, intR, mulRi, divRi, powRi, modR, absI, len_fr, len_tb, isiT_fr, isiT_tb, isiI_int, isiB_int, isiB_bl, isiL_lst, isiT_tup, items_tb, items_fr, zip_tb, all4, addD_tup2, addD_lst2, eLc, lcL, cYes, wipeE, gN, gTup_tup, gTup_tb, gTup_fr, gLs_lst, gCons, gNil, tuple_lst, List.set_cons_zero, List.set_cons_succ, List.set_nil, ix_fr0, ix_fr1, ix_tb0, ix_tb1, ix_tb2, ix_tb3, eqR_fr, neR_fr, eqR_tb, neR_tb, hb]; try rfl)) ?_
      try simp only [List.set_cons_zero, List.set_cons_succ, startE, List.map_cons, List.map_nil, List.replicate, List.cons_append, List.nil_append, List.append_nil, List.length_cons, List.length_nil, Nat.zero_add, Nat.reduceAdd, Nat.reduceSub]
      refine q_ifN (t := decide (k < 0)) (by (simp (disch := first | decide | assumption | omega) only [startE, List.map_cons, List.map_nil, List.replicate, eVar, eC, PT.e1, PT.e2, aNil, aCons, eCall, tupR, lstR, eTup, eLst, eIte, eLenO, eIxO, cT, cAnd, cOr, cNot, andV, orV, notD, truR, truD, bindR, bindRB, bindRL, bindL, bindB, bindBB, bindLL, toD, okD, okI, okB, itA, itD, items_tup, items_lst, items_scr, len_tup, len_lst, len_scr, List.getElem?_cons_zero, List.getElem?_cons_succ, List.length_cons, List.length_nil, List.length_map, List.cons_append, List.nil_append, List.append_nil, Nat.zero_add, Nat.reduceAdd, Nat.reduceSub, Nat.reduceLeDiff, if_true, if_false, ite_true, ite_false, Bool.false_eq_true, reduceIte, Bool.not_true, Bool.not_false, Int.reducePow, Int.reduceToNat, Int.reduceMul, Int.reduceAdd, Int.reduceSub, addD, subD, negD, ltR, leR, gtR, geR, eqR_int, neR_int, eqR_bl, neR_bl, absR, max2R, min2R, intR, mulRi, divRi, powRi, modR, absI, len_fr, len_tb, isiT_fr, isiT_tb, isiI_int, isiB_int, isiB_bl, isiL_lst, isiT_tup, items_tb, items_fr, zip_tb, all4, addD_tup2, addD_lst2, eLc, lcL, cYes, wipeE, gN, gTup_tup, gTup_tb, gTup_fr, gLs_lst, gCons, gNil, tuple_lst, List.set_cons_zero, List.set_cons_succ, List.set_nil, ix_fr0, ix_fr1, ix_tb0, ix_tb1, ix_tb2, ix_tb3, eqR_fr, neR_fr, eqR_tb, neR_tb]; try rfl)) (fun hz => ?_) fun hz => ?_
      · have h := of_decide_eq_true hz
        obtain ⟨m, rfl⟩ : ∃ m : Nat, k = -m := ⟨(-k).toNat, by omega⟩
        have pm := hp.pow_pos m
        have bp : Bd (p ^ m) 121 := ⟨(hp.pow_bd m).mono (by omega)⟩
        have l0 : b * p ^ m ≠ 0 := Int.mul_ne_zero (by omega) (by omega)
        exact z_ret (sv := .d (fr (Rat.divInt t (b * p ^ m)))) (by (simp (disch := first | decide | assumption | omega) only [startE, List.map_cons, List.map_nil, List.replicate, eVar, eC, PT.e1, PT.e2, aNil, aCons, eCall, tupR, lstR, eTup, eLst, eIte, eLenO, eIxO, cT, cAnd, cOr, cNot, andV, orV, notD, truR, truD, bindR, bindRB, bindRL, bindL, bindB, bindBB, bindLL, toD, okD, okI, okB, itA, itD, items_tup, items_lst, items_scr, len_tup, len_lst, len_scr, List.getElem?_cons_zero, List.getElem?_cons_succ, List.length_cons, List.length_nil, List.length_map, List.cons_append, List.nil_append, List.append_nil, Nat.zero_add, Nat.reduceAdd, Nat.reduceSub, Nat.reduceLeDiff, if_true, if_false, ite_true, ite_false, Bool.false_eq_true, reduceIte, Bool.not_true, Bool.not_false, Int.reducePow, Int.reduceToNat, Int.reduceMul, Int.reduceAdd, Int.reduceSub, addD, subD, negD, ltR, leR, gtR, geR, eqR_int, neR_int, eqR_bl, neR_bl, absR, max2R, min2R, intR, mulRi, divRi, powRi, modR, absI, len_fr, len_tb, isiT_fr, isiT_tb, isiI_int, isiB_int, isiB_bl, isiL_lst, isiT_tup, items_tb, items_fr, zip_tb, all4, addD_tup2, addD_lst2, eLc, lcL, cYes, wipeE, gN, gTup_tup, gTup_tb, gTup_fr, gLs_lst, gCons, gNil, tuple_lst, List.set_cons_zero, List.set_cons_succ, List.set_nil, ix_fr0, ix_fr1, ix_tb0, ix_tb1, ix_tb2, ix_tb3, eqR_fr, neR_fr, eqR_tb, neR_tb, Int.neg_neg, ev__law_up (k := m) hp.bd (by omega), ev__law_lowest' l0 (by decide : 4 + 121 < 9000)]; try rfl)) ⟨_, B.divInt (ht.mono (by decide)) ((Bd.b (x := b * p ^ m)).mono (by decide)) l0, rfl⟩
      · have h := of_decide_eq_false hz
        obtain ⟨m, rfl⟩ : ∃ m : Nat, k = m := ⟨k.toNat, by omega⟩
        have pm := hp.pow_pos m
        have bp : Bd (p ^ m) 121 := ⟨(hp.pow_bd m).mono (by omega)⟩
        have l0 : b ≠ 0 := by omega
        exact z_ret (sv := .d (fr (Rat.divInt (t * p ^ m) b))) (by (simp (disch := first | decide | assumption | omega) only [startE, List.map_cons, List.map_nil, List.replicate, eVar, eC, PT.e1, PT.e2, aNil, aCons, eCall, tupR, lstR, eTup, eLst, eIte, eLenO, eIxO, cT, cAnd, cOr, cNot, andV, orV, notD, truR, truD, bindR, bindRB, bindRL, bindL, bindB, bindBB, bindLL, toD, okD, okI, okB, itA, itD, items_tup, items_lst, items_scr, len_tup, len_lst, len_scr, List.getElem?_cons_zero, List.getElem?_cons_succ, List.length_cons, List.length_nil, List.length_map, List.cons_append, List.nil_append, List.append_nil, Nat.zero_add, Nat.reduceAdd, Nat.reduceSub, Nat.reduceLeDiff, if_true, if_false, ite_true, ite_false, Bool.false_eq_true, reduceIte, Bool.not_true, Bool.not_false, Int.reducePow, Int.reduceToNat, Int.reduceMul, Int.reduceAdd, Int.reduceSub, addD, subD, negD, ltR, leR, gtR, geR, eqR_int, neR_int, eqR_bl, neR_bl, absR, max2R, min2R, intR, mulRi, divRi, powRi, modR, absI, len_fr, len_tb, isiT_fr, isiT_tb, isiI_int, isiB_int, isiB_bl, isiL_lst, isiT_tup, items_tb, items_fr, zip_tb, all4, addD_tup2, addD_lst2, eLc, lcL, cYes, wipeE, gN, gTup_tup, gTup_tb, gTup_fr, gLs_lst, gCons, gNil, tuple_lst, List.set_cons_zero, List.set_cons_succ, List.set_nil, ix_fr0, ix_fr1, ix_tb0, ix_tb1, ix_tb2, ix_tb3, eqR_fr, neR_fr, eqR_tb, neR_tb, ev__law_up (k := m) hp.bd (by omega), ev__law_lowest' l0 (by decide : 4 < 9000)]; try rfl)) ⟨_, B.divInt ((Bd.b (x := t * p ^ m)).mono (by decide)) (bb.b.mono (by decide)) l0, rfl⟩
    · intro K hK _
      exact z_set (v := .int (n / 4 / 500 % 81 - 40)) (by (simp (disch := first | decide | assumption | omega) only [startE, List.map_cons, List.map_nil, List.replicate, eVar, eC, PT.e1, PT.e2, aNil, aCons, eCall, tupR, lstR, eTup, eLst, eIte, eLenO, eIxO, cT, cAnd, cOr, cNot, andV, orV, notD, truR, truD, bindR, bindRB, bindRL, bindL, bindB, bindBB, bindLL, toD, okD, okI, okB, itA, itD, items_tup, items_lst, items_scr, len_tup, len_lst, len_scr, List.getElem?_cons_zero, List.getElem?_cons_succ, List.length_cons, List.length_nil, List.length_map, List.cons_append, List.nil_append, List.append_nil, Nat.zero_add, Nat.reduceAdd, Nat.reduceSub, Nat.reduceLeDiff, if_true, if_false, ite_true, ite_false, Bool.false_eq_true, reduceIte, Bool.not_true, Bool.not_false, Int.reducePow, Int.reduceToNat, Int.reduceMul, Int.reduceAdd, Int.reduceSub, addD, subD, negD, ltR, leR, gtR, geR, eqR_int, neR_int, eqR_bl, neR_bl, absR, max2R, min2R, intR, mulRi, divRi, powRi, modR, absI, len_fr, len_tb, isiT_fr, isiT_tb, isiI_int, isiB_int, isiB_bl, isiL_lst, isiT_tup, items_tb, items_fr, zip_tb, all4, addD_tup2, addD_lst2, eLc, lcL, cYes, wipeE, gN, gTup_tup, gTup_tb, gTup_fr, gLs_lst, gCons, gNil, tuple_lst, List.set_cons_zero, List.set_cons_succ, List.set_nil, ix_fr0, ix_fr1, ix_tb0, ix_tb1, ix_tb2, ix_tb3, eqR_fr, neR_fr, eqR_tb, neR_tb]; try rfl)) (hK _ ⟨_, by omega, rfl⟩)
    · intro K hK _
      exact hK _ ⟨_, by omega, rfl⟩
  · intro K hK _
    exact z_set (v := .int (n / 4 % 200000000000000000001 - 100000000000000000000)) (by (simp (disch := first | decide | assumption | omega) only [startE, List.map_cons, List.map_nil, List.replicate, eVar, eC, PT.e1, PT.e2, aNil, aCons, eCall, tupR, lstR, eTup, eLst, eIte, eLenO, eIxO, cT, cAnd, cOr, cNot, andV, orV, notD, truR, truD, bindR, bindRB, bindRL, bindL, bindB, bindBB, bindLL, toD, okD, okI, okB, itA, itD, items_tup, items_lst, items_scr, len_tup, len_lst, len_scr, List.getElem?_cons_zero, List.getElem?_cons_succ, List.length_cons, List.length_nil, List.length_map, List.cons_append, List.nil_append, List.append_nil, Nat.zero_add, Nat.reduceAdd, Nat.reduceSub, Nat.reduceLeDiff, if_true, if_false, ite_true, ite_false, Bool.false_eq_true, reduceIte, Bool.not_true, Bool.not_false, Int.reducePow, Int.reduceToNat, Int.reduceMul, Int.reduceAdd, Int.reduceSub, addD, subD, negD, ltR, leR, gtR, geR, eqR_int, neR_int, eqR_bl, neR_bl, absR, max2R, min2R, intR, mulRi, divRi, powRi, modR, absI, len_fr, len_tb, isiT_fr, isiT_tb, isiI_int, isiB_int, isiB_bl, isiL_lst, isiT_tup, items_tb, items_fr, zip_tb, all4, addD_tup2, addD_lst2, eLc, lcL, cYes, wipeE, gN, gTup_tup, gTup_tb, gTup_fr, gLs_lst, gCons, gNil, tuple_lst, List.set_cons_zero, List.set_cons_succ, List.set_nil, ix_fr0, ix_fr1, ix_tb0, ix_tb1, ix_tb2, ix_tb3, eqR_fr, neR_fr, eqR_tb, neR_tb]; try rfl)) (hK _ ⟨_, B.of (by omega) (by omega), rfl⟩)
  · intro K hK _
    exact hK _ ⟨_, B.of (by omega) (by omega), rfl⟩
end PT
/-! PT: a law's end with the script's sizes. -/
namespace PT
open PySem PySem.Spec PyProof.Rows L2
theorem bits_B {n : Int} (h : Builtin.Int.intBits n ≤ 1048576) : B 1048577 n := by
  unfold B
  unfold Builtin.Int.intBits at h
  by_cases h0 : n.natAbs = 0
  · rw [h0]; exact Nat.two_pow_pos _
  · have hn : (n == 0) = false := by
      rw [beq_eq_false_iff_ne]; intro z; exact h0 (by rw [z]; rfl)
    rw [hn] at h
    have h : n.natAbs.log2 + 1 ≤ 1048576 := h
    exact (Nat.log2_lt h0).mp (by omega)
theorem law_endB {l : PySem.W.OpenLaw} {q : Program} {loose : List Str} {XP : (Str → Option Value) → Heap → Prop} {YP : World → Heap → Prop} {d : DefRec} {x : Str} {k : Nat} (fn : List D → Option R)
    (hm : l.most = some 63) (hdf : d.params.defaults = []) (hr : Room k callerA)
    (F : ∀ (w : World) (mg : Str → Option Value) (fa : Addr) (h : Heap), YP w h → h.Ns mainGlobals mg → mg d.name = some (.ref fa) → ∃ (K : PySem.W.Frag) (fd : FuncData), K.In h ∧ (∀ (s : Shared) (u : Value), BindsTo s fd ⟨[u], []⟩ [(x, u)]) ∧
      ∀ base : Heap, K.In base → base.Ns mainGlobals mg → FnOk l.prog w K mg base (L2.CX l.prog w) k fa fd [x] (spF K mg fn))
    (hfn : ∀ ns : List Int, ns.length ≤ 63 → (∀ n ∈ ns, B 1048577 n) → fn [.scr (ns.map D.int)] = some (.ok (.d (.bl true)))) : PySem.W.WalkO q loose XP YP l.row.toRowW d [] (fun f vs => PySem.call f vs) := by
  refine Att.attach_callB hm hdf ?_
  intro w s₀ s₁ mg mb fa o pm cd doc a vs ns G Y ho hd hcd hmg hobj hints hlen hbits hg
  obtain ⟨K, fd, KX, hb, hF⟩ := F w mg fa _ Y G.T.g hmg
  refine law_call KX G.T.g G.T.b G.T.builtins G.T.nolimit hg hobj hints (Nat.le_trans hlen (by rw [sizeLine_eq]; decide)) hr hF hb ?_ ?_
  · intro H hO hS
    refine ⟨H, [.scr (ns.map D.int)], Same.refl H, .cons (.scr hS (RepL.ofInts ns)) .nil, ?_⟩
    rw [hfn ns hlen fun n hn => bits_B (hbits n hn)]
    intro v F' H' _ _ _ _ r
    cases r
    rfl
  · intro H e s'
    exact CX_not
end PT
/-! PT: tuples (whole number, (whole number, whole number)) compared and sorted. -/
namespace PT
open PySem PySem.Spec PyProof.Rows L2
abbrev K3 : Type := Int × Int × Int
/-- as tuples are compared -/
def lex3 (p q : K3) : Bool := if p.1 = q.1 then (if p.2.1 = q.2.1 then decide (p.2.2 < q.2.2) else decide (p.2.1 < q.2.1)) else decide (p.1 < q.1)
theorem lex3_iff {p q : K3} : lex3 p q = true ↔ p.1 < q.1 ∨ (p.1 = q.1 ∧ (p.2.1 < q.2.1 ∨ (p.2.1 = q.2.1 ∧ p.2.2 < q.2.2))) := by
  unfold lex3
  by_cases e : p.1 = q.1
  · rw [if_pos e]
    by_cases f : p.2.1 = q.2.1
    · rw [if_pos f, decide_eq_true_eq]; omega
    · rw [if_neg f, decide_eq_true_eq]; omega
  · rw [if_neg e, decide_eq_true_eq]; omega
theorem lex3_no {p q : K3} : lex3 p q = false ↔ ¬ (p.1 < q.1 ∨ (p.1 = q.1 ∧ (p.2.1 < q.2.1 ∨ (p.2.1 = q.2.1 ∧ p.2.2 < q.2.2)))) := by
  rw [← lex3_iff]
  cases lex3 p q <;> simp
theorem swo3 {α : Type} (k : α → K3) : SrtO.Swo fun v u => lex3 (k v) (k u) := by
  refine ⟨fun x y h => ?_, fun x y z h1 h2 => ?_⟩
  · have a := lex3_iff.mp h
    refine lex3_no.mpr ?_
    omega
  · have a := lex3_no.mp h1
    have b := lex3_no.mp h2
    refine lex3_no.mpr ?_
    omega
theorem lex3_antisymm {p q : K3} (h : lex3 p q = false) (g : lex3 q p = false) : p = q := by
  have a := lex3_no.mp h
  have b := lex3_no.mp g
  refine Prod.ext ?_ (Prod.ext ?_ ?_) <;> omega
/-! ### in memory -/
def IsSp3 (h : Heap) (v : Value) (k : K3) : Prop := ∃ a f t n d, v = .ref a ∧ h.IsTuple a #[.int k.1 t, .ref f] ∧ h.IsTuple f #[.int k.2.1 n, .int k.2.2 d]
theorem istuple_inj {h : Heap} {a : Addr} {xs ys : Array Value} (p : h.IsTuple a xs) (q : h.IsTuple a ys) : xs = ys := by
  obtain ⟨o, e1, -, n, d1⟩ := p
  obtain ⟨o', e2, -, m, d2⟩ := q
  rw [e1] at e2
  cases e2
  rw [d1] at d2
  cases d2
  rfl
theorem IsSp3.inj {h : Heap} {v : Value} {k l : K3} (p : IsSp3 h v k) (q : IsSp3 h v l) : k = l := by
  obtain ⟨a, f, t, n, d, rfl, h1, h2⟩ := p
  obtain ⟨a', f', t', n', d', e, g1, g2⟩ := q
  cases e
  have e1 := istuple_inj h1 g1
  simp only [Array.mk.injEq, List.cons.injEq, Value.int.injEq, Value.ref.injEq, and_true] at e1
  obtain ⟨⟨e2, -⟩, e3⟩ := e1
  subst e3
  have e4 := istuple_inj h2 g2
  simp only [Array.mk.injEq, List.cons.injEq, Value.int.injEq, and_true] at e4
  exact Prod.ext e2 (Prod.ext e4.1.1 e4.2.1)
theorem IsSp3.keeps {h h' : Heap} {v : Value} {k : K3} (p : IsSp3 h v k) (kp : ∀ b o, h.get? b = some o → o.cls = .type "tuple" → h'.get? b = some o) : IsSp3 h' v k := by
  obtain ⟨a, f, t, n, d, e, ⟨o, h1, h2, h3⟩, ⟨o', g1, g2, g3⟩⟩ := p
  exact ⟨a, f, t, n, d, e, ⟨o, kp _ _ h1 h2, h2, h3⟩, ⟨o', kp _ _ g1 g2, g2, g3⟩⟩
section
variable {A : Around} {s : Shared}
theorem pair_eqAt {f g : Addr} {n d n' d' : Int} {t u t' u' : Tok} (hf : s.heap.IsTuple f #[.int n t, .int d u]) (hg : s.heap.IsTuple g #[.int n' t', .int d' u']) (hu : A.units < cLine) : SeqAt.EqAt A s (.ref f) (.ref g) (decide (n = n') && decide (d = d')) := by
  have bq : ∀ x y : Int, (x == y) = decide (x = y) := fun x y => by
    by_cases q : x = y
    · rw [decide_eq_true q]; exact beq_iff_eq.mpr q
    · rw [decide_eq_false q]; exact beq_eq_false_iff_ne.mpr q
  by_cases e : f = g
  · subst e
    have e4 := istuple_inj hf hg
    simp only [Array.mk.injEq, List.cons.injEq, Value.int.injEq, and_true] at e4
    rw [decide_eq_true e4.1.1, decide_eq_true e4.2.1]
    exact SeqAt.EqAt.same _
  · refine SeqAt.EqAt.of_refs e ?_
    have R := SeqAt.RcAt.tuples (A := A) (e := fun j => if j = 0 then decide (n = n') else decide (d = d')) hf hg hu (fun j h1 h2 => by
      rcases j with _ | _ | j
      · rw [if_pos rfl, ← bq]; exact SeqAt.EqAt.int_int _ _ _ _
      · rw [if_neg (by omega), ← bq]; exact SeqAt.EqAt.int_int _ _ _ _
      · exact absurd (show j + 1 + 1 < 2 from h1) (by omega))
    have e3 : ((List.range (min (#[Value.int n t, Value.int d u] : Array Value).size (#[Value.int n' t', Value.int d' u'] : Array Value).size)).all fun j => if j = 0 then decide (n = n') else decide (d = d')) = (decide (n = n') && decide (d = d')) := by
      show (([0, 1] : List Nat).all fun j => if j = 0 then decide (n = n') else decide (d = d')) = _
      simp
    rw [e3] at R
    have e5 : ((#[Value.int n t, Value.int d u] : Array Value).size == (#[Value.int n' t', Value.int d' u'] : Array Value).size) = true := rfl
    rw [e5, Bool.and_true] at R
    exact R
theorem pair_lt {f g : Addr} {n d n' d' : Int} {t u t' u' : Tok} (hf : s.heap.IsTuple f #[.int n t, .int d u]) (hg : s.heap.IsTuple g #[.int n' t', .int d' u']) (hu : A.units < cLine) : Ob.RcOp .Lt A s (.ref f) (.ref g) (if n = n' then decide (d < d') else decide (n < n')) := by
  have bq : ∀ x y : Int, (x == y) = decide (x = y) := fun x y => by
    by_cases q : x = y
    · rw [decide_eq_true q]; exact beq_iff_eq.mpr q
    · rw [decide_eq_false q]; exact beq_eq_false_iff_ne.mpr q
  have R := Ob.RcOp.tuples_lt (A := A) (e := fun j => if j = 0 then decide (n = n') else decide (d = d')) (r := fun j => if j = 0 then decide (n < n') else decide (d < d')) hf hg hu (fun j h1 h2 => by
      rcases j with _ | _ | j
      · rw [if_pos rfl, ← bq]; exact SeqAt.EqAt.int_int _ _ _ _
      · rw [if_neg (by omega), ← bq]; exact SeqAt.EqAt.int_int _ _ _ _
      · exact absurd (show j + 1 + 1 < 2 from h1) (by omega)) (fun j h1 h2 _ => by
      rcases j with _ | _ | j
      · rw [if_pos rfl]; exact Ob.RcOp.lt_int _ _ _ _
      · rw [if_neg (by omega)]; exact Ob.RcOp.lt_int _ _ _ _
      · exact absurd (show j + 1 + 1 < 2 from h1) (by omega))
  have e3 : Ob.lexAt (fun j => if j = 0 then decide (n = n') else decide (d = d')) (fun j => if j = 0 then decide (n < n') else decide (d < d')) (decide ((#[Value.int n t, Value.int d u] : Array Value).size < (#[Value.int n' t', Value.int d' u'] : Array Value).size)) 0 (min (#[Value.int n t, Value.int d u] : Array Value).size (#[Value.int n' t', Value.int d' u'] : Array Value).size) = (if n = n' then decide (d < d') else decide (n < n')) := by
    show (if decide (n = n') = true then (if decide (d = d') = true then false else decide (d < d')) else decide (n < n')) = _
    by_cases e1 : n = n'
    · rw [if_pos e1, if_pos (decide_eq_true e1)]
      by_cases e2 : d = d'
      · rw [if_pos (decide_eq_true e2), decide_eq_false (by omega)]
      · rw [if_neg (by simpa using e2)]
    · rw [if_neg e1, if_neg (by simpa using e1)]
  rw [e3] at R
  exact R
/-- < of two such tuples -/
theorem sp3_lt {v u : Value} {k l : K3} (hv : IsSp3 s.heap v k) (hu' : IsSp3 s.heap u l) (hu : A.units + 64 < cLine) : Ob.RcOp .Lt A s v u (lex3 k l) := by
  obtain ⟨a, f, t, n, d, rfl, h1, h2⟩ := hv
  obtain ⟨a', f', t', n', d', rfl, g1, g2⟩ := hu'
  have bq : ∀ x y : Int, (x == y) = decide (x = y) := fun x y => by
    by_cases q : x = y
    · rw [decide_eq_true q]; exact beq_iff_eq.mpr q
    · rw [decide_eq_false q]; exact beq_eq_false_iff_ne.mpr q
  have hu1 : A.in1.units < cLine := by show A.units + 1 < cLine; omega
  have R := Ob.RcOp.tuples_lt (A := A) (e := fun j => if j = 0 then decide (k.1 = l.1) else (decide (k.2.1 = l.2.1) && decide (k.2.2 = l.2.2))) (r := fun j => if j = 0 then decide (k.1 < l.1) else (if k.2.1 = l.2.1 then decide (k.2.2 < l.2.2) else decide (k.2.1 < l.2.1))) h1 g1 (by omega) (fun j h3 h4 => by
      rcases j with _ | _ | j
      · rw [if_pos rfl, ← bq]; exact SeqAt.EqAt.int_int _ _ _ _
      · rw [if_neg (by omega)]; exact pair_eqAt h2 g2 hu1
      · exact absurd (show j + 1 + 1 < 2 from h3) (by omega)) (fun j h3 h4 _ => by
      rcases j with _ | _ | j
      · rw [if_pos rfl]; exact Ob.RcOp.lt_int _ _ _ _
      · rw [if_neg (by omega)]; exact pair_lt h2 g2 hu1
      · exact absurd (show j + 1 + 1 < 2 from h3) (by omega))
  have e3 : Ob.lexAt (fun j => if j = 0 then decide (k.1 = l.1) else (decide (k.2.1 = l.2.1) && decide (k.2.2 = l.2.2))) (fun j => if j = 0 then decide (k.1 < l.1) else (if k.2.1 = l.2.1 then decide (k.2.2 < l.2.2) else decide (k.2.1 < l.2.1))) (decide ((#[Value.int k.1 t, Value.ref f] : Array Value).size < (#[Value.int l.1 t', Value.ref f'] : Array Value).size)) 0 (min (#[Value.int k.1 t, Value.ref f] : Array Value).size (#[Value.int l.1 t', Value.ref f'] : Array Value).size) = lex3 k l := by
    show (if decide (k.1 = l.1) = true then (if (decide (k.2.1 = l.2.1) && decide (k.2.2 = l.2.2)) = true then false else (if k.2.1 = l.2.1 then decide (k.2.2 < l.2.2) else decide (k.2.1 < l.2.1))) else decide (k.1 < l.1)) = _
    unfold lex3
    by_cases e1 : k.1 = l.1
    · rw [if_pos e1, if_pos (decide_eq_true e1)]
      by_cases e2 : k.2.1 = l.2.1
      · by_cases e4 : k.2.2 = l.2.2
        · rw [decide_eq_true e2, decide_eq_true e4, if_pos (show (true && true) = true from rfl), if_pos e2, decide_eq_false (by omega)]
        · rw [decide_eq_false e4, Bool.and_false, if_neg (by decide)]
      · rw [decide_eq_false e2, Bool.false_and, if_neg (by decide)]
    · rw [if_neg e1, if_neg (by simpa using e1)]
  rw [e3] at R
  exact R
end
section
variable {prog : Program} {w : World} {A : Around} {E : Value → Shared → Prop} {s : Shared}
theorem sp3_cmp {vs : List Value} {k : Value → K3} (hu : A.units + 64 < cLine) (hp : ∀ v ∈ vs, IsSp3 s.heap v (k v)) : SrtO.Cmp prog w A s (tuples' true) (fun p => p.1 ∈ vs) (SrtO.lt2 fun v u => lex3 (k v) (k u)) := by
  intro p q hm hm'
  have h1 := hp _ hm
  have h2 := hp _ hm'
  show wpAny (model prog w) A (keyLt' (tuples' true) p.1 q.1) (fun r s' => s' = s ∧ r = lex3 (k p.1) (k q.1)) (fun _ _ => False) s
  unfold lex3
  generalize k p.1 = x at h1 ⊢
  generalize k q.1 = y at h2 ⊢
  obtain ⟨a, f, t, n, d, e, ⟨o, ho, hc, m, hd⟩, hf⟩ := h1
  obtain ⟨a', f', t', n', d', e', ⟨o', ho', hc', m', hd'⟩, hf'⟩ := h2
  rw [e, e']
  refine PySem.W.kat_lt ho hd ho' hd' ?_
  show PySem.W.KatLex prog w A true (decide (2 < 2)) _ [(.int x.1 t, .int y.1 t'), (.ref f, .ref f')] 0 s
  refine PySem.W.kat_cons (SeqAt.EqAt.int_int x.1 t y.1 t' prog w _ _ ?_)
  refine PySem.W.kat_go (fun e1 => ?_) (fun e1 => ?_)
  · have ex : x.1 = y.1 := by simpa using e1
    refine PySem.W.kat_yes (PySem.W.kat_cons (pair_eqAt hf hf' (by omega) prog w _ _ ?_))
    refine PySem.W.kat_go (fun e2 => ?_) (fun e2 => ?_)
    · have ey : x.2.1 = y.2.1 ∧ x.2.2 = y.2.2 := by simpa using e2
      refine PySem.W.kat_yes (PySem.W.kat_nil ⟨rfl, ?_⟩)
      rw [if_pos ex, if_pos ey.1, ey.2]
      exact (decide_eq_false (Int.lt_irrefl _)).symm
    · refine PySem.W.kat_no (PySem.W.kat_one _ _ (pair_lt hf hf' (by omega) prog w _ _ ?_))
      refine (show s = s ∧ _ = _ from ⟨rfl, ?_⟩)
      rw [if_pos ex]
  · have ex : ¬ x.1 = y.1 := by simpa using e1
    refine PySem.W.kat_no (oneLt_int ⟨rfl, ?_⟩)
    rw [if_neg ex]
theorem firsts3 {h : Heap} : ∀ {vs : List Value}, (∀ v ∈ vs, ∃ k, IsSp3 h v k) → ∃ fs : List Value, PySem.W.KatTups h vs fs ∧ fs.length = vs.length ∧ ∀ f ∈ fs, ∃ x t, f = Value.int x t
  | [], _ => ⟨[], PySem.W.KatTups.nil, rfl, fun _ hm => by simp at hm⟩
  | v :: vs, hp => by
    obtain ⟨fs, h1, h2, h3⟩ := firsts3 (vs := vs) fun v' hm => hp v' (List.mem_cons_of_mem _ hm)
    obtain ⟨k, a, f, t, n, d, rfl, ⟨o, ho, hc, m, hd⟩, hf⟩ := hp v (List.mem_cons_self ..)
    refine ⟨.int k.1 t :: fs, PySem.W.KatTups.cons ho hc hd rfl h1, by rw [List.length_cons, List.length_cons, h2], fun f hm => ?_⟩
    rcases List.mem_cons.mp hm with rfl | hm
    · exact ⟨k.1, t, rfl⟩
    · exact h3 f hm
theorem sp3_sortable {a : Addr} {vs : List Value} {k : Value → K3} (hu : A.units + 64 < cLine) (h0 : 0 < vs.length) (hp : ∀ v ∈ vs, IsSp3 s.heap v (k v)) (ha : ∀ o, s.heap.get? a = some o → o.cls ≠ .type "tuple") : SrtO.SortableO prog w A s a vs fun v u => lex3 (k v) (k u) := by
  intro h' keep
  have hp' : ∀ v ∈ vs, IsSp3 h' v (k v) := fun v hm => (hp v hm).keeps fun b o e c => keep b o (fun z => by subst z; exact ha o e c) e
  obtain ⟨fs, h1, h2, h3⟩ := firsts3 fun v hm => ⟨_, hp' v hm⟩
  refine ⟨tuples' true, fun Q E hq => ?_, sp3_cmp (s := { s with heap := h' }) hu hp'⟩
  refine PySem.W.kat_kind (T := .type "int") h1 (by omega) (fun f hm => ?_) (by rfl) ?_
  · obtain ⟨x, t, rfl⟩ := h3 f hm
    exact PySem.W.Looks.now
  · have e : (Value.type "int" != Value.type "tuple") = true := by first | decide +kernel | rfl | decide
    rw [e]
    exact hq
theorem sorted_sp3 {l : Addr} {vs : List Value} {k : Value → K3} {Q : Value → Shared → Prop} (hu : A.units + 66 < cLine) (hl : s.heap.IsList l vs.toArray) (hz : vs.length ≤ sizeLine) (hp : ∀ v ∈ vs, IsSp3 s.heap v (k v))
    (h : ∀ (h' : Heap) (d : Addr) (out : List Value), SrtO.Srtd (fun v u => lex3 (k v) (k u)) out → out.Perm vs → (∀ b o, s.heap.get? b = some o → h'.get? b = some o) → s.heap.objs.size ≤ d → (∃ n, h'.get? d = some (seqObj "list" out.toArray n)) → Q (.ref d) { s with heap := h' }) :
    wpAny (model prog w) A (call (.builtin "sorted") [.ref l]) Q E s := by
  refine SrtO.sorted_ord (swo3 k) hl hz (fun h2 h₁ a ha kk => ?_) fun out hs hb => ?_
  · refine sp3_sortable (s := { s with heap := h₁ }) (by show A.units + 1 + 1 + 64 < cLine; omega) (by omega) (fun v hm => (hp v hm).keeps fun b o e _ => (kk b o e).2) fun o e => ?_
    have e' : some o = some (seqObj "list" vs.toArray 0) := e.symm.trans ha
    cases e'
    intro c
    exact absurd (Value.type.inj c) (by decide)
  · exact h _ _ out hs hb.perm (fun b o e => sortedAll_old e) (Nat.le_succ _) (sortedAll_at s.heap vs out.toArray)
end
/-! ### as a rule -/
def IsK3 (K : PySem.W.Frag) (H : Hp) (v : V) (k : K3) : Prop := ∃ a f, v = .ref a ∧ SqT K H a [.int k.1, .ref f] ∧ SqT K H f [.int k.2.1, .int k.2.2]
/-- one by one -/
def All2 (K : PySem.W.Frag) (H : Hp) : List V → List K3 → Prop
  | [], [] => True
  | v :: vs, k :: ks => IsK3 K H v k ∧ All2 K H vs ks
  | _, _ => False
def rSorted3 (K : PySem.W.Frag) : List V → Hp → VK → Prop := fun vs H Q => ∃ (a : Addr) (xs : List V) (ks : List K3), vs = [V.ref a] ∧ SqL K H a xs ∧ All2 K H xs ks ∧
  ∀ (ps : List (V × K3)) p, SrtO.Srtd lex3 (ps.map (·.2)) → ps.Perm (xs.zip ks) → H p = none → Q (.ref p) (upd H p (.lst (ps.map (·.1))))
theorem All2.map {K : PySem.W.Frag} {H : Hp} {k : V → K3} : ∀ {ys : List V}, (∀ y ∈ ys, IsK3 K H y (k y)) → All2 K H ys (ys.map k)
  | [], _ => trivial
  | y :: ys, h => ⟨h y List.mem_cons_self, All2.map fun z hz => h z (List.mem_cons_of_mem _ hz)⟩
theorem All2.ref {K : PySem.W.Frag} {H : Hp} : ∀ {xs : List V} {ks : List K3}, All2 K H xs ks → ∀ x ∈ xs, ∃ k, k ∈ ks ∧ IsK3 K H x k
  | [], _, _ => fun _ h => by cases h
  | x :: xs, k :: ks, h => fun y hy => by
    rcases List.mem_cons.mp hy with rfl | hy
    · exact ⟨k, List.mem_cons_self, h.1⟩
    · obtain ⟨k', a, b⟩ := All2.ref h.2 y hy
      exact ⟨k', List.mem_cons_of_mem _ a, b⟩
  | _ :: _, [], h => h.elim
theorem All2.keys {K : PySem.W.Frag} {H : Hp} {k : V → K3} : ∀ {xs : List V} {ks : List K3}, All2 K H xs ks → (∀ x ∈ xs, ∀ l, IsK3 K H x l → l = k x) → xs.map k = ks
  | [], [], _, _ => rfl
  | x :: xs, l :: ks, h, u => by
    rw [List.map_cons, u x List.mem_cons_self l h.1, All2.keys h.2 fun y hy => u y (List.mem_cons_of_mem _ hy)]
  | [], _ :: _, h, _ => h.elim
  | _ :: _, [], h, _ => h.elim
theorem zip_map_self {α β : Type} : ∀ (xs : List α) (f : α → β), xs.zip (xs.map f) = xs.map fun y => (y, f y)
  | [], _ => rfl
  | x :: xs, f => by rw [List.map_cons, List.zip_cons_cons, zip_map_self xs f]; rfl
open Classical in
theorem cr_sorted3 {X : Cx} (hu : X.A.units + 66 < cLine) : CallR X (.builtin "sorted") (rSorted3 X.K) := by
  intro pins s σ H vs us Q I r h
  obtain ⟨a, xs, ks, rfl, hs, hx, q⟩ := h
  obtain ⟨its, rv, hl, hz⟩ := I.list hs
  obtain ⟨u, rfl, ru⟩ := vals1 r
  obtain rfl : u = Value.ref a := ru
  have all := hx.ref
  obtain ⟨e1, e2⟩ := refs_back rv fun x m => by
    obtain ⟨k, -, t, f, e, -, -⟩ := all x m
    exact ⟨t, e⟩
  -- the keys of the values
  have one : ∀ (v : V) (k l : K3), IsK3 X.K H v k → IsK3 X.K H v l → l = k := by
    rintro v k l ⟨t, f, rfl, h1, h2⟩ ⟨t', f', e, g1, g2⟩
    cases e
    have z1 := I.tuple_inj h1 g1
    simp only [List.cons.injEq, V.int.injEq, V.ref.injEq, and_true] at z1
    obtain ⟨z2, z3⟩ := z1
    subst z3
    have z4 := I.tuple_inj h2 g2
    simp only [List.cons.injEq, V.int.injEq, and_true] at z4
    exact (Prod.ext z2 (Prod.ext z4.1 z4.2)).symm
  let key : V → K3 := fun v => if h : ∃ k, IsK3 X.K H v k then h.choose else (0, 0, 0)
  have key_is : ∀ v k, IsK3 X.K H v k → key v = k := fun v k hk => by
    have h : ∃ k, IsK3 X.K H v k := ⟨k, hk⟩
    show (if h : ∃ k, IsK3 X.K H v k then h.choose else (0, 0, 0)) = k
    rw [dif_pos h]
    exact one v k _ hk h.choose_spec
  refine sorted_sp3 (k := fun u => key (backV u)) hu hl.isList (by rw [← rv.length]; exact hz) (fun v hv => ?_) fun h' d out h1 h2 kp hd hn => ?_
  · obtain ⟨t, rfl⟩ := e2 v hv
    have hm : V.ref t ∈ xs := by rw [e1]; exact List.mem_map.mpr ⟨_, hv, rfl⟩
    obtain ⟨k, -, hk⟩ := all _ hm
    have ek : key (backV (Value.ref t)) = k := key_is _ _ hk
    show IsSp3 s.heap (.ref t) (key (backV (Value.ref t)))
    rw [ek]
    obtain ⟨t', f, e, ht, hf⟩ := hk
    cases e
    obtain ⟨i1, r1, p1, -⟩ := I.tuple ht
    obtain ⟨i2, r2, p2, -⟩ := I.tuple hf
    obtain ⟨u1, u2, rfl, ri, rj⟩ := vals2 r1
    obtain ⟨t1, rfl⟩ := ri
    obtain rfl : u2 = Value.ref f := rj
    obtain ⟨u3, u4, rfl, ri, rj⟩ := vals2 r2
    obtain ⟨t3, rfl⟩ := ri
    obtain ⟨t4, rfl⟩ := rj
    exact ⟨t, f, t1, t3, t4, rfl, p1, p2⟩
  · have h3 : ∀ u ∈ out, ∃ a, u = Value.ref a := fun u hu => e2 u (h2.mem_iff.mp hu)
    obtain ⟨n, hn⟩ := hn
    have hb : (out.map backV).Perm xs := by
      rw [e1]
      exact h2.map backV
    have ek := All2.keys hx fun x hx' l hl => (key_is x l hl).symm
    have pm : ((out.map backV).map fun y => (y, key y)).Perm (xs.zip ks) := by
      have := hb.map fun y => (y, key y)
      rw [← ek]
      have e : xs.zip (xs.map key) = xs.map fun y => (y, key y) := zip_map_self xs key
      rw [e]; exact this
    have sr : SrtO.Srtd lex3 (((out.map backV).map fun y => (y, key y)).map (·.2)) := by
      rw [List.map_map]
      exact SrtO.srtd_map (f := fun y => key y) (SrtO.srtd_map h1)
    have qq := q ((out.map backV).map fun y => (y, key y)) d sr pm (I.hok.fresh hd)
    rw [show ((out.map backV).map fun y => (y, key y)).map (·.1) = out.map backV by rw [List.map_map]; exact List.map_id'' (fun _ => rfl) _] at qq
    refine ⟨.ref d, upd H d (.lst (out.map backV)), I.laid (t' := s.toks) kp hd ⟨?_, out, n, vals_back h3, hn⟩, rfl, qq⟩
    rw [hb.length_eq]
    exact hz
/-- < -/
theorem op_lt3 {X : Cx} (hu : X.A.units + 64 < cLine) : OpR X (compareOp .Lt) (fun x y H Q => ∃ k l, IsK3 X.K H x k ∧ IsK3 X.K H y l ∧ Q (.bl (lex3 k l)) H) := by
  intro pins s σ H x y v u Q I rx ry h
  obtain ⟨k, l, ⟨a, f, rfl, h1, h2⟩, ⟨b, g, rfl, g1, g2⟩, q⟩ := h
  cases rx
  cases ry
  have sp : ∀ {a f : Addr} {k : K3}, SqT X.K H a [.int k.1, .ref f] → SqT X.K H f [.int k.2.1, .int k.2.2] → IsSp3 s.heap (.ref a) k := fun {a f k} ht hf => by
    obtain ⟨i1, r1, p1, -⟩ := I.tuple ht
    obtain ⟨i2, r2, p2, -⟩ := I.tuple hf
    obtain ⟨u1, u2, rfl, ri, rj⟩ := vals2 r1
    obtain ⟨t1, rfl⟩ := ri
    obtain rfl : u2 = Value.ref f := rj
    obtain ⟨u3, u4, rfl, ri, rj⟩ := vals2 r2
    obtain ⟨t3, rfl⟩ := ri
    obtain ⟨t4, rfl⟩ := rj
    exact ⟨a, f, t1, t3, t4, rfl, p1, p2⟩
  have R := sp3_lt (A := X.A) (sp h1 h2) (sp g1 g2) hu
  exact (show wpAny (model X.prog X.w) X.A (compareOp .Lt (.ref a) (.ref b)) (EP X pins σ Q) X.xe s from R X.prog X.w X.xe (EP X pins σ Q) ⟨.bl _, H, I, rfl, q⟩)
/-! ### on data -/
def spk (k : K3) : D := .tup [.int k.1, .tup [.int k.2.1, .int k.2.2]]
def key3 : D → Option K3
  | .tup [.int k, .tup [.int n, .int d]] => some (k, n, d)
  | _ => none
def keys3 : List D → Option (List K3)
  | [] => some []
  | d :: ds => match key3 d, keys3 ds with
    | some k, some ks => some (k :: ks)
    | _, _ => none
def ins3 (x : K3) : List K3 → List K3
  | [] => [x]
  | y :: ys => if lex3 y x then y :: ins3 x ys else x :: y :: ys
def sort3 : List K3 → List K3
  | [] => []
  | x :: xs => ins3 x (sort3 xs)
def insI (x : Int) : List Int → List Int
  | [] => [x]
  | y :: ys => if y < x then y :: insI x ys else x :: y :: ys
def sortI : List Int → List Int
  | [] => []
  | x :: xs => insI x (sortI xs)
def sortedR : List D → Option R
  | [.lst ds] => match keys3 ds with
    | some ks => some (.ok (.own ((sort3 ks).map spk)))
    | none => match intsOf ds with
      | some is => some (.ok (.own ((sortI is).map D.int)))
      | none => none
  | _ => none
theorem ins3_perm (x : K3) : ∀ ys, (ins3 x ys).Perm (x :: ys)
  | [] => List.Perm.refl _
  | y :: ys => by
    unfold ins3
    split
    · exact ((ins3_perm x ys).cons y).trans (List.Perm.swap x y ys)
    · exact List.Perm.refl _
theorem sort3_perm : ∀ xs, (sort3 xs).Perm xs
  | [] => List.Perm.refl _
  | x :: xs => (ins3_perm x (sort3 xs)).trans ((sort3_perm xs).cons x)
theorem ins3_srtd (x : K3) : ∀ ys, SrtO.Srtd lex3 ys → SrtO.Srtd lex3 (ins3 x ys)
  | [], _ => List.pairwise_singleton _ _
  | y :: ys, h => by
    unfold ins3
    obtain ⟨h1, h2⟩ := List.pairwise_cons.mp h
    split
    · rename_i hyx
      refine List.pairwise_cons.mpr ⟨fun z hz => ?_, ins3_srtd x ys h2⟩
      rcases List.mem_cons.mp ((ins3_perm x ys).mem_iff.mp hz) with rfl | hz
      · exact (swo3 id).asym _ _ hyx
      · exact h1 z hz
    · rename_i hyx
      have hyx : lex3 y x = false := by simpa using hyx
      refine List.pairwise_cons.mpr ⟨fun z hz => ?_, h⟩
      rcases List.mem_cons.mp hz with rfl | hz
      · exact hyx
      · exact (swo3 id).tr x y z hyx (h1 z hz)
theorem sort3_srtd : ∀ xs, SrtO.Srtd lex3 (sort3 xs)
  | [] => List.Pairwise.nil
  | x :: xs => ins3_srtd x _ (sort3_srtd xs)
theorem srt3_one : ∀ {xs ys : List K3}, SrtO.Srtd lex3 xs → SrtO.Srtd lex3 ys → xs.Perm ys → xs = ys
  | [], ys, _, _, p => (List.Perm.eq_nil p.symm).symm
  | x :: xs, [], _, _, p => absurd p.length_eq (by simp)
  | x :: xs, y :: ys, hx, hy, p => by
    obtain ⟨h1, h2⟩ := List.pairwise_cons.mp hx
    obtain ⟨g1, g2⟩ := List.pairwise_cons.mp hy
    have e : x = y := by
      have a : lex3 x y = false := by
        rcases List.mem_cons.mp (p.mem_iff.mp (List.mem_cons_self (a := x) (l := xs))) with e | hm
        · rw [e]; exact (swo3 id).refl y
        · exact g1 x hm
      have b : lex3 y x = false := by
        rcases List.mem_cons.mp (p.mem_iff.mpr (List.mem_cons_self (a := y) (l := ys))) with e | hm
        · rw [e]; exact (swo3 id).refl x
        · exact h1 y hm
      exact lex3_antisymm a b
    subst e
    rw [srt3_one h2 g2 p.cons_inv]

theorem insI_perm (x : Int) : ∀ ys, (insI x ys).Perm (x :: ys)
  | [] => List.Perm.refl _
  | y :: ys => by
    unfold insI
    split
    · exact ((insI_perm x ys).cons y).trans (List.Perm.swap x y ys)
    · exact List.Perm.refl _
theorem sortI_perm : ∀ xs, (sortI xs).Perm xs
  | [] => List.Perm.refl _
  | x :: xs => (insI_perm x (sortI xs)).trans ((sortI_perm xs).cons x)
theorem insI_srtd (x : Int) : ∀ ys : List Int, ys.Pairwise (· ≤ ·) → (insI x ys).Pairwise (· ≤ ·)
  | [], _ => List.pairwise_singleton _ _
  | y :: ys, h => by
    unfold insI
    obtain ⟨h1, h2⟩ := List.pairwise_cons.mp h
    split
    · rename_i hyx
      refine List.pairwise_cons.mpr ⟨fun z hz => ?_, insI_srtd x ys h2⟩
      rcases List.mem_cons.mp ((insI_perm x ys).mem_iff.mp hz) with rfl | hz
      · omega
      · exact h1 z hz
    · rename_i hyx
      refine List.pairwise_cons.mpr ⟨fun z hz => ?_, h⟩
      rcases List.mem_cons.mp hz with rfl | hz
      · omega
      · have := h1 z hz; omega
theorem sortI_srtd : ∀ xs : List Int, (sortI xs).Pairwise (· ≤ ·)
  | [] => List.Pairwise.nil
  | x :: xs => insI_srtd x _ (sortI_srtd xs)
theorem srtI_one : ∀ {xs ys : List Int}, xs.Pairwise (· ≤ ·) → ys.Pairwise (· ≤ ·) → xs.Perm ys → xs = ys
  | [], ys, _, _, p => (List.Perm.eq_nil p.symm).symm
  | x :: xs, [], _, _, p => absurd p.length_eq (by simp)
  | x :: xs, y :: ys, hx, hy, p => by
    obtain ⟨h1, h2⟩ := List.pairwise_cons.mp hx
    obtain ⟨g1, g2⟩ := List.pairwise_cons.mp hy
    have e : x = y := by
      have a : y ≤ x := by
        rcases List.mem_cons.mp (p.mem_iff.mp (List.mem_cons_self (a := x) (l := xs))) with e | hm
        · omega
        · exact g1 x hm
      have b : x ≤ y := by
        rcases List.mem_cons.mp (p.mem_iff.mpr (List.mem_cons_self (a := y) (l := ys))) with e | hm
        · omega
        · exact h1 y hm
      omega
    subst e
    rw [srtI_one h2 g2 p.cons_inv]
theorem key3_rep {K : PySem.W.Frag} {F : Hp} {d : D} {v : V} {k : K3} (h : key3 d = some k) (r : Rep K F d v) : d = spk k ∧ IsK3 K F v k := by
  unfold key3 at h
  split at h
  · cases h
    cases r with | tup q r =>
      cases r with | cons a b => cases b with | cons b c =>
        cases c
        cases a
        cases b with | tup q2 r2 =>
          cases r2 with | cons a b => cases b with | cons b c =>
            cases c; cases a; cases b
            exact ⟨rfl, _, _, rfl, q, q2⟩
  · cases h
theorem keys3_rep {K : PySem.W.Frag} {F : Hp} : ∀ {ds : List D} {vs : List V} {ks : List K3}, keys3 ds = some ks → RepL K F ds vs → All2 K F vs ks ∧ ds = ks.map spk
  | [], _, _, h, r => by cases h; cases r; exact ⟨trivial, rfl⟩
  | d :: ds, _, ks, h, r => by
    cases r with | cons a b =>
      unfold keys3 at h
      split at h
      · rename_i k ks' h1 h2
        cases h
        obtain ⟨e1, e2⟩ := key3_rep h1 a
        obtain ⟨e3, e4⟩ := keys3_rep h2 b
        exact ⟨⟨e2, e3⟩, by rw [e1, e4]; rfl⟩
      · cases h
theorem All2.mono {K : PySem.W.Frag} {F H : Hp} (s : Same F H) : ∀ {xs : List V} {ks : List K3}, All2 K F xs ks → All2 K H xs ks
  | [], [], _ => trivial
  | _ :: _, _ :: _, ⟨⟨a, f, e, h1, h2⟩, r⟩ => ⟨⟨a, f, e, seqT_mono s h1, seqT_mono s h2⟩, All2.mono s r⟩
  | [], _ :: _, h => h.elim
  | _ :: _, [], h => h.elim
theorem zip_rep {K : PySem.W.Frag} {F : Hp} : ∀ {ks : List K3} {vs : List V}, RepL K F (ks.map spk) vs → ∀ p ∈ vs.zip ks, Rep K F (spk p.2) p.1
  | [], _, r, p, hp => by cases r; simp at hp
  | k :: ks, _, r, p, hp => by
    cases r with | cons a b =>
      rw [List.zip_cons_cons] at hp
      rcases List.mem_cons.mp hp with rfl | hp
      · exact a
      · exact zip_rep b p hp
theorem pairs_rep {K : PySem.W.Frag} {F : Hp} : ∀ {ps : List (V × K3)}, (∀ p ∈ ps, Rep K F (spk p.2) p.1) → RepL K F ((ps.map (·.2)).map spk) (ps.map (·.1))
  | [], _ => .nil
  | p :: ps, h => .cons (h p List.mem_cons_self) (pairs_rep fun q hq => h q (List.mem_cons_of_mem _ hq))
theorem zip_snd {vs : List V} : ∀ {ks : List K3}, vs.length = ks.length → (vs.zip ks).map (·.2) = ks := fun {ks} h => by
  induction vs generalizing ks with
  | nil => cases ks with
    | nil => rfl
    | cons _ _ => simp at h
  | cons v vs ih => cases ks with
    | nil => simp at h
    | cons k ks => simp [ih (by simpa using h)]
section
variable {X : Cx} {C : FR}
theorem hu66 {k : Nat} {A : Around} (r : Room k A) : A.units + 66 < cLine := by have := r.un; omega
theorem b_sorted (ft : Fit X C) (hu : X.A.units + 66 < cLine) : Blt X C (.builtin "sorted") sortedR := by
  intro σ ρ F H ds vs Q G r h
  unfold sortedR at h
  split at h
  · split at h
    · rename_i ds ks e
      cases r with | cons p q => cases q; cases p with | lst q r =>
          obtain ⟨a2, e2⟩ := keys3_rep e r
          have rr := r
          rw [e2] at rr
          have zr := zip_rep rr
          have hl := rr.len
          rw [List.length_map] at hl
          refine ⟨_, cr_sorted3 hu, _, _, ks, rfl, by rw [ft.K]; exact SqL.of (G.fh _ _ q), by rw [ft.K]; exact a2.mono G.fh, fun ps p hs hp hn => ?_⟩
          have e3 : ps.map (·.2) = sort3 ks := by
            refine srt3_one hs (sort3_srtd ks) ?_
            have := hp.map (·.2)
            rw [zip_snd hl.symm] at this
            exact this.trans (sort3_perm ks).symm
          rw [← e3] at h
          exact PostE.newOwn h G hn (pairs_rep fun p hp' => zr p (hp.mem_iff.mp hp'))
    · split at h
      · rename_i is e
        cases r with | cons p q => cases q; cases p with | lst q r =>
            have e1 := intsOf_eq e
            subst e1
            refine ⟨_, cr_sortedI, _, is, rfl, by rw [← r.ints]; exact SqL.of (G.fh _ _ q), fun ns' p hp hs hn => ?_⟩
            have e3 : ns' = sortI is := srtI_one hs (sortI_srtd is) (hp.trans (sortI_perm is).symm)
            rw [e3]
            exact PostE.newOwn h G hn (RepL.ofInts _)
      · exact none_post h
  · exact none_post h
end
end PT
/-! PT: an own list is read by a test or a flat expression, and stays one's own. -/
namespace PT
open PySem PySem.Spec PyProof.Rows L2
def cLend (i : Nat) (c : CF) : CF := fun ρ => match ρ[i]? with
  | some (some (.own xs)) => match c (ρ.set i (some (.d (.lst xs)))) with
    | some (.ok b) => some (.ok b)
    | _ => none
  | _ => none
def eLend (i : Nat) (f : EF) : EF := fun ρ => match ρ[i]? with
  | some (some (.own xs)) => match f (ρ.set i (some (.d (.lst xs)))) with
    | some (.ok (.d x)) => if flatD x then okD x else none
    | _ => none
  | _ => none
section
variable {X : Cx} {C : FR} {e : Expr} {f : EF} {c : CF}
theorem Good.lend {F H : Hp} {σ : St} {ρ : En} {i : Nat} {xs : List D} (G : Good C F H σ ρ) (e : ρ[i]? = some (some (.own xs))) : ∃ F', Good C F' H σ (ρ.set i (some (.d (.lst xs)))) ∧ Same F F' := by
  obtain ⟨v, e2, q⟩ := G.at_ i _ e
  obtain ⟨p, vs, rfl, hp, rl, fp, h0⟩ := q
  have hil : i < ρ.length := (List.getElem?_eq_some_iff.mp e).1
  have G0 : Good C F H σ (ρ.set i none) := by
    refine ⟨G.fh, G.h0, G.f0, G.nw, by simp [G.len], fun j sv z => ?_, fun j k as bs q hjk z1 z2 z3 z4 => ?_⟩
    · by_cases hij : i = j
      · subst hij; rw [List.getElem?_set_self hil] at z; cases z
      · rw [List.getElem?_set_ne hij] at z; exact G.at_ j sv z
    · by_cases hij : i = j
      · subst hij; rw [List.getElem?_set_self hil] at z1; cases z1
      · by_cases hik : i = k
        · subst hik; rw [List.getElem?_set_self hil] at z2; cases z2
        · rw [List.getElem?_set_ne hij] at z1; rw [List.getElem?_set_ne hik] at z2; exact G.ap j k as bs q hjk z1 z2 z3 z4
  obtain ⟨F2, g2, s2, q2⟩ := G0.freeze (xs := xs) (v := .ref p) ⟨p, vs, rfl, hp, rl, fp, h0⟩ (fun xs' _ j ys z1 z2 => by
    by_cases hij : i = j
    · subst hij; rw [List.getElem?_set_self hil] at z1; cases z1
    · rw [List.getElem?_set_ne hij] at z1; exact G.ap i j xs ys p hij e z1 e2 z2)
  have g3 := g2.set i (sv := .d (.lst xs)) q2 Apart.d
  have e3 : σ.set i (some (.ref p)) = σ := by
    apply List.ext_getElem? ; intro j
    by_cases hij : i = j
    · subst hij; rw [List.getElem?_set_self (by rw [← G.len]; exact hil), e2]
    · rw [List.getElem?_set_ne hij]
  rw [e3, List.set_set] at g3
  exact ⟨F2, g3, s2⟩
/-- given back -/
theorem Step.unlend {F F1 H F' H' : Hp} {σ : St} {ρ ρ1 : En} (G : Good C F H σ ρ) (s : Same F F1) (st : Step C σ ρ1 F1 H F' H') : Step C σ ρ F H F H' := by
  refine ⟨⟨(s.trans st.s).trans st.g.fh, st.g.h0, G.f0, G.nw, G.len, fun j sv z => ?_, G.ap⟩, Same.refl F, st.t, fun b o z => .inl z⟩
  obtain ⟨v, e1, q⟩ := G.at_ j sv z
  refine ⟨v, e1, ?_⟩
  cases sv with
  | d x => exact q
  | own ys =>
    obtain ⟨a, vs, rfl, ha, rl, fa, h0⟩ := q
    exact ⟨a, vs, rfl, st.t _ _ ha, rl, fa, h0⟩
theorem lT_lend {i : Nat} {σ : St} {H : Hp} {Q : Bool → Hp → Prop} : lT C (cLend i c) σ H Q → lT C c σ H Q := by
  rintro ⟨ρ, F, G, h⟩
  have h : PostB C σ ρ F H (match ρ[i]? with
    | some (some (.own xs)) => match c (ρ.set i (some (.d (.lst xs)))) with
      | some (.ok b) => some (.ok b)
      | _ => none
    | _ => none) Q := h
  cases e : ρ[i]? with
  | none => rw [e] at h; exact h.elim
  | some o =>
    cases o with
    | none => rw [e] at h; exact h.elim
    | some sv =>
      cases sv with
      | d x => rw [e] at h; exact h.elim
      | own xs =>
        rw [e] at h
        obtain ⟨F1, G1, s1⟩ := G.lend e
        refine ⟨_, F1, G1, ?_⟩
        have h : PostB C σ ρ F H (match c (ρ.set i (some (.d (.lst xs)))) with
          | some (.ok b) => some (.ok b)
          | _ => none) Q := h
        cases e2 : c (ρ.set i (some (.d (.lst xs)))) with
        | none => rw [e2] at h; exact h.elim
        | some r => cases r with
          | ex x p => rw [e2] at h; exact h.elim
          | ok b =>
            rw [e2] at h
            exact fun F' H' st => h F H' (st.unlend G s1)
theorem t_lend (i : Nat) (h : L2.PT X e (lT C c)) : L2.PT X e (lT C (cLend i c)) := PT.imp (fun _ _ _ => lT_lend) h
theorem rep_flat {K : PySem.W.Frag} {F F' : Hp} {x : D} {v : V} (h : flatD x = true) (r : Rep K F x v) : Rep K F' x v := by
  cases x <;> first | (cases r; constructor; done) | (exact absurd h (by simp [flatD]))
theorem x_lend (i : Nat) (h : PE X e (lE C f)) : PE X e (lE C (eLend i f)) := by
  refine PE.imp ?_ h
  rintro σ H Q ⟨ρ, F, G, h⟩
  have h : PostE C σ ρ F H (match ρ[i]? with
    | some (some (.own xs)) => match f (ρ.set i (some (.d (.lst xs)))) with
      | some (.ok (.d x)) => if flatD x then okD x else none
      | _ => none
    | _ => none) Q := h
  cases e : ρ[i]? with
  | none => rw [e] at h; exact h.elim
  | some o =>
    cases o with
    | none => rw [e] at h; exact h.elim
    | some sv =>
      cases sv with
      | d x => rw [e] at h; exact h.elim
      | own xs =>
        rw [e] at h
        obtain ⟨F1, G1, s1⟩ := G.lend e
        refine ⟨_, F1, G1, ?_⟩
        have h : PostE C σ ρ F H (match f (ρ.set i (some (.d (.lst xs)))) with
          | some (.ok (.d x)) => if flatD x then okD x else none
          | _ => none) Q := h
        cases e2 : f (ρ.set i (some (.d (.lst xs)))) with
        | none => rw [e2] at h; exact h.elim
        | some r => cases r with
          | ex x p => rw [e2] at h; exact h.elim
          | ok sv => cases sv with
            | own ys => rw [e2] at h; exact h.elim
            | d x =>
              rw [e2] at h
              have h : PostE C σ ρ F H (if flatD x then okD x else none) Q := h
              cases hx : flatD x with
              | false => rw [hx] at h; exact h.elim
              | true =>
                rw [hx] at h
                have h : PostE C σ ρ F H (some (.ok (.d x))) Q := h
                exact fun v F' H' st r => h v F H' (st.unlend G s1) (rep_flat hx r)
end
end PT
/-! PT: xs[i] = v of an own list. -/
namespace PT
open PySem PySem.Spec PyProof.Rows L2
/-- the list with an item changed -/
def putI (xs : List D) (n : Int) (v : D) : Option (List D) := match L2.ixN xs.length n with
  | some m => some (xs.set m v)
  | none => none
def wSt (i : Nat) (fi fv : EF) : SF := fun P ρ => wR (fv ρ) (fun sv => match ρ[i]? with
  | some (some (.own xs)) => wR (fi ρ) (fun j => match toD j with
    | .int n => match putI xs n (toD sv) with
      | some ys => P.nx (ρ.set i (some (.own ys)))
      | none => False
    | _ => False) P.ex
  | _ => False) P.ex
theorem RepL.put {K : PySem.W.Frag} {F : Hp} {d : D} {v : V} (r : Rep K F d v) : ∀ {ds : List D} {vs : List V} (m : Nat), RepL K F ds vs → RepL K F (ds.set m d) (vs.set m v)
  | [], _, m, h => by cases h; exact .nil
  | x :: ds, _, 0, h => by cases h with | cons a b => exact .cons r b
  | x :: ds, _, m + 1, h => by cases h with | cons a b => exact .cons a (RepL.put r m b)
section
variable {X : Cx} {C : FR} {e ix : Expr} {fi fv : EF} {pos pos' : Pos}
theorem s_st (i : Nat) {x : Str} {p : Pos} (hv : PE X e (lE C fv)) (hix : PE X ix (lE C fi)) (hN : X.N[i]? = some x := by rfl) (hvis : Vis X.env.scope x := by first | exact Or.inl rfl | exact Or.inr (Or.inl rfl) | exact Or.inr (Or.inr rfl)) (hd : (x == ("__debug__" : Str)) = false := by decide)
    (hcd : (x == ("__classdict__" : Str)) = false := by decide)
    (ha : ∀ v, assign (.Subscript (.Name x p) ix pos') X.env v = (do
      let ov ← holding [v] (eval (.Name x p) X.env)
      let iv ← holding [v, ov] (eval ix X.env)
      standAt pos'
      holding [v, ov, iv] (setItem ov iv v)
      release [v, ov, iv] []) := by intro _; rfl)
    (hs : swapsWithSole [.Subscript (.Name x p) ix pos'] e pos.line X.env = pure false := by rfl) (hw : swappedStores [.Subscript (.Name x p) ix pos'] e X.env = pure none := by rfl)
    (h1 : (assignEach [.Subscript (.Name x p) ix pos'] X.env).map (·.2) = [assign (.Subscript (.Name x p) ix pos') X.env] := by rfl) :
    PS X (.Assign [.Subscript (.Name x p) ix pos'] e pos) (lS C (wSt i fi fv)) := by
  refine PS.imp ?_ (ps_asg hv (pg_sub (pe_var hN hvis hd hcd) hix set_list ha) hs hw h1)
  rintro D σ H ⟨ρ, F, P, G, h, ft⟩
  refine lS_E G ft h fun sv v F' H' st q k => ?_
  obtain ⟨F2, s2, q2⟩ := st.data G q
  have ft2 := ft.up s2.s
  -- the list
  cases e1 : ρ[i]? with
  | none => rw [e1] at k; exact k.elim
  | some o =>
    cases o with
    | none => rw [e1] at k; exact k.elim
    | some sv1 =>
      cases sv1 with
      | d x => rw [e1] at k; exact k.elim
      | own xs =>
        rw [e1] at k
        obtain ⟨w, e2, p', vs, rfl, hp, rl, fp, h0⟩ := s2.g.at_ i _ e1
        refine ⟨_, e2, ?_⟩
        refine lS_E s2.g ft2 k fun sj vj F'' H'' st' q' k' => ?_
        obtain ⟨F3, s3, q3⟩ := st'.data s2.g q'
        have k' : (match toD sj with
          | .int n => match putI xs n (toD sv) with
            | some ys => P.nx (ρ.set i (some (.own ys)))
            | none => False
          | _ => False) := k'
        generalize toD sj = y at k' q3
        cases y with
        | int n =>
          have k' : (match putI xs n (toD sv) with
            | some ys => P.nx (ρ.set i (some (.own ys)))
            | none => False) := k'
          unfold putI at k'
          obtain ⟨w2, e3, p2, vs2, ev, hp2, rl2, fp2, h02⟩ := s3.g.at_ i _ e1
          rw [e2] at e3
          cases e3
          cases ev
          cases q3
          cases e4 : L2.ixN xs.length n with
          | none => rw [e4] at k'; exact k'.elim
          | some m =>
            rw [e4] at k'
            refine ⟨p', vs2, n, m, rfl, rfl, hp2, by rw [← rl2.len]; exact e4, ?_⟩
            exact ft2.nx _ _ F3 _ (s3.g.write e1 e2 (RepL.put (Rep.mono s3.s _ _ q2) m rl2)) s3.s k'
        | non => exact k'.elim
        | bl _ => exact k'.elim
        | str _ => exact k'.elim
        | tup _ => exact k'.elim
        | lst _ => exact k'.elim
        | scr _ => exact k'.elim
        | raw _ => exact k'.elim
end
instance {i : Nat} {fi fv : EF} : Det (wSt i fi fv) := ⟨fun {P Q p ρ} t h h' => wR_two (fun sv x y => by
  revert x y
  generalize ρ[i]? = o
  rcases o with _ | _ | ⟨x⟩ | ⟨xs⟩
  · exact fun x => x.elim
  · exact fun x => x.elim
  · exact fun x => x.elim
  · exact fun x y => wR_two (fun sj x y => by
      revert x y
      generalize toD sj = z
      cases z with
      | int n =>
        intro x y
        have x : (match putI xs n (toD sv) with
          | some ys => P.nx (ρ.set i (some (.own ys)))
          | none => False) := x
        have y : (match putI xs n (toD sv) with
          | some ys => Q.nx (ρ.set i (some (.own ys)))
          | none => False) := y
        revert x y
        generalize putI xs n (toD sv) = o
        cases o with
        | some ys => exact t.nx _
        | none => exact fun x => x.elim
      | non => exact fun x => x.elim
      | bl _ => exact fun x => x.elim
      | str _ => exact fun x => x.elim
      | tup _ => exact fun x => x.elim
      | lst _ => exact fun x => x.elim
      | scr _ => exact fun x => x.elim
      | raw _ => exact fun x => x.elim) t.ex x y) t.ex h h'⟩
theorem st_body {P : PD} {ρ : En} {i : Nat} {fi fv : EF} : wSt i fi fv P ρ ↔ (∃ x o, fv ρ = some (.ex x o) ∧ P.ex x o) ∨ (∃ sv xs, fv ρ = some (.ok sv) ∧ ρ[i]? = some (some (.own xs)) ∧ ((∃ x o, fi ρ = some (.ex x o) ∧ P.ex x o) ∨ ∃ sj n ys, fi ρ = some (.ok sj) ∧ toD sj = .int n ∧ putI xs n (toD sv) = some ys ∧ P.nx (ρ.set i (some (.own ys))))) := by
  unfold wSt
  constructor
  · intro h
    cases e : fv ρ with
    | none => rw [e] at h; exact h.elim
    | some r => cases r with
      | ex x o => rw [e] at h; exact .inl ⟨x, o, rfl, h⟩
      | ok sv =>
        rw [e] at h
        refine .inr ?_
        have h : (match ρ[i]? with
          | some (some (.own xs)) => wR (fi ρ) (fun j => match toD j with
            | .int n => match putI xs n (toD sv) with
              | some ys => P.nx (ρ.set i (some (.own ys)))
              | none => False
            | _ => False) P.ex
          | _ => False) := h
        cases e1 : ρ[i]? with
        | none => rw [e1] at h; exact h.elim
        | some o => cases o with
          | none => rw [e1] at h; exact h.elim
          | some s1 => cases s1 with
            | d x => rw [e1] at h; exact h.elim
            | own xs =>
              rw [e1] at h
              refine ⟨sv, xs, rfl, rfl, ?_⟩
              have h : wR (fi ρ) (fun j => match toD j with
                | .int n => match putI xs n (toD sv) with
                  | some ys => P.nx (ρ.set i (some (.own ys)))
                  | none => False
                | _ => False) P.ex := h
              cases e2 : fi ρ with
              | none => rw [e2] at h; exact h.elim
              | some r => cases r with
                | ex x o => rw [e2] at h; exact .inl ⟨x, o, rfl, h⟩
                | ok sj =>
                  rw [e2] at h
                  have h : (match toD sj with
                    | .int n => match putI xs n (toD sv) with
                      | some ys => P.nx (ρ.set i (some (.own ys)))
                      | none => False
                    | _ => False) := h
                  refine .inr ⟨sj, ?_⟩
                  generalize toD sj = z at h ⊢
                  cases z with
                  | int n =>
                    have h : (match putI xs n (toD sv) with
                      | some ys => P.nx (ρ.set i (some (.own ys)))
                      | none => False) := h
                    cases e3 : putI xs n (toD sv) with
                    | none => rw [e3] at h; exact h.elim
                    | some ys => rw [e3] at h; exact ⟨n, ys, rfl, rfl, e3, h⟩
                  | non => exact h.elim
                  | bl _ => exact h.elim
                  | str _ => exact h.elim
                  | tup _ => exact h.elim
                  | lst _ => exact h.elim
                  | scr _ => exact h.elim
                  | raw _ => exact h.elim
  · rintro (⟨x, o, e, h⟩ | ⟨sv, xs, e, e1, h⟩)
    · rw [e]; exact h
    · rw [e]
      show (match ρ[i]? with
        | some (some (.own xs)) => wR (fi ρ) (fun j => match toD j with
          | .int n => match putI xs n (toD sv) with
            | some ys => P.nx (ρ.set i (some (.own ys)))
            | none => False
          | _ => False) P.ex
        | _ => False)
      rw [e1]
      rcases h with ⟨x, o, e2, h⟩ | ⟨sj, n, ys, e2, e3, e4, h⟩
      · show wR (fi ρ) _ P.ex
        rw [e2]; exact h
      · show wR (fi ρ) _ P.ex
        rw [e2]
        show (match toD sj with
          | .int n => match putI xs n (toD sv) with
            | some ys => P.nx (ρ.set i (some (.own ys)))
            | none => False
          | _ => False)
        rw [e3]
        show (match putI xs n (toD sv) with
            | some ys => P.nx (ρ.set i (some (.own ys)))
            | none => False)
        rw [e4]; exact h
instance {i : Nat} {fi fv : EF} : Out (wSt i fi fv) := by
  refine ⟨fun {P Q ρ} t h => ?_, fun {P ρ} h => ?_⟩
  · rw [st_body] at h ⊢
    rcases h with ⟨x, o, e, h⟩ | ⟨sv, xs, e, e1, ⟨x, o, e2, h⟩ | ⟨sj, n, ys, e2, e3, e4, h⟩⟩
    · exact .inl ⟨x, o, e, t.ex _ _ h⟩
    · exact .inr ⟨sv, xs, e, e1, .inl ⟨x, o, e2, t.ex _ _ h⟩⟩
    · exact .inr ⟨sv, xs, e, e1, .inr ⟨sj, n, ys, e2, e3, e4, t.nx _ h⟩⟩
  · rcases st_body.mp h with ⟨x, o, e, h⟩ | ⟨sv, xs, e, e1, ⟨x, o, e2, h⟩ | ⟨sj, n, ys, e2, e3, e4, h⟩⟩
    · exact .ex x o h (st_body.mpr (.inl ⟨x, o, e, rfl, rfl⟩))
    · exact .ex x o h (st_body.mpr (.inr ⟨sv, xs, e, e1, .inl ⟨x, o, e2, rfl, rfl⟩⟩))
    · exact .nx _ h (st_body.mpr (.inr ⟨sv, xs, e, e1, .inr ⟨sj, n, ys, e2, e3, e4, rfl⟩⟩))
theorem z_st {P : PD} {ρ : En} {i : Nat} {fi fv : EF} {xs ys : List D} {sv : SV} {n : Int} (h0 : ρ[i]? = some (some (.own xs))) (hv : fv ρ = some (.ok sv)) (hi : fi ρ = some (.ok (.d (.int n)))) (hp : putI xs n (toD sv) = some ys) (k : P.nx (ρ.set i (some (.own ys)))) : wSt i fi fv P ρ :=
  st_body.mpr (.inr ⟨sv, xs, hv, h0, .inr ⟨_, n, ys, hi, rfl, hp, k⟩⟩)
theorem q_st {P : PD} {ρ : En} {i : Nat} {fi fv : EF} {w : SF} {xs ys : List D} {sv : SV} {n : Int} (h0 : ρ[i]? = some (some (.own xs))) (hv : fv ρ = some (.ok sv)) (hi : fi ρ = some (.ok (.d (.int n)))) (hp : putI xs n (toD sv) = some ys) (k : w P (ρ.set i (some (.own ys)))) : wSeq (wSt i fi fv) w P ρ := z_st h0 hv hi hp k
end PT
/-! enumerate(a list), walked by a for loop -/
namespace PT
open PySem PySem.Spec PyProof.Rows L2
def enumD : Nat → List D → List D
  | _, [] => []
  | i, d :: ds => .tup [.int (i : Int), d] :: enumD (i + 1) ds
def enumL : List D → Option RL
  | [.lst as] => some (.ok (enumD 0 as))
  | _ => none
theorem enumD_get : ∀ {as : List D} {j i : Nat} {d : D}, (enumD j as)[i]? = some d → ∃ x, as[i]? = some x ∧ d = .tup [.int ((j + i : Nat) : Int), x]
  | [], _, i, d, h => by simp [enumD] at h
  | a :: as, j, 0, d, h => by
    have h : some (D.tup [.int (j : Int), a]) = some d := h
    exact ⟨a, rfl, (Option.some.inj h).symm⟩
  | a :: as, j, i + 1, d, h => by
    obtain ⟨x, e1, e3⟩ := enumD_get (as := as) (j := j + 1) (i := i) (d := d) (by simpa [enumD] using h)
    exact ⟨x, by simpa using e1, by rw [e3]; congr 2; congr 1; omega⟩
theorem enumD_len : ∀ (j : Nat) (as : List D), (enumD j as).length = as.length
  | _, [] => rfl
  | j, a :: as => by simp only [enumD, List.length_cons, enumD_len (j + 1) as]
theorem yields_enum {K : PySem.W.Frag} {F0 : Hp} {as : List D} {xs : List V} {J : It} (r1 : RepL K F0 as xs)
    (h : ∀ i H, Same F0 H → (∀ x, xs[i]? = some x → J.go i H ∧ ∀ v H', J.yld i H v H' → ∃ T, v = .ref T ∧ H T = none ∧ H' = upd H T (.tup [.int (i : Nat), x])) ∧ (xs.length ≤ i → J.stop i H)) : Yields K J F0 (enumD 0 as) := by
  intro i F H s t
  obtain ⟨h1, h2⟩ := h i H (s.trans t)
  refine ⟨fun d e => ?_, fun hi => h2 (by rw [enumD_len] at hi; rw [← r1.len]; omega)⟩
  obtain ⟨x, e1, rfl⟩ := enumD_get e
  obtain ⟨v, e3, q1⟩ := r1.get e1
  obtain ⟨go, yl⟩ := h1 v e3
  refine ⟨go, fun z H' hz => ?_⟩
  obtain ⟨T, rfl, hT, rfl⟩ := yl z H' hz
  have fT : F T = none := t.free hT
  have sm : Same F (upd F T (.tup [.int (i : Nat), v])) := same_upd fT
  rw [Nat.zero_add]
  refine ⟨upd F T (.tup [.int (i : Nat), v]), sm, fun b o z => ?_, same_upd hT, fun b o z => ?_, .tup (SqT.of upd_same) (.cons (.int _) (.cons (Rep.mono (s.trans sm) _ _ q1) .nil))⟩
  · by_cases hb : b = T
    · subst hb; rw [upd_same] at z ⊢; exact z
    · rw [upd_ne hb] at z ⊢; exact t b o z
  · by_cases hb : b = T
    · subst hb; exact .inr hT
    · rw [upd_ne hb] at z; exact .inl z
section
variable {X : Cx} {C : FR} {e a tg : Expr} {ff : AF} {pos : Pos}
theorem i_enum {p tpos : Pos} {elts : List Expr} {kk : Nat} (ft : Fit X C) (hm : C.mg "enumerate" = none) (ha : PA X [a] (lA C ff)) (hg : Gl X "enumerate" := by rfl) (hs : starEach [a] X.env = [(false, eval a X.env)] := by rfl) :
    PI X (.Tuple elts kk tpos) (.Call (.Name "enumerate" p) [a] [] pos) (lI C (itA enumL ff)) := by
  refine PI.imp ?_ (pi_enum hg (by rw [ft.mg]; exact hm) ha hs)
  intro σ H R h
  refine lI_A (fun ρ F H us vs G r h => ?_) h
  unfold enumL at h
  split at h
  · cases r with | cons p q =>
      cases q
      cases p with | lst q1 r1 =>
        refine ⟨_, _, rfl, SqL.of (G.fh _ _ q1), ?_⟩
        rw [ft.K]
        refine PostI.ok h G (yields_enum r1 fun i H s => ⟨fun x e1 => ⟨⟨_, x, SqL.of (s _ _ q1), e1⟩, fun v H' ⟨T, x', ev, hT, eH, k1⟩ => ⟨T, ev, hT, ?_⟩⟩, fun hi => ⟨_, SqL.of (s _ _ q1), hi⟩⟩)
        have z1 := k1 _ (SqL.of (s _ _ q1))
        rw [e1] at z1
        cases z1
        exact eH
  · exact h.elim
end
end PT
/-! a part of a list -/
namespace PT
open PySem PySem.Spec PyProof.Rows L2
def optB (fo : Option EF) (ρ : En) (k : Option Int → Option R) : Option R := match fo with
  | none => k none
  | some f => bindR (f ρ) fun y => match y with
    | .int n => k (some n)
    | _ => none
def slR (x : D) (l h : Option Int) : Option R := match x with
  | .lst ds => some (.ok (.own (cutD ds l h)))
  | .tup ds => if HT.sIx ds.length 0 l = 0 ∧ HT.sIx ds.length ds.length h = ds.length then none else okD (.tup (cutD ds l h))
  | _ => none
def eSl (fa : EF) (lo hi : Option EF) : EF := fun ρ => bindR (fa ρ) fun x => optB lo ρ fun l => optB hi ρ fun h => slR x l h
def lO (C : FR) (fo : Option EF) : TO := fun σ H Q => ∃ ρ F, Good C F H σ ρ ∧ match fo with
  | none => Q none H
  | some f => PostE C σ ρ F H (f ρ) fun v H1 => ∃ i, v = .int i ∧ Q (some i) H1
section
variable {X : Cx} {C : FR} {e lo hi : Expr} {fa f : EF} {fl fh : Option EF} {pos p2 : Pos} {el eh : Option Expr}
theorem PO.imp {eo : Option Expr} {t t' : TO} (h : ∀ σ H Q, t' σ H Q → t σ H Q) (p : PO X eo t) : PO X eo t' := ⟨fun pins s σ H Q I q => p.run pins s σ H Q I (h σ H Q q)⟩
theorem po_n : PO X none (lO C none) := PO.imp (fun σ H Q ⟨_, _, _, h⟩ => h) po_none
theorem po_s (h : PE X e (lE C f)) : PO X (some e) (lO C (some f)) := PO.imp (fun σ H Q ⟨ρ, F, G, h⟩ => ⟨ρ, F, G, h⟩) (po_some h)
theorem lO_bind {σ : St} {ρ : En} {F H : Hp} {Q : VK} {fo : Option EF} {k : Option Int → Option R} {S : Option Int → Hp → Prop} (G : Good C F H σ ρ) (h : PostE C σ ρ F H (optB fo ρ k) Q) (kk : ∀ F2 H2 l, Good C F2 H2 σ ρ → Same F F2 → PostE C σ ρ F2 H2 (k l) Q → S l H2) : lO C fo σ H S := by
  refine ⟨ρ, F, G, ?_⟩
  cases fo with
  | none => exact kk F H none G (Same.refl F) h
  | some f =>
    have h0 : PostE C σ ρ F H (bindR (f ρ) fun y => match y with
      | .int n => k (some n)
      | _ => none) Q := h
    have h1 := PostE.bind G h0
    show PostE C σ ρ F H (f ρ) _
    cases e : f ρ with
    | none => rw [e] at h1; exact h1
    | some r =>
      rw [e] at h1
      cases r with
      | ex x p => exact h1
      | ok sv =>
        intro v F' H' st q1
        obtain ⟨y, F1, st1, ry, h2⟩ := h1 v F' H' st q1
        cases y with
        | int n => cases ry; exact ⟨n, rfl, kk F1 H' (some n) st1.g st1.s h2⟩
        | _ => exact none_post h2
theorem cut_rep {K : PySem.W.Frag} {F : Hp} {ds : List D} {vs : List V} (r : RepL K F ds vs) (l h : Option Int) : RepL K F (cutD ds l h) (cutV vs l h) := by
  unfold cutD cutV
  rw [r.len]
  have dr : ∀ (n : Nat) {ds : List D} {vs : List V}, RepL K F ds vs → RepL K F (ds.drop n) (vs.drop n) := by
    intro n
    induction n with
    | zero => intro ds vs r; exact r
    | succ n ih => intro ds vs r; cases r with
      | nil => exact .nil
      | cons a b => exact ih b
  have tk : ∀ (n : Nat) {ds : List D} {vs : List V}, RepL K F ds vs → RepL K F (ds.take n) (vs.take n) := by
    intro n
    induction n with
    | zero => intro ds vs r; exact .nil
    | succ n ih => intro ds vs r; cases r with
      | nil => exact .nil
      | cons a b => exact .cons a (ih b)
  exact tk _ (dr _ r)
theorem x_sl (ft : Fit X C) (ha : PE X e (lE C fa)) (hl : PO X el (lO C fl)) (hh : PO X eh (lO C fh)) : PE X (.Subscript e (.Slice el eh none p2) pos) (lE C (eSl fa fl fh)) := by
  refine PE.imp ?_ (pe_slice (sl_list.or sl_tup) ha hl hh)
  rintro σ H Q ⟨ρ, F, G, h⟩
  refine ⟨ρ, F, G, ?_⟩
  have h0 : PostE C σ ρ F H (bindR (fa ρ) fun x => optB fl ρ fun l => optB fh ρ fun u => slR x l u) Q := h
  have h1 := PostE.bind G h0
  show PostE C σ ρ F H (fa ρ) _
  cases e : fa ρ with
  | none => rw [e] at h1; exact h1
  | some r =>
    rw [e] at h1
    cases r with
    | ex x p => exact h1
    | ok sv =>
      intro v F' H' st q1
      obtain ⟨x, F1, st1, rx, h2⟩ := h1 v F' H' st q1
      refine lO_bind st1.g h2 fun F2 H2 l G2 s2 h3 => lO_bind G2 h3 fun F3 H3 u G3 s3 h4 => ?_
      cases x with
      | lst ds => cases rx with | lst q r =>
        have q3 := (s2.trans s3) _ _ q
        exact .inl ⟨_, _, rfl, by rw [ft.K]; exact SqL.of (G3.fh _ _ q3), fun p hp => PostE.newOwn h4 G3 hp (cut_rep (RepL.mono (s2.trans s3) _ _ r) l u)⟩
      | tup ds => cases rx with | tup q r =>
        have h5 : PostE C σ ρ F3 H3 (if HT.sIx ds.length 0 l = 0 ∧ HT.sIx ds.length ds.length u = ds.length then none else okD (.tup (cutD ds l u))) Q := h4
        by_cases c : HT.sIx ds.length 0 l = 0 ∧ HT.sIx ds.length ds.length u = ds.length
        · rw [if_pos c] at h5; exact none_post h5
        · rw [if_neg c] at h5
          exact .inr ⟨_, _, rfl, by rw [ft.K]; exact seqT_mono G3.fh (seqT_mono (s2.trans s3) q), by rw [← r.len]; exact c, fun p hp => PostE.newTup h5 G3 hp (cut_rep (RepL.mono (s2.trans s3) _ _ r) l u)⟩
      | _ => exact none_post h4
end
end PT
/-! xs.pop(), xs.clear() on an own list -/
namespace PT
open PySem PySem.Spec PyProof.Rows L2
def wMth (i : Nat) (g : List D → Option (List D)) : SF := fun P ρ => match ρ[i]? with
  | some (some (.own xs)) => match g xs with
    | some ys => P.nx (ρ.set i (some (.own ys)))
    | none => False
  | _ => False
def popG (xs : List D) : Option (List D) := if xs = [] then none else some xs.dropLast
def clrG (_ : List D) : Option (List D) := some []
theorem mth_body {P : PD} {ρ : En} {i : Nat} {g : List D → Option (List D)} : wMth i g P ρ ↔ ∃ xs ys, ρ[i]? = some (some (.own xs)) ∧ g xs = some ys ∧ P.nx (ρ.set i (some (.own ys))) := by
  constructor
  · intro h
    unfold wMth at h
    split at h
    · rename_i xs e
      split at h
      · rename_i ys e2
        exact ⟨xs, ys, e, e2, h⟩
      · exact h.elim
    · exact h.elim
  · rintro ⟨xs, ys, e, e2, h⟩
    unfold wMth
    rw [e]
    show (match g xs with
      | some ys => P.nx (ρ.set i (some (.own ys)))
      | none => False)
    rw [e2]
    exact h
instance {i : Nat} {g : List D → Option (List D)} : Det (wMth i g) := ⟨fun {P Q p ρ} t h h' => by
  obtain ⟨xs, ys, e, e2, k⟩ := mth_body.mp h
  obtain ⟨xs', ys', e', e2', k'⟩ := mth_body.mp h'
  rw [e] at e'
  cases e'
  rw [e2] at e2'
  cases e2'
  exact t.nx _ k k'⟩
instance {i : Nat} {g : List D → Option (List D)} : Out (wMth i g) := by
  refine ⟨fun {P Q ρ} t h => ?_, fun {P ρ} h => ?_⟩
  · obtain ⟨xs, ys, e, e2, k⟩ := mth_body.mp h
    exact mth_body.mpr ⟨xs, ys, e, e2, t.nx _ k⟩
  · obtain ⟨xs, ys, e, e2, k⟩ := mth_body.mp h
    exact .nx _ k (mth_body.mpr ⟨xs, ys, e, e2, rfl⟩)
/-- a statement that is never reached -/
def wNever : SF := fun _ _ => False
instance : Det wNever := ⟨fun _ h _ => h.elim⟩
instance : Out wNever := ⟨fun _ h => h, fun h => h.elim⟩
theorem s_never {X : Cx} {C : FR} {st : Stmt} : PS X st (lS C wNever) := ⟨fun _ _ _ _ _ _ h => by obtain ⟨_, _, _, _, h, _⟩ := h; exact h.elim⟩
theorem drop_rep {K : PySem.W.Frag} {F : Hp} : ∀ {ds : List D} {vs : List V}, RepL K F ds vs → RepL K F ds.dropLast vs.dropLast
  | _, _, .nil => .nil
  | _, _, .cons _ .nil => .nil
  | _, _, .cons a (.cons b c) => .cons a (drop_rep (.cons b c))
section
variable {X : Cx} {C : FR} {pos : Pos}
theorem s_clear (i : Nat) {x : Str} {p apos cpos : Pos} (hN : X.N[i]? = some x := by rfl) (hv : Vis X.env.scope x := by first | exact Or.inl rfl | exact Or.inr (Or.inl rfl) | exact Or.inr (Or.inr rfl)) (hd : (x == ("__debug__" : Str)) = false := by decide)
    (hcd : (x == ("__classdict__" : Str)) = false := by decide) (hs : swapsWith (.Call (.Attribute (.Name x p) "clear" apos) [] [] cpos) none pos.line X.env = pure false := by rfl)
    (hbase : attributeBase (.Name x p) "clear" X.env (eval (.Name x p) X.env) = eval (.Name x p) X.env := by rfl)
    (hline : (apos.endLine == cpos.line) = true := by rfl) :
    PS X (.Expr (.Call (.Attribute (.Name x p) "clear" apos) [] [] cpos) pos) (lS C (wMth i clrG)) := by
  refine PS.imp ?_ (ps_expr (pe_bm0 PySem.F.plainAttrs_list PySem.F.slot_list_clear PySem.F.type_list_clear mt_clear (pe_var hN hv hd hcd) hbase hline) hs)
  rintro D σ H ⟨ρ, F, P, G, h, ft⟩
  obtain ⟨xs, ys, e, e2', k⟩ := mth_body.mp h
  cases e2'
  obtain ⟨v, e2, p, vs, rfl, hp, rl, fp, h0⟩ := G.at_ i _ e
  refine ⟨_, e2, .inl ⟨rfl, _, SqL.of hp⟩, ?_⟩
  exact ⟨p, vs, rfl, rfl, hp, ft.nx _ _ F _ (G.write e e2 .nil) (Same.refl F) k⟩
theorem s_pop (i : Nat) {x : Str} {p apos cpos : Pos} (hN : X.N[i]? = some x := by rfl) (hv : Vis X.env.scope x := by first | exact Or.inl rfl | exact Or.inr (Or.inl rfl) | exact Or.inr (Or.inr rfl)) (hd : (x == ("__debug__" : Str)) = false := by decide)
    (hcd : (x == ("__classdict__" : Str)) = false := by decide) (hs : swapsWith (.Call (.Attribute (.Name x p) "pop" apos) [] [] cpos) none pos.line X.env = pure false := by rfl)
    (hbase : attributeBase (.Name x p) "pop" X.env (eval (.Name x p) X.env) = eval (.Name x p) X.env := by rfl)
    (hline : (apos.endLine == cpos.line) = true := by rfl) :
    PS X (.Expr (.Call (.Attribute (.Name x p) "pop" apos) [] [] cpos) pos) (lS C (wMth i popG)) := by
  refine PS.imp ?_ (ps_expr (pe_bm0 PySem.F.plainAttrs_list PySem.F.slot_list_pop PySem.F.type_list_pop mt_pop (pe_var hN hv hd hcd) hbase hline) hs)
  rintro D σ H ⟨ρ, F, P, G, h, ft⟩
  obtain ⟨xs, ys, e, e2', k⟩ := mth_body.mp h
  unfold popG at e2'
  split at e2'
  · cases e2'
  · rename_i ne
    cases e2'
    obtain ⟨v, e2, p, vs, rfl, hp, rl, fp, h0⟩ := G.at_ i _ e
    refine ⟨_, e2, .inl ⟨rfl, _, SqL.of hp⟩, ?_⟩
    have ln := rl.len
    have n0 : xs.length ≠ 0 := fun z => ne (List.length_eq_zero_iff.mp z)
    have lt : vs.length - 1 < vs.length := by omega
    exact ⟨p, vs, vs[vs.length - 1], rfl, rfl, hp, List.getElem?_eq_getElem lt, ft.nx _ _ F _ (G.write e e2 (drop_rep rl)) (Same.refl F) k⟩
end
theorem z_clear {P : PD} {ρ : En} {i : Nat} {xs : List D} (h0 : ρ[i]? = some (some (.own xs))) (k : P.nx (ρ.set i (some (.own [])))) : wMth i clrG P ρ := mth_body.mpr ⟨xs, [], h0, rfl, k⟩
theorem q_clear {P : PD} {ρ : En} {i : Nat} {w : SF} {xs : List D} (h0 : ρ[i]? = some (some (.own xs))) (k : w P (ρ.set i (some (.own [])))) : wSeq (wMth i clrG) w P ρ := z_clear h0 k
theorem z_pop {P : PD} {ρ : En} {i : Nat} {xs : List D} {x : D} (h0 : ρ[i]? = some (some (.own (xs ++ [x])))) (k : P.nx (ρ.set i (some (.own xs)))) : wMth i popG P ρ := mth_body.mpr ⟨_, xs, h0, by unfold popG; rw [if_neg (by simp)]; simp, k⟩
theorem q_pop {P : PD} {ρ : En} {i : Nat} {w : SF} {xs : List D} {x : D} (h0 : ρ[i]? = some (some (.own (xs ++ [x])))) (k : w P (ρ.set i (some (.own xs)))) : wSeq (wMth i popG) w P ρ := z_pop h0 k
end PT
/-! PT: list(reversed(xs)), xs a list: a new list. -/
namespace PT
open PySem PySem.Spec PyProof.Rows L2 RT
section
variable {prog : Program} {w : World} {A : Around} {E : Value → Shared → Prop} {s : Shared}
theorem list_init_rev {R : Result → Shared → Prop} {S it l : Addr} {items : Array Value} (hh : A.handled = none) (hit : s.heap.IsRevIter it l ((items.size : Int) - 1)) (hl : s.heap.IsList l items) (hne : l ≠ it) (hn : items.size ≤ sizeLine) (hSi : S ≠ it) (hSl : S ≠ l)
    (hS : s.heap.get? S = some { cls := .type "list", data := .seq #[] })
    (hR : ∀ h' tk acc' c', (∀ b o, b ≠ S → b ≠ it → s.heap.get? b = some o → h'.get? b = some o) → h'.get? S = some { cls := .type "list", dict := none, data := .seq acc' c', slots := #[] } →
      ItemsOf (fun i v => items[items.size - 1 - i]? = some v) acc' items.size → R (.ok (.ret .none)) { s with heap := h', toks := tk }) :
    wpAny (model prog w) A.in1 (Builtin.«list.__init__» ⟨[.ref S, .ref it], []⟩)
      (fun fin s' => match fin with | .done f => R (.ok f) s' | .again c' => c'.quiet = true ∧ codeAny (model prog w) A c' R s') (fun e s' => R (.error e) s') s := by
  show wpAny _ _ (do let old ← Builtin.List.listItems (.ref S); Builtin.List.listUpdate (.ref S) (fun _ => #[]); letGo old.toList.reverse; Builtin.List.listExtendWith (.ref S) (.ref it) .none) _ _ s
  refine wpAny_bind ?_
  unfold Builtin.List.listItems
  refine wpAny_bind (wpAny_seqItems hS rfl (wpAny_pure ?_))
  show wpAny _ _ (updateSeq S (fun _ => #[]) >>= fun _ => letGo (#[] : Array Value).toList.reverse >>= fun _ => Builtin.List.listExtendWith (.ref S) (.ref it) .none) _ _ s
  refine wpAny_bind (wpAny_updateSeq hS rfl ?_)
  have g2 := Heap.get?_update_self (Obj.mapSeq (fun _ => (#[] : Array Value))) hS rfl
  have oth : ∀ b o, b ≠ S → s.heap.get? b = some o → (s.heap.update S (Obj.mapSeq (fun _ => (#[] : Array Value)))).get? b = some o := fun b o hb e => (Heap.get?_update_other _ _ (Ne.symm hb)).trans e
  refine wpAny_bind (wpAny_letGo ?_)
  have hit2 := hit.at (h' := s.heap.update S (Obj.mapSeq (fun _ => (#[] : Array Value)))) fun o e => oth it o (Ne.symm hSi) e
  have hl2 : (s.heap.update S (Obj.mapSeq (fun _ => (#[] : Array Value)))).IsList l items := by
    obtain ⟨o, e, r⟩ := hl
    exact ⟨o, oth l o (Ne.symm hSl) e, r⟩
  generalize s.heap.update S (Obj.mapSeq (fun _ => (#[] : Array Value))) = hp at g2 oth hit2 hl2 ⊢
  have Wk := (Walks.listRev (prog := prog) (w := w) (A := A.in1) hh it l hne items).toS
  have nSf : S ∉ [it, l] := by simp only [List.mem_cons, List.not_mem_nil, or_false, not_or]; exact ⟨hSi, hSl⟩
  have hT : ({ s with heap := hp } : Shared).TypeIs (.ref it) "list_reverseiterator" := Heap.IsRevIter.typeIs (s := { s with heap := hp }) hit2
  have h1 : Builtin.List.listSameRef (.ref S) (.ref it) = false := by simp [Builtin.List.listSameRef, hSi]
  unfold Builtin.List.listExtendWith
  refine wpAny_bind (wpAny_typeOf hT ?_)
  rw [if_neg (by rw [h1]; decide)]
  refine wpAny_bind (wpAny_pyIter_revIter (s := { s with heap := hp }) hit2 (wpAny_bind (wpAny_holding ?_)))
  unfold Builtin.List.listLengthHint
  refine wpAny_bind (wpAny_specialOf hT nolen_lri ?_)
  show wpAny _ A.in1 (specialOf (Value.ref it) (Str.ofString "__length_hint__") >>= _) _ _ _
  refine wpAny_bind (wpAny_specialOf hT hint_lri ?_)
  generalize hid : ("list_reverseiterator.__length_hint__" : String) = id1
  wp_delta
  rw [show splitId id1 = some ("list_reverseiterator", "__length_hint__") from by subst hid; decide +kernel]
  subst hid
  refine wpAny_bind (wpAny_isInstance (b := true) hT (by rw [isSubtype_type]; kernel_rfl) (wpAny_pure ?_))
  rw [if_neg (by decide)]
  have e0 : ((items.size : Nat) : Int) - 1 - ((0 : Nat) : Int) = (items.size : Int) - 1 := by omega
  refine wpAny_pure ⟨plainId_quiet F.plain_extend_loop _, codeAny_extend_loopS Wk hn S nSf .none items.size 0 _ _ _ rfl (Nat.zero_le _) ⟨Nat.zero_le _, by rw [e0]; exact hit2, hl2⟩ g2 (ItemsOf.nil _) fun s' acc' c' hm hS' hacc => ?_⟩
  rw [Moved.eq_with hm]
  refine hR s'.heap s'.toks acc' c' (fun b o hb hbi e => hm.heap b o (fun hmem => ?_) (oth b o hb e)) hS' hacc
  rcases List.mem_cons.mp hmem with e' | hmem
  · exact hb e'
  · exact hbi (List.mem_singleton.mp hmem)
theorem call_list_rev {it l : Addr} {items : Array Value} {Q : Value → Shared → Prop} (hh : A.handled = none) (hit : s.heap.IsRevIter it l ((items.size : Int) - 1)) (hl : s.heap.IsList l items) (hne : l ≠ it) (hn : items.size ≤ sizeLine)
    (hQ : ∀ h' tk acc' c', (∀ b o, b ≠ it → s.heap.get? b = some o → h'.get? b = some o) → h'.get? s.heap.objs.size = some { cls := .type "list", dict := none, data := .seq acc' c', slots := #[] } →
      ItemsOf (fun i v => items[items.size - 1 - i]? = some v) acc' items.size → Q (.ref s.heap.objs.size) { s with heap := h', toks := tk }) : wpAny (model prog w) A (call (.type "list") [.ref it]) Q E s := by
  refine callType_codes (Q₁ := fun obj s₁ => obj = .ref s.heap.objs.size ∧ s₁ = { s with heap := s.heap.push { cls := .type "list", data := .seq #[] } }) F.called_list (F.typeCall_list_1 _) F.entry_list_init (code_list_new _ ⟨rfl, rfl⟩) fun obj s₁ h₁ => ?_
  obtain ⟨rfl, rfl⟩ := h₁
  have gS : (s.heap.push { cls := .type "list", data := .seq #[] }).get? s.heap.objs.size = some { cls := .type "list", data := .seq #[] } := Heap.get?_push_size _ rfl
  obtain ⟨oi, hoi, _⟩ := id hit
  obtain ⟨ol, hol, _⟩ := id hl
  refine ⟨⟨_, gS, rfl⟩, F.args_list_init_2 _ _, list_init_rev (A := A.in1) hh (hit.at fun o e => Heap.get?_push_of_some _ e) (hl.push _) hne hn (Nat.ne_of_gt (Heap.lt_size hoi)) (Nat.ne_of_gt (Heap.lt_size hol)) gS fun h' tk acc' c' hk hS' hacc => ?_⟩
  exact ⟨rfl, hQ h' tk acc' c' (fun b o hb e => hk b o (Nat.ne_of_lt (Heap.lt_size e)) hb (Heap.get?_push_of_some _ e)) hS' hacc⟩
end
def tLstRev (K : PySem.W.Frag) (te : TE) : TE := fun σ H Q => te σ H fun v H1 => ∃ (a : Addr) (xs : List V), v = .ref a ∧ SqL K H1 a xs ∧ ∀ q, H1 q = none → Q (.ref q) (upd H1 q (.lst xs.reverse))
section
variable {X : Cx}
theorem pe_lstRev {e : Expr} {te : TE} {p p2 pos pos2 : Pos} (hc : X.calm = true) (hg : Gl X "list") (hm : X.mg "list" = none) (hg2 : Gl X "reversed") (hm2 : X.mg "reversed" = none) (he : PE X e te)
    (hs : starEach [e] X.env = (false, eval e X.env) :: starEach [] X.env := by rfl)
    (hs2 : starEach [.Call (.Name "reversed" p2) [e] [] pos2] X.env = (false, eval (.Call (.Name "reversed" p2) [e] [] pos2) X.env) :: starEach [] X.env := by rfl) :
    PE X (.Call (.Name "list" p) [.Call (.Name "reversed" p2) [e] [] pos2] [] pos) (tLstRev X.K te) := by
  refine ⟨fun pins s σ H Q I h => ?_⟩
  refine Call_ (ld_blt I hg hm boot_list (PyProof.Rows.callWith_type1 (args_cons (Call_ (ld_blt I hg2 hm2 PyProof.Rows.boot_reversed (PyProof.Rows.callWith_type1 (args_cons (thn (he.run pins s σ H _ I h) fun u s1 ⟨v, H1, I1, r1, q1⟩ => args_nil ?_) hs) hs rfl))) hs2) hs2 rfl))
  obtain ⟨a, xs, ev, hq, q⟩ := q1
  subst ev
  obtain rfl : u = Value.ref a := r1
  obtain ⟨its, rv, p', hz⟩ := I1.list hq
  refine call_reversed_list p'.isList (args_nil ?_)
  have hl := p'.isList
  obtain ⟨ol, hol, _⟩ := id hl
  have hne : a ≠ s1.heap.objs.size := Nat.ne_of_lt (Heap.lt_size hol)
  have hn : its.toArray.size ≤ sizeLine := by rw [List.size_toArray, ← rv.length]; exact hz
  refine call_list_rev (s := { s1 with heap := s1.heap.push (revObj a ((its.toArray.size : Int) - 1)) }) (I1.ok.hd hc) ⟨_, Heap.get?_push_size _ rfl, rfl, rfl⟩ (hl.push _) hne hn fun h' tk acc c' hk hS hi => ?_
  have le : s1.heap.objs.size ≤ (s1.heap.push (revObj a ((its.toArray.size : Int) - 1))).objs.size := by simp [Heap.push]
  refine ⟨.ref (s1.heap.push (revObj a ((its.toArray.size : Int) - 1))).objs.size, upd H1 _ (.lst xs.reverse), I1.laid (t' := tk) (fun b o e => hk b o (Nat.ne_of_lt (Heap.lt_size e)) (Heap.get?_push_of_some _ e)) le (show ObjOk X.prog X.w _ _ _ (.lst xs.reverse) from ⟨by rw [List.length_reverse]; exact hz, acc.toList, c', vals_rev rv hi, ?_⟩), rfl, q _ (I1.hok.fresh le)⟩
  rw [Array.toArray_toList]
  exact hS
end
def lrevR : D → Option R
  | .lst ds => some (.ok (.own ds.reverse))
  | .scr ds => some (.ok (.own ds.reverse))
  | _ => none
section
variable {X : Cx} {C : FR} {e : Expr} {f : EF} {p p2 pos pos2 : Pos}
theorem x_lrev (ft : Fit X C) (hm : C.mg "list" = none) (hm2 : C.mg "reversed" = none) (he : PE X e (lE C f)) (hh : C.hot = false := by rfl) (hg : Gl X "list" := by rfl) (hg2 : Gl X "reversed" := by rfl)
    (hs : starEach [e] X.env = (false, eval e X.env) :: starEach [] X.env := by rfl)
    (hs2 : starEach [.Call (.Name "reversed" p2) [e] [] pos2] X.env = (false, eval (.Call (.Name "reversed" p2) [e] [] pos2) X.env) :: starEach [] X.env := by rfl) :
    PE X (.Call (.Name "list" p) [.Call (.Name "reversed" p2) [e] [] pos2] [] pos) (lE C (PT.e1 lrevR f)) := by
  refine PE.imp ?_ (pe_lstRev (ft.calm hh) hg (by rw [ft.mg]; exact hm) hg2 (by rw [ft.mg]; exact hm2) he hs hs2)
  rintro σ H Q ⟨ρ, F, G, h⟩
  refine ⟨ρ, F, G, ?_⟩
  have h1 := PostE.bind G h
  refine (show PostE C σ ρ F H (f ρ) _ from ?_)
  cases e : f ρ with
  | none => rw [e] at h1; exact h1
  | some r =>
    rw [e] at h1
    cases r with
    | ex x p => exact h1
    | ok sv =>
      intro v F' H' st rs
      obtain ⟨y, F1, st1, ry, h2⟩ := h1 v F' H' st rs
      unfold lrevR at h2
      split at h2
      · cases ry with | lst q r => exact ⟨_, _, rfl, by rw [ft.K]; exact SqL.of (st1.g.fh _ _ q), fun z hz => h2.newOwn st1.g hz r.reverse⟩
      · cases ry with | scr q r => exact ⟨_, _, rfl, by rw [ft.K]; exact st1.g.fh.seq q, fun z hz => h2.newOwn st1.g hz r.reverse⟩
      · exact h2.elim
end
section
variable {X : Cx} {C : FR} {f : EF} {ff : AF} {σ : St} {H : Hp} {Q : List V → Hp → Prop}
theorem lA_cons : lA C (aCons f ff) σ H Q → lE C f σ H fun v H1 => lA C ff σ H1 fun vs H2 => Q (v :: vs) H2 := by
  rintro ⟨ρ, F, G, h⟩
  refine ⟨ρ, F, G, ?_⟩
  have h1 := PostE.bindA' G h
  cases e : f ρ with
  | none => rw [e] at h1; exact h1
  | some r =>
    rw [e] at h1
    cases r with
    | ex x p => exact h1
    | ok sv =>
      intro v F' H' st q1
      obtain ⟨x, F1, st1, rx, h2⟩ := h1 v F' H' st q1
      refine ⟨ρ, F1, st1.g, ?_⟩
      cases e2 : ff ρ with
      | none => rw [e2] at h2; exact h2
      | some r =>
        rw [e2] at h2
        cases r with
        | ex y p => exact h2
        | ok ds =>
          intro vs F2 H2 st2 q2
          exact h2 (v :: vs) F2 H2 st2 (.cons (Rep.mono st2.s _ _ rx) q2)
theorem lA_nil : lA C aNil σ H Q → Q [] H := by
  rintro ⟨ρ, F, G, h⟩
  exact h [] F H (Step.refl G) .nil
end
/-- reversed(range(a, b)) -/
def revrL : List D → Option RL
  | [.int i, .int j] => if r62 i && r62 j then some (.ok (rangeC (i + (((j - i).toNat : Nat) : Int) - 1) (-1) (j - i).toNat)) else none
  | _ => none
def itRR (fa fb : EF) : AF := itA revrL (aCons fa (aCons fb aNil))
theorem i_revr {X : Cx} {C : FR} {a b tg : Expr} {fa fb : EF} {p p2 pos pos2 : Pos} (ft : Fit X C) (hm : C.mg "reversed" = none) (hm2 : C.mg "range" = none) (ha : PE X a (lE C fa)) (hb : PE X b (lE C fb)) (hg : Gl X "reversed" := by rfl) (hg2 : Gl X "range" := by rfl)
    (na : starEach [a, b] X.env = (false, eval a X.env) :: starEach [b] X.env := by rfl) (nb : starEach [b] X.env = (false, eval b X.env) :: starEach [] X.env := by rfl) (hp : (backTo pos2 (starEach [b] X.env)).any (·.1) = false := by rfl)
    (hs : starEach [.Call (.Name "range" p2) [a, b] [] pos2] X.env = (false, eval (.Call (.Name "range" p2) [a, b] [] pos2) X.env) :: starEach [] X.env := by rfl) :
    PI X tg (.Call (.Name "reversed" p) [.Call (.Name "range" p2) [a, b] [] pos2] [] pos) (lI C (itRR fa fb)) := by
  refine PI.imp ?_ (pi_revR hg (by rw [ft.mg]; exact hm) (prg_2 hg2 (by rw [ft.mg]; exact hm2) ha hb na nb hp) hs)
  intro σ H R h
  have h1 := lA_cons (lI_A (T := fun vs H' => ∃ i j : Int, vs = [.int i, .int j] ∧ r62 i = true ∧ r62 j = true ∧ R (Itc (i + (((j - i).toNat : Nat) : Int) - 1) (-1) (j - i).toNat) H') (fun ρ F H us vs G r h => by
    unfold revrL at h
    split at h
    · split at h
      · rename_i i j hc
        rw [Bool.and_eq_true] at hc
        cases r with | cons p q => cases q with | cons p2 q => cases q; cases p; cases p2
                                                               exact ⟨_, _, rfl, hc.1, hc.2, PostI.ok h G yields_rangeC⟩
      · exact h.elim
    · exact h.elim) h)
  have mono : ∀ {f : EF} {σ : St} {H : Hp} {Q Q' : VK}, (∀ v H, Q v H → Q' v H) → lE C f σ H Q → lE C f σ H Q' := by
    rintro f σ H Q Q' k ⟨ρ, F, G, h⟩
    refine ⟨ρ, F, G, ?_⟩
    revert h
    cases f ρ with
    | none => exact id
    | some r => cases r with
      | ok sv => exact fun h v F' H' st q => k v H' (h v F' H' st q)
      | ex x p => exact id
  refine mono (fun v H1 h => mono (fun w H2 h => ?_) (lA_cons h)) h1
  obtain ⟨i, j, e, h1, h2, q⟩ := lA_nil h
  cases e
  have b1 := r62_iff.mp h1
  have b2 := r62_iff.mp h2
  exact ⟨i, j, rfl, rfl, by omega, by omega, by omega, by omega, q⟩
end PT
/-! PT: max of three numbers; min and max of two spots. -/
namespace PT
open PySem PySem.Spec PyProof.Rows L2
theorem args_max3 (a b c : Value) : argsOk "max" ⟨[a, b, c], []⟩ := by unfold argsOk; kernel_rfl
section
variable {prog : Program} {w : World} {A : Around} {E : Value → Shared → Prop} {s : Shared}
theorem max_three {a b c : Value} {Q : Value → Shared → Prop}
    (h : wpAny (model prog w) A.in1 (pyIter (.ref s.heap.objs.size)) (fun it s₂ => ∃ I fp wr n P St bt, it = .ref I ∧ Walks prog w A.in1 I fp wr n P St ∧ St 0 s₂.heap ∧ (∀ b ∈ fp, b < s₂.heap.objs.size) ∧ 0 < n ∧ CmpOf prog w A.in1 .Gt P bt ∧
      ∀ v h' tk, P (argBest bt (n - 1)) v → (∀ b o, b ∉ wr → s₂.heap.get? b = some o → h'.get? b = some o) → Q v { s₂ with heap := h', toks := tk }) E { s with heap := s.heap.push { cls := .type "tuple", data := .seq #[a, b, c] } }) : wpAny (model prog w) A (call (.builtin "max") [a, b, c]) Q E s := by
  have nm : (toString "max" ++ toString ".loop" : String) = "max.loop" := by decide
  refine call_function_tree F.kind_max F.plain_max F.entry_max (args_max3 _ _ _) ?_
  show wpAny _ A.in1 (Builtin.Builtins.bindParams "max" ["key", "default"] 0 ⟨[], []⟩ >>= _) _ _ s
  refine wpAny_bind (wpAny_of_eq (show Builtin.Builtins.bindParams "max" ["key", "default"] 0 ⟨[], []⟩ = pure [none, none] from rfl) ?_)
  show wpAny _ A.in1 (newTuple [a, b, c] >>= _) _ _ s
  refine wpAny_bind (wpAny_newObj_type (wpAny_bind (wpAny_mono h (fun it s₂ h₂ => ?_) fun _ _ e => e)))
  obtain ⟨I, fp, wr, n, P, St, bt, rfl, W, hst, hfp, hn, hcmp, hQ⟩ := h₂
  refine wpAny_bind (wpAny_newObj_type ?_)
  rw [nm]
  refine wpAny_pure ⟨plainId_quiet F.plain_max_loop _, codeAny_max_loop_first W bt hcmp s₂.heap.objs.size (fun hm => Nat.lt_irrefl _ (hfp _ hm)) hn (W.frame _ _ _ hst fun b _ o e => Heap.get?_push_of_some _ e) (Heap.get?_push_size _ rfl) fun v h' tk hP hk => ?_⟩
  exact hQ v h' tk hP fun b o hbw e => hk b o hbw (Nat.ne_of_lt (Heap.lt_size e)) (Heap.get?_push_of_some _ e)
theorem max_three_ints {a b c : Int} {t u v : Tok} {Q : Value → Shared → Prop} (hh : A.handled = none)
    (h : ∀ h' tk x k, (∀ c o, s.heap.get? c = some o → h'.get? c = some o) → x = (if c > (if b > a then b else a) then c else if b > a then b else a) → Q (.int x k) { s with heap := h', toks := tk }) : wpAny (model prog w) A (call (.builtin "max") [.int a t, .int b u, .int c v]) Q E s := by
  have hT : (s.heap.push { cls := .type "tuple", data := .seq #[.int a t, .int b u, .int c v] }).IsTuple s.heap.objs.size (intItems #[(a, t), (b, u), (c, v)]) := ⟨_, Heap.get?_push_size _ rfl, rfl, 0, by simp [intItems]⟩
  refine max_three (wpAny_pyIter_tuple hT ?_)
  have sz : (s.heap.push { cls := .type "tuple", data := .seq #[.int a t, .int b u, .int c v] }).objs.size = s.heap.objs.size + 1 := Heap.size_push ..
  refine ⟨_, [_, s.heap.objs.size], [_], _, _, _, _, rfl, Walks.tuple (A := A.in1) hh _ s.heap.objs.size (by rw [sz]; exact Nat.ne_of_lt (Nat.lt_succ_self _)) (intItems #[(a, t), (b, u), (c, v)]),
    ⟨⟨_, Heap.get?_push_size _ rfl, rfl, rfl⟩, hT.push _⟩, fun d hd => ?_, by simp [intItems], CmpOf.ints_gt (numAt #[(a, t), (b, u), (c, v)]) (fun _ _ => intItems_at), fun x h' tk hP hk => ?_⟩
  · show d < ((s.heap.push _).push _).objs.size
    rw [Heap.size_push, sz]
    rcases List.mem_cons.mp hd with rfl | hd
    · rw [sz]; exact Nat.lt_succ_self _
    · rcases List.mem_cons.mp hd with rfl | hd
      · exact Nat.lt_succ_of_lt (Nat.lt_succ_self _)
      · cases hd
  · have old : ∀ d o, s.heap.get? d = some o → h'.get? d = some o := fun d o e => by
      refine hk d o (fun hm => ?_) (Heap.get?_push_of_some _ (Heap.get?_push_of_some _ e))
      rcases List.mem_cons.mp hm with e1 | hm
      · have := Heap.lt_size e; rw [e1, sz] at this; exact Nat.lt_irrefl _ (Nat.lt_of_succ_lt this)
      · cases hm
    have hx : ∃ k, x = .int (if c > (if b > a then b else a) then c else if b > a then b else a) k := by
      have hP' : (intItems #[(a, t), (b, u), (c, v)])[argBest (fun i j => decide (numAt #[(a, t), (b, u), (c, v)] i > numAt #[(a, t), (b, u), (c, v)] j)) 2]? = some x := by
        have h2 : (intItems #[(a, t), (b, u), (c, v)]).size - 1 = 2 := by simp [intItems]
        rw [← h2]; exact hP
      by_cases hba : b > a
      · by_cases hcb : c > b
        · have e : argBest (fun i j => decide (numAt #[(a, t), (b, u), (c, v)] i > numAt #[(a, t), (b, u), (c, v)] j)) 2 = 2 := by simp [argBest, numAt, hba, hcb]
          rw [e] at hP'
          exact ⟨v, by simpa [intItems, hba, hcb] using hP'.symm⟩
        · have e : argBest (fun i j => decide (numAt #[(a, t), (b, u), (c, v)] i > numAt #[(a, t), (b, u), (c, v)] j)) 2 = 1 := by simp [argBest, numAt, hba, hcb]
          rw [e] at hP'
          exact ⟨u, by simpa [intItems, hba, hcb] using hP'.symm⟩
      · by_cases hca : c > a
        · have e : argBest (fun i j => decide (numAt #[(a, t), (b, u), (c, v)] i > numAt #[(a, t), (b, u), (c, v)] j)) 2 = 2 := by simp [argBest, numAt, hba, hca]
          rw [e] at hP'
          exact ⟨v, by simpa [intItems, hba, hca] using hP'.symm⟩
        · have e : argBest (fun i j => decide (numAt #[(a, t), (b, u), (c, v)] i > numAt #[(a, t), (b, u), (c, v)] j)) 2 = 0 := by simp [argBest, numAt, hba, hca]
          rw [e] at hP'
          exact ⟨t, by simpa [intItems, hba, hca] using hP'.symm⟩
    obtain ⟨k, rfl⟩ := hx
    exact h h' tk _ k old rfl
end
def max3R : List D → Option R
  | [.int a, .int b, .int c] => okI (if c > (if b > a then b else a) then c else if b > a then b else a)
  | _ => none
theorem call_max3 {X : Cx} (hc : X.calm = true) : CallR X (.builtin "max") (fun xs H Q => ∃ a b c, xs = [.int a, .int b, .int c] ∧ Q (.int (if c > (if b > a then b else a) then c else if b > a then b else a)) H) := by
  rintro pins s σ H xs us Q I r ⟨a, b, c, rfl, q⟩
  cases r with | cons r1 r => cases r with | cons r2 r => cases r with | cons r3 r =>
    cases r
    obtain ⟨t1, rfl⟩ := r1
    obtain ⟨t2, rfl⟩ := r2
    obtain ⟨t3, rfl⟩ := r3
    exact max_three_ints (I.ok.hd hc) fun h1 tk x k kp hx => ⟨.int x, H, I.kept kp, ⟨k, rfl⟩, by rw [hx]; exact q⟩
theorem b_max3 {X : Cx} {C : FR} (ft : Fit X C) (hh : C.hot = false := by rfl) : Blt X C (.builtin "max") max3R := by
  intro σ ρ F H ds vs Q G r h
  unfold max3R at h
  split at h
  · cases r with | cons p q => cases q with | cons p2 q => cases q with | cons p3 q =>
      cases q; cases p; cases p2; cases p3
      exact ⟨_, call_max3 (ft.calm hh), _, _, _, rfl, h.val G (.int _)⟩
  · exact none_post h
section
variable {A : Around} {s : Shared}
theorem pair_gt {f g : Addr} {n d n' d' : Int} {t u t' u' : Tok} (hf : s.heap.IsTuple f #[.int n t, .int d u]) (hg : s.heap.IsTuple g #[.int n' t', .int d' u']) (hu : A.units < cLine) : Ob.RcOp .Gt A s (.ref f) (.ref g) (if n = n' then decide (d' < d) else decide (n' < n)) := by
  have bq : ∀ x y : Int, (x == y) = decide (x = y) := fun x y => by
    by_cases q : x = y
    · rw [decide_eq_true q]; exact beq_iff_eq.mpr q
    · rw [decide_eq_false q]; exact beq_eq_false_iff_ne.mpr q
  have R := Ob.RcOp.tuples_gt (A := A) (e := fun j => if j = 0 then decide (n = n') else decide (d = d')) (r := fun j => if j = 0 then decide (n' < n) else decide (d' < d)) hf hg hu (fun j h1 h2 => by
      rcases j with _ | _ | j
      · rw [if_pos rfl, ← bq]; exact SeqAt.EqAt.int_int _ _ _ _
      · rw [if_neg (by omega), ← bq]; exact SeqAt.EqAt.int_int _ _ _ _
      · exact absurd (show j + 1 + 1 < 2 from h1) (by omega)) (fun j h1 h2 _ => by
      rcases j with _ | _ | j
      · rw [if_pos rfl]; exact Ob.RcOp.gt_int _ _ _ _
      · rw [if_neg (by omega)]; exact Ob.RcOp.gt_int _ _ _ _
      · exact absurd (show j + 1 + 1 < 2 from h1) (by omega))
  have e3 : Ob.lexAt (fun j => if j = 0 then decide (n = n') else decide (d = d')) (fun j => if j = 0 then decide (n' < n) else decide (d' < d)) (decide ((#[Value.int n t, Value.int d u] : Array Value).size > (#[Value.int n' t', Value.int d' u'] : Array Value).size)) 0 (min (#[Value.int n t, Value.int d u] : Array Value).size (#[Value.int n' t', Value.int d' u'] : Array Value).size) = (if n = n' then decide (d' < d) else decide (n' < n)) := by
    show (if decide (n = n') = true then (if decide (d = d') = true then false else decide (d' < d)) else decide (n' < n)) = _
    by_cases e1 : n = n'
    · rw [if_pos e1, if_pos (decide_eq_true e1)]
      by_cases e2 : d = d'
      · rw [if_pos (decide_eq_true e2), decide_eq_false (by omega)]
      · rw [if_neg (by simpa using e2)]
    · rw [if_neg e1, if_neg (by simpa using e1)]
  rw [e3] at R
  exact R
theorem sp3_gt {v u : Value} {k l : K3} (hv : IsSp3 s.heap v k) (hu' : IsSp3 s.heap u l) (hu : A.units + 64 < cLine) : Ob.RcOp .Gt A s v u (lex3 l k) := by
  obtain ⟨a, f, t, n, d, rfl, h1, h2⟩ := hv
  obtain ⟨a', f', t', n', d', rfl, g1, g2⟩ := hu'
  have bq : ∀ x y : Int, (x == y) = decide (x = y) := fun x y => by
    by_cases q : x = y
    · rw [decide_eq_true q]; exact beq_iff_eq.mpr q
    · rw [decide_eq_false q]; exact beq_eq_false_iff_ne.mpr q
  have hu1 : A.in1.units < cLine := by show A.units + 1 < cLine; omega
  have R := Ob.RcOp.tuples_gt (A := A) (e := fun j => if j = 0 then decide (k.1 = l.1) else (decide (k.2.1 = l.2.1) && decide (k.2.2 = l.2.2))) (r := fun j => if j = 0 then decide (l.1 < k.1) else (if k.2.1 = l.2.1 then decide (l.2.2 < k.2.2) else decide (l.2.1 < k.2.1))) h1 g1 (by omega) (fun j h3 h4 => by
      rcases j with _ | _ | j
      · rw [if_pos rfl, ← bq]; exact SeqAt.EqAt.int_int _ _ _ _
      · rw [if_neg (by omega)]; exact pair_eqAt h2 g2 hu1
      · exact absurd (show j + 1 + 1 < 2 from h3) (by omega)) (fun j h3 h4 _ => by
      rcases j with _ | _ | j
      · rw [if_pos rfl]; exact Ob.RcOp.gt_int _ _ _ _
      · rw [if_neg (by omega)]; exact pair_gt h2 g2 hu1
      · exact absurd (show j + 1 + 1 < 2 from h3) (by omega))
  have e3 : Ob.lexAt (fun j => if j = 0 then decide (k.1 = l.1) else (decide (k.2.1 = l.2.1) && decide (k.2.2 = l.2.2))) (fun j => if j = 0 then decide (l.1 < k.1) else (if k.2.1 = l.2.1 then decide (l.2.2 < k.2.2) else decide (l.2.1 < k.2.1))) (decide ((#[Value.int k.1 t, Value.ref f] : Array Value).size > (#[Value.int l.1 t', Value.ref f'] : Array Value).size)) 0 (min (#[Value.int k.1 t, Value.ref f] : Array Value).size (#[Value.int l.1 t', Value.ref f'] : Array Value).size) = lex3 l k := by
    show (if decide (k.1 = l.1) = true then (if (decide (k.2.1 = l.2.1) && decide (k.2.2 = l.2.2)) = true then false else (if k.2.1 = l.2.1 then decide (l.2.2 < k.2.2) else decide (l.2.1 < k.2.1))) else decide (l.1 < k.1)) = _
    unfold lex3
    simp only [eq_comm (a := l.1) (b := k.1), eq_comm (a := l.2.1) (b := k.2.1)]
    by_cases e1 : k.1 = l.1
    · rw [if_pos e1, if_pos (decide_eq_true e1)]
      by_cases e2 : k.2.1 = l.2.1
      · by_cases e4 : k.2.2 = l.2.2
        · rw [decide_eq_true e2, decide_eq_true e4, if_pos (show (true && true) = true from rfl), if_pos e2, decide_eq_false (by omega)]
        · rw [decide_eq_false e4, Bool.and_false, if_neg (by decide)]
      · rw [decide_eq_false e2, Bool.false_and, if_neg (by decide)]
    · rw [if_neg e1, if_neg (by simpa using e1)]
  rw [e3] at R
  exact R
end
/-! ### min, max of two spots -/
section
variable {prog : Program} {w : World} {A : Around} {E : Value → Shared → Prop} {s : Shared}
theorem cmp3 {op : CmpOp} {H : Heap} {vs : Array Value} {ks : Nat → K3} {g : K3 → K3 → Bool} (hc : ∀ (s : Shared) (v u : Value) (k l : K3), IsSp3 s.heap v k → IsSp3 s.heap u l → Ob.RcOp op A s v u (g k l)) (hv : ∀ (i : Nat) (v : Value), vs[i]? = some v → IsSp3 H v (ks i)) : CmpIn prog w A op H (fun i v => vs[i]? = some v) (fun i j => g (ks i) (ks j)) :=
  fun i j vi vj s' Q E hk hi hj hq => hc s' vi vj _ _ ((hv i vi hi).keeps fun b o e _ => hk b o e) ((hv j vj hj).keeps fun b o e _ => hk b o e) prog w E Q hq
theorem min_two_spots {a b : Value} {k l : K3} {Q : Value → Shared → Prop} (hh : A.handled = none) (ha : IsSp3 s.heap a k) (hb : IsSp3 s.heap b l) (hu : A.units + 65 < cLine)
    (h : ∀ h' tk, (∀ c o, s.heap.get? c = some o → h'.get? c = some o) → Q (if lex3 l k = true then b else a) { s with heap := h', toks := tk }) : wpAny (model prog w) A (call (.builtin "min") [a, b]) Q E s := by
  have nm : (toString "min" ++ toString ".loop" : String) = "min.loop" := by decide
  refine call_function_tree F.kind_min F.plain_min F.entry_min (F.args_min2 _ _) ?_
  show wpAny _ A.in1 (Builtin.Builtins.bindParams "min" ["key", "default"] 0 ⟨[], []⟩ >>= _) _ _ s
  refine wpAny_bind (wpAny_of_eq (show Builtin.Builtins.bindParams "min" ["key", "default"] 0 ⟨[], []⟩ = pure [none, none] from rfl) ?_)
  show wpAny _ A.in1 (newTuple [a, b] >>= _) _ _ s
  have k0 : ∀ c o, s.heap.get? c = some o → (s.heap.push { cls := .type "tuple", data := .seq #[a, b] }).get? c = some o := fun c o e => Heap.get?_push_of_some _ e
  have hT : (s.heap.push { cls := .type "tuple", data := .seq #[a, b] }).IsTuple s.heap.objs.size #[a, b] := ⟨_, Heap.get?_push_size _ rfl, rfl, 0, rfl⟩
  have hv : ∀ (i : Nat) (v : Value), (#[a, b] : Array Value)[i]? = some v → IsSp3 (s.heap.push { cls := .type "tuple", data := .seq #[a, b] }) v (if i = 0 then k else l) := fun i v e => by
    rcases i with _ | _ | i
    · cases (show some a = some v from e); exact ha.keeps fun c o e _ => k0 c o e
    · cases (show some b = some v from e); exact hb.keeps fun c o e _ => k0 c o e
    · simp at e
  refine wpAny_bind (wpAny_newObj_type (wpAny_bind (PySem.W.iter_tupleW (A := A.in1) (s := { s with heap := s.heap.push { cls := .type "tuple", data := .seq #[a, b] } }) hh hT fun s₂ e2 W st hfp hw hk => ?_)))
  refine wpAny_bind (wpAny_newObj_type ?_)
  rw [nm]
  have fresh : (s.heap.push { cls := .type "tuple", data := .seq #[a, b] }).get? s₂.heap.objs.size = none := fresh_in hk
  refine wpAny_pure ⟨plainId_quiet F.plain_min_loop _, codeAny_min_loop_firstH W (s.heap.push { cls := .type "tuple", data := .seq #[a, b] }) hw (fun i j => lex3 (if i = 0 then k else l) (if j = 0 then k else l)) (cmp3 (fun s v u k l h1 h2 => sp3_lt h1 h2 (by show A.units + 1 + 64 < _; omega)) hv) s₂.heap.objs.size (fun hm => Nat.lt_irrefl _ (hfp _ hm)) fresh _ (by show 0 < 2; decide) (fun c o e => Heap.get?_push_of_some _ (hk c o e)) (W.frame 0 s₂ _ s₂.toks st (Nat.le_refl _) fun c _ o e => Heap.get?_push_of_some _ e) (Heap.get?_push_size _ rfl) fun v s' hP hm => ?_⟩
  obtain ⟨h', tk, rfl, hk'⟩ := PySem.W.moved_old e2 rfl (Moved.drop_new (tk := s₂.toks) hm (Nat.le_refl _))
  have hx : v = if lex3 l k = true then b else a := by
    have hP' : (#[a, b] : Array Value)[argBest (fun i j => lex3 (if i = 0 then k else l) (if j = 0 then k else l)) 1]? = some v := hP
    by_cases g : lex3 l k = true
    · have e : argBest (fun i j => lex3 (if i = 0 then k else l) (if j = 0 then k else l)) 1 = 1 := by simp [argBest, g]
      rw [e] at hP'
      rw [if_pos g]
      exact (Option.some.inj (show some b = some v from hP')).symm
    · have e : argBest (fun i j => lex3 (if i = 0 then k else l) (if j = 0 then k else l)) 1 = 0 := by simp [argBest, g]
      rw [e] at hP'
      rw [if_neg g]
      exact (Option.some.inj (show some a = some v from hP')).symm
  rw [hx]
  exact h h' tk fun c o e => hk' c o (k0 c o e)
theorem max_two_spots {a b : Value} {k l : K3} {Q : Value → Shared → Prop} (hh : A.handled = none) (ha : IsSp3 s.heap a k) (hb : IsSp3 s.heap b l) (hu : A.units + 65 < cLine)
    (h : ∀ h' tk, (∀ c o, s.heap.get? c = some o → h'.get? c = some o) → Q (if lex3 k l = true then b else a) { s with heap := h', toks := tk }) : wpAny (model prog w) A (call (.builtin "max") [a, b]) Q E s := by
  have nm : (toString "max" ++ toString ".loop" : String) = "max.loop" := by decide
  refine call_function_tree F.kind_max F.plain_max F.entry_max (F.args_max2 _ _) ?_
  show wpAny _ A.in1 (Builtin.Builtins.bindParams "max" ["key", "default"] 0 ⟨[], []⟩ >>= _) _ _ s
  refine wpAny_bind (wpAny_of_eq (show Builtin.Builtins.bindParams "max" ["key", "default"] 0 ⟨[], []⟩ = pure [none, none] from rfl) ?_)
  show wpAny _ A.in1 (newTuple [a, b] >>= _) _ _ s
  have k0 : ∀ c o, s.heap.get? c = some o → (s.heap.push { cls := .type "tuple", data := .seq #[a, b] }).get? c = some o := fun c o e => Heap.get?_push_of_some _ e
  have hT : (s.heap.push { cls := .type "tuple", data := .seq #[a, b] }).IsTuple s.heap.objs.size #[a, b] := ⟨_, Heap.get?_push_size _ rfl, rfl, 0, rfl⟩
  have hv : ∀ (i : Nat) (v : Value), (#[a, b] : Array Value)[i]? = some v → IsSp3 (s.heap.push { cls := .type "tuple", data := .seq #[a, b] }) v (if i = 0 then k else l) := fun i v e => by
    rcases i with _ | _ | i
    · cases (show some a = some v from e); exact ha.keeps fun c o e _ => k0 c o e
    · cases (show some b = some v from e); exact hb.keeps fun c o e _ => k0 c o e
    · simp at e
  refine wpAny_bind (wpAny_newObj_type (wpAny_bind (PySem.W.iter_tupleW (A := A.in1) (s := { s with heap := s.heap.push { cls := .type "tuple", data := .seq #[a, b] } }) hh hT fun s₂ e2 W st hfp hw hk => ?_)))
  refine wpAny_bind (wpAny_newObj_type ?_)
  rw [nm]
  have fresh : (s.heap.push { cls := .type "tuple", data := .seq #[a, b] }).get? s₂.heap.objs.size = none := fresh_in hk
  refine wpAny_pure ⟨plainId_quiet F.plain_max_loop _, codeAny_max_loop_firstH W (s.heap.push { cls := .type "tuple", data := .seq #[a, b] }) hw (fun i j => lex3 (if j = 0 then k else l) (if i = 0 then k else l)) (cmp3 (g := fun k l => lex3 l k) (fun s v u k l h1 h2 => sp3_gt h1 h2 (by show A.units + 1 + 64 < _; omega)) hv) s₂.heap.objs.size (fun hm => Nat.lt_irrefl _ (hfp _ hm)) fresh _ (by show 0 < 2; decide) (fun c o e => Heap.get?_push_of_some _ (hk c o e)) (W.frame 0 s₂ _ s₂.toks st (Nat.le_refl _) fun c _ o e => Heap.get?_push_of_some _ e) (Heap.get?_push_size _ rfl) fun v s' hP hm => ?_⟩
  obtain ⟨h', tk, rfl, hk'⟩ := PySem.W.moved_old e2 rfl (Moved.drop_new (tk := s₂.toks) hm (Nat.le_refl _))
  have hx : v = if lex3 k l = true then b else a := by
    have hP' : (#[a, b] : Array Value)[argBest (fun i j => lex3 (if j = 0 then k else l) (if i = 0 then k else l)) 1]? = some v := hP
    by_cases g : lex3 k l = true
    · have e : argBest (fun i j => lex3 (if j = 0 then k else l) (if i = 0 then k else l)) 1 = 1 := by simp [argBest, g]
      rw [e] at hP'
      rw [if_pos g]
      exact (Option.some.inj (show some b = some v from hP')).symm
    · have e : argBest (fun i j => lex3 (if j = 0 then k else l) (if i = 0 then k else l)) 1 = 0 := by simp [argBest, g]
      rw [e] at hP'
      rw [if_neg g]
      exact (Option.some.inj (show some a = some v from hP')).symm
  rw [hx]
  exact h h' tk fun c o e => hk' c o (k0 c o e)
end
/-! ### as functions of data -/
def min2T : List D → Option R
  | [x, y] => match key3 x, key3 y with
    | some k, some l => okD (if lex3 l k = true then y else x)
    | _, _ => none
  | _ => none
def max2T : List D → Option R
  | [x, y] => match key3 x, key3 y with
    | some k, some l => okD (if lex3 k l = true then y else x)
    | _, _ => none
  | _ => none
theorem sp_in {X : Cx} {pins : List (Addr × Obj)} {σ : St} {H : Hp} {s : Shared} {v : V} {u : Value} {k : K3} (I : Inv X pins σ H s) (hk : IsK3 X.K H v k) (r : RelV v u) : IsSp3 s.heap u k := by
  obtain ⟨a, f, rfl, ht, hf⟩ := hk
  cases r
  obtain ⟨i1, r1, p1, -⟩ := I.tuple ht
  obtain ⟨i2, r2, p2, -⟩ := I.tuple hf
  obtain ⟨u1, u2, rfl, ri, rj⟩ := vals2 r1
  obtain ⟨t1, rfl⟩ := ri
  obtain rfl : u2 = Value.ref f := rj
  obtain ⟨u3, u4, rfl, ri, rj⟩ := vals2 r2
  obtain ⟨t3, rfl⟩ := ri
  obtain ⟨t4, rfl⟩ := rj
  exact ⟨a, f, t1, t3, t4, rfl, p1, p2⟩
theorem call_min3 {X : Cx} (hc : X.calm = true) (hu : X.A.units + 65 < cLine) : CallR X (.builtin "min") (fun xs H Q => ∃ x y k l, xs = [x, y] ∧ IsK3 X.K H x k ∧ IsK3 X.K H y l ∧ Q (if lex3 l k = true then y else x) H) := by
  rintro pins s σ H xs us Q I r ⟨x, y, k, l, rfl, h1, h2, q⟩
  obtain ⟨u1, u2, rfl, r1, r2⟩ := vals2 r
  refine min_two_spots (I.ok.hd hc) (sp_in I h1 r1) (sp_in I h2 r2) hu fun h' tk kp => ⟨_, H, I.kept kp, ?_, q⟩
  split
  · exact r2
  · exact r1
theorem call_max3T {X : Cx} (hc : X.calm = true) (hu : X.A.units + 65 < cLine) : CallR X (.builtin "max") (fun xs H Q => ∃ x y k l, xs = [x, y] ∧ IsK3 X.K H x k ∧ IsK3 X.K H y l ∧ Q (if lex3 k l = true then y else x) H) := by
  rintro pins s σ H xs us Q I r ⟨x, y, k, l, rfl, h1, h2, q⟩
  obtain ⟨u1, u2, rfl, r1, r2⟩ := vals2 r
  refine max_two_spots (I.ok.hd hc) (sp_in I h1 r1) (sp_in I h2 r2) hu fun h' tk kp => ⟨_, H, I.kept kp, ?_, q⟩
  split
  · exact r2
  · exact r1
theorem k3_up {C : FR} {F H : Hp} {σ : St} {ρ : En} {d : D} {v : V} {k : K3} (G : Good C F H σ ρ) (h : key3 d = some k) (r : Rep C.K F d v) : IsK3 C.K H v k := by
  obtain ⟨-, a, f, e, h1, h2⟩ := key3_rep h r
  exact ⟨a, f, e, seqT_mono G.fh h1, seqT_mono G.fh h2⟩
theorem b_min2T {X : Cx} {C : FR} (ft : Fit X C) (hu : X.A.units + 65 < cLine) (hh : C.hot = false := by rfl) : Blt X C (.builtin "min") min2T := by
  intro σ ρ F H ds vs Q G r h
  unfold min2T at h
  split at h
  · split at h
    · rename_i k l e1 e2
      cases r with | cons p q => cases q with | cons p2 q =>
        cases q
        exact ⟨_, call_min3 (ft.calm hh) hu, _, _, k, l, rfl, by rw [ft.K]; exact k3_up G e1 p, by rw [ft.K]; exact k3_up G e2 p2, by
          split at h
          · rename_i c; rw [if_pos c]; exact h.val G p2
          · rename_i c; rw [if_neg c]; exact h.val G p⟩
    · exact none_post h
  · exact none_post h
theorem b_max2T {X : Cx} {C : FR} (ft : Fit X C) (hu : X.A.units + 65 < cLine) (hh : C.hot = false := by rfl) : Blt X C (.builtin "max") max2T := by
  intro σ ρ F H ds vs Q G r h
  unfold max2T at h
  split at h
  · split at h
    · rename_i k l e1 e2
      cases r with | cons p q => cases q with | cons p2 q =>
        cases q
        exact ⟨_, call_max3T (ft.calm hh) hu, _, _, k, l, rfl, by rw [ft.K]; exact k3_up G e1 p, by rw [ft.K]; exact k3_up G e2 p2, by
          split at h
          · rename_i c; rw [if_pos c]; exact h.val G p2
          · rename_i c; rw [if_neg c]; exact h.val G p⟩
    · exact none_post h
  · exact none_post h
/-- < of numbers and of spots -/
def ltS (x y : D) : Option R := match key3 x, key3 y with
  | some k, some l => okB (lex3 k l)
  | _, _ => ltR x y
theorem bin_ltS {X : Cx} {C : FR} (ft : Fit X C) (hu : X.A.units + 65 < cLine) : Bin X C (compareOp .Lt) ltS := by
  intro σ ρ F H x y v w Q G rx ry h
  unfold ltS at h
  split at h
  · rename_i k l e1 e2
    exact ⟨_, op_lt3 (by omega), k, l, by rw [ft.K]; exact k3_up G e1 rx, by rw [ft.K]; exact k3_up G e2 ry, h.val G (.bl _)⟩
  · exact bin_lt σ ρ F H x y v w Q G rx ry h
theorem bl_ltS : ∀ x y r, ltS x y = some r → ∃ b, r = .ok (.d (.bl b)) := fun x y r h => by
  unfold ltS at h
  split at h
  · exact ⟨_, (Option.some.inj h).symm⟩
  · exact bl_lt x y r h
/-! ### min, max of a list of two spots -/
theorem min_list2 {prog : Program} {w : World} {A : Around} {E : Value → Shared → Prop} {s : Shared} {q : Addr} {a b : Value} {k l : K3} {Q : Value → Shared → Prop} (hh : A.handled = none) (hl : s.heap.IsList q #[a, b]) (ha : IsSp3 s.heap a k) (hb : IsSp3 s.heap b l) (hu : A.units + 65 < cLine)
    (h : ∀ h' tk, (∀ c o, s.heap.get? c = some o → h'.get? c = some o) → Q (if lex3 l k = true then b else a) { s with heap := h', toks := tk }) : wpAny (model prog w) A (call (.builtin "min") [.ref q]) Q E s := by
  have hv : ∀ (i : Nat) (v : Value), (#[a, b] : Array Value)[i]? = some v → IsSp3 s.heap v (if i = 0 then k else l) := fun i v e => by
    rcases i with _ | _ | i
    · cases (show some a = some v from e); exact ha
    · cases (show some b = some v from e); exact hb
    · simp at e
  refine call_min_walkH (PySem.W.iter_listW (A := A.in1) hh hl fun s₂ e W st hfp hw hk => ?_)
  refine ⟨_, _, _, _, _, _, _, s.heap, fun i j => lex3 (if i = 0 then k else l) (if j = 0 then k else l), rfl, W, st, hfp, (by show 0 < 2; decide), hw, hk, cmp3 (A := A.in1) (fun s v u k l h1 h2 => sp3_lt h1 h2 (by show A.units + 1 + 64 < _; omega)) hv, fun v s' hP m => ?_⟩
  obtain ⟨h', tk, rfl, hk'⟩ := PySem.W.moved_old e rfl m
  have hx : v = if lex3 l k = true then b else a := by
    have hP' : (#[a, b] : Array Value)[argBest (fun i j => lex3 (if i = 0 then k else l) (if j = 0 then k else l)) 1]? = some v := hP
    by_cases g : lex3 l k = true
    · have e : argBest (fun i j => lex3 (if i = 0 then k else l) (if j = 0 then k else l)) 1 = 1 := by simp [argBest, g]
      rw [e] at hP'
      rw [if_pos g]
      exact (Option.some.inj (show some b = some v from hP')).symm
    · have e : argBest (fun i j => lex3 (if i = 0 then k else l) (if j = 0 then k else l)) 1 = 0 := by simp [argBest, g]
      rw [e] at hP'
      rw [if_neg g]
      exact (Option.some.inj (show some a = some v from hP')).symm
  rw [hx]
  exact h h' tk hk'
theorem max_list2 {prog : Program} {w : World} {A : Around} {E : Value → Shared → Prop} {s : Shared} {q : Addr} {a b : Value} {k l : K3} {Q : Value → Shared → Prop} (hh : A.handled = none) (hl : s.heap.IsList q #[a, b]) (ha : IsSp3 s.heap a k) (hb : IsSp3 s.heap b l) (hu : A.units + 65 < cLine)
    (h : ∀ h' tk, (∀ c o, s.heap.get? c = some o → h'.get? c = some o) → Q (if lex3 k l = true then b else a) { s with heap := h', toks := tk }) : wpAny (model prog w) A (call (.builtin "max") [.ref q]) Q E s := by
  have hv : ∀ (i : Nat) (v : Value), (#[a, b] : Array Value)[i]? = some v → IsSp3 s.heap v (if i = 0 then k else l) := fun i v e => by
    rcases i with _ | _ | i
    · cases (show some a = some v from e); exact ha
    · cases (show some b = some v from e); exact hb
    · simp at e
  refine call_max_walkH (PySem.W.iter_listW (A := A.in1) hh hl fun s₂ e W st hfp hw hk => ?_)
  refine ⟨_, _, _, _, _, _, _, s.heap, fun i j => lex3 (if j = 0 then k else l) (if i = 0 then k else l), rfl, W, st, hfp, (by show 0 < 2; decide), hw, hk, cmp3 (A := A.in1) (g := fun k l => lex3 l k) (fun s v u k l h1 h2 => sp3_gt h1 h2 (by show A.units + 1 + 64 < _; omega)) hv, fun v s' hP m => ?_⟩
  obtain ⟨h', tk, rfl, hk'⟩ := PySem.W.moved_old e rfl m
  have hx : v = if lex3 k l = true then b else a := by
    have hP' : (#[a, b] : Array Value)[argBest (fun i j => lex3 (if j = 0 then k else l) (if i = 0 then k else l)) 1]? = some v := hP
    by_cases g : lex3 k l = true
    · have e : argBest (fun i j => lex3 (if j = 0 then k else l) (if i = 0 then k else l)) 1 = 1 := by simp [argBest, g]
      rw [e] at hP'
      rw [if_pos g]
      exact (Option.some.inj (show some b = some v from hP')).symm
    · have e : argBest (fun i j => lex3 (if j = 0 then k else l) (if i = 0 then k else l)) 1 = 0 := by simp [argBest, g]
      rw [e] at hP'
      rw [if_neg g]
      exact (Option.some.inj (show some a = some v from hP')).symm
  rw [hx]
  exact h h' tk hk'
def minLS : List D → Option R
  | [.lst [x, y]] => match key3 x, key3 y with
    | some k, some l => okD (if lex3 l k = true then y else x)
    | _, _ => none
  | _ => none
theorem call_minLS {X : Cx} (hc : X.calm = true) (hu : X.A.units + 65 < cLine) : CallR X (.builtin "min") (fun xs H Q => ∃ q x y k l, xs = [V.ref q] ∧ SqL X.K H q [x, y] ∧ IsK3 X.K H x k ∧ IsK3 X.K H y l ∧ Q (if lex3 l k = true then y else x) H) := by
  rintro pins s σ H xs us Q I r ⟨q, x, y, k, l, rfl, hs, h1, h2, qq⟩
  obtain ⟨its, rv, hl, _⟩ := I.list hs
  obtain ⟨u1, u2, rfl, r1, r2⟩ := vals2 rv
  rw [Vals.ref1 r]
  refine min_list2 (I.ok.hd hc) hl.isList (sp_in I h1 r1) (sp_in I h2 r2) hu fun h' tk kp => ⟨_, H, I.kept kp, ?_, qq⟩
  split
  · exact r2
  · exact r1
theorem b_minLS {X : Cx} {C : FR} (ft : Fit X C) (hu : X.A.units + 65 < cLine) (hh : C.hot = false := by rfl) : Blt X C (.builtin "min") minLS := by
  intro σ ρ F H ds vs Q G r h
  unfold minLS at h
  split at h
  · split at h
    · rename_i k l e1 e2
      cases r with | cons p q => cases q; cases p with | lst q0 r0 =>
        cases r0 with | cons p1 r1 => cases r1 with | cons p2 r2 =>
          cases r2
          exact ⟨_, call_minLS (ft.calm hh) hu, _, _, _, k, l, rfl, SqL.of (G.fh _ _ q0), by rw [ft.K]; exact k3_up G e1 p1, by rw [ft.K]; exact k3_up G e2 p2, by
            split at h
            · rename_i c; rw [if_pos c]; exact h.val G p2
            · rename_i c; rw [if_neg c]; exact h.val G p1⟩
    · exact none_post h
  · exact none_post h
def maxLS : List D → Option R
  | [.lst [x, y]] => match key3 x, key3 y with
    | some k, some l => okD (if lex3 k l = true then y else x)
    | _, _ => none
  | _ => none
theorem call_maxLS {X : Cx} (hc : X.calm = true) (hu : X.A.units + 65 < cLine) : CallR X (.builtin "max") (fun xs H Q => ∃ q x y k l, xs = [V.ref q] ∧ SqL X.K H q [x, y] ∧ IsK3 X.K H x k ∧ IsK3 X.K H y l ∧ Q (if lex3 k l = true then y else x) H) := by
  rintro pins s σ H xs us Q I r ⟨q, x, y, k, l, rfl, hs, h1, h2, qq⟩
  obtain ⟨its, rv, hl, _⟩ := I.list hs
  obtain ⟨u1, u2, rfl, r1, r2⟩ := vals2 rv
  rw [Vals.ref1 r]
  refine max_list2 (I.ok.hd hc) hl.isList (sp_in I h1 r1) (sp_in I h2 r2) hu fun h' tk kp => ⟨_, H, I.kept kp, ?_, qq⟩
  split
  · exact r2
  · exact r1
theorem b_maxLS {X : Cx} {C : FR} (ft : Fit X C) (hu : X.A.units + 65 < cLine) (hh : C.hot = false := by rfl) : Blt X C (.builtin "max") maxLS := by
  intro σ ρ F H ds vs Q G r h
  unfold maxLS at h
  split at h
  · split at h
    · rename_i k l e1 e2
      cases r with | cons p q => cases q; cases p with | lst q0 r0 =>
        cases r0 with | cons p1 r1 => cases r1 with | cons p2 r2 =>
          cases r2
          exact ⟨_, call_maxLS (ft.calm hh) hu, _, _, _, k, l, rfl, SqL.of (G.fh _ _ q0), by rw [ft.K]; exact k3_up G e1 p1, by rw [ft.K]; exact k3_up G e2 p2, by
            split at h
            · rename_i c; rw [if_pos c]; exact h.val G p2
            · rename_i c; rw [if_neg c]; exact h.val G p1⟩
    · exact none_post h
  · exact none_post h
end PT
/-! PT: a display of three texts, looked up. -/
namespace PT
open PySem PySem.Spec PyProof.Rows L2
def look3 (k1 v1 k2 v2 k3 v3 : Str) : D → Option R
  | .str s => if s = k1 then okD (.str v1) else if s = k2 then okD (.str v2) else if s = k3 then okD (.str v3) else none
  | _ => none
theorem upd_upd {H : Hp} {p : Addr} {o o' : HO} : upd (upd H p o) p o' = upd H p o' := by
  funext b
  by_cases h : b = p
  · subst h; rw [upd_same, upd_same]
  · rw [upd_ne h, upd_ne h, upd_ne h]
theorem x_look3 {X : Cx} {C : FR} {e : Expr} {f : EF} {k1 v1 k2 v2 k3 v3 : Str} {p1 p2 p3 p4 p5 p6 pd pos : Pos} {j1 j2 j3 j4 j5 j6 : Nat} (ft : Fit X C) (hu : X.A.units + 65 < cLine) (he : PE X e (lE C f)) (h12 : k1 ≠ k2 := by decide) (h13 : k1 ≠ k3 := by decide) (h23 : k2 ≠ k3 := by decide) (hs : NoSl e := by exact fun _ _ => rfl) :
    PE X (.Subscript (.Dict [some (.Constant (.str k1) j1 p1), some (.Constant (.str k2) j2 p2), some (.Constant (.str k3) j3 p3)] [.Constant (.str v1) j4 p4, .Constant (.str v2) j5 p5, .Constant (.str v3) j6 p6] pd) e pos) (lE C (PT.e1 (look3 k1 v1 k2 v2 k3 v3) f)) := by
  refine PE.imp ?_ (pe_dget (by omega) (pe_disp (pps_cons pe_str pe_str (pps_cons pe_str pe_str (pps_cons pe_str pe_str pps_nil))) rfl rfl (by simp) (by simp)) he hs)
  rintro σ H Q ⟨ρ, F, G, h0⟩ p hp
  refine ⟨upd_same, [(Sum.inr k1, .str v1), (Sum.inr k2, .str v2), (Sum.inr k3, .str v3)], rfl, by simp, ?_⟩
  rw [upd_upd]
  have hv : ∀ s : Str, valV (mergeK [] [((Sum.inr k1 : Key), V.str v1), (Sum.inr k2, .str v2), (Sum.inr k3, .str v3)]) (Sum.inr s) = if s = k1 then some (.str v1) else if s = k2 then some (.str v2) else if s = k3 then some (.str v3) else none := fun s => by
    show valV (putK (putK (putK [] (Sum.inr k1) _) (Sum.inr k2) _) (Sum.inr k3) _) _ = _
    rw [valV_put, valV_put, valV_put, valV_nil]
    simp only [Sum.inr.injEq]
    by_cases a : s = k1
    · subst a; rw [if_neg h13, if_neg h12, if_pos rfl, if_pos rfl]
    · by_cases b : s = k2
      · subst b; rw [if_neg h23, if_pos rfl, if_neg a, if_pos rfl]
      · rw [if_neg b, if_neg a, if_neg a, if_neg b]
  generalize mergeK [] [((Sum.inr k1 : Key), V.str v1), (Sum.inr k2, .str v2), (Sum.inr k3, .str v3)] = kvs at *
  have st0 : Step C σ ρ F H F (upd H p (.dK kvs)) := ⟨G.lay hp, Same.refl F, same_upd hp, fun _ _ z => .inl z⟩
  have h0 : PostE C σ ρ F H (bindR (f ρ) (look3 k1 v1 k2 v2 k3 v3)) Q := h0
  have h1 := (PostE.bind G h0).mono st0
  refine ⟨ρ, F, G.lay hp, ?_⟩
  cases e : f ρ with
  | none => rw [e] at h1; exact h1
  | some r =>
    rw [e] at h1
    cases r with
    | ex x p => exact h1
    | ok sv =>
      intro v F' H' st q1
      obtain ⟨y, F1, st1, ry, h2⟩ := h1 v F' H' st q1
      have hd : H' p = some (.dK kvs) := st.t p _ upd_same
      cases y with
      | str s =>
        cases ry
        have g := DGet.k (k := (Sum.inr s : Key)) hd
        rw [hv] at g
        have h2 : PostE C σ ρ F1 H' (if s = k1 then okD (.str v1) else if s = k2 then okD (.str v2) else if s = k3 then okD (.str v3) else none) Q := h2
        by_cases a : s = k1
        · rw [if_pos a] at h2 g
          exact ⟨p, _, rfl, g, h2.val st1.g (.str _)⟩
        · by_cases b : s = k2
          · rw [if_neg a, if_pos b] at h2 g
            exact ⟨p, _, rfl, g, h2.val st1.g (.str _)⟩
          · by_cases c : s = k3
            · rw [if_neg a, if_neg b, if_pos c] at h2 g
              exact ⟨p, _, rfl, g, h2.val st1.g (.str _)⟩
            · rw [if_neg a, if_neg b, if_neg c] at h2
              exact none_post h2
      | _ => exact none_post h2
end PT
/-! PT: a loop that notes in a dict which whole numbers it met, and the lists cut where the first one comes again. -/
namespace PT
open PySem PySem.Spec PyProof.Rows L2
def wMetN (found top fig : Nat) (fF fT f0 : EF) (P : PD) : Nat → List Int → En → Prop
  | 0, _, _ => False
  | n + 1, seen, ρ => ∃ t xs, ρ[top]? = some (some (.d (.int t))) ∧ ρ[found]? = some (some (.own xs)) ∧ xs.length = seen.length ∧ seen.length ≤ 1000 ∧
    ((t ∈ seen ∧ ∃ x, f0 ρ = okD x ∧ P.rt (.d (.tup [x, .lst (cutD xs none (some ((seen.idxOf t : Nat) : Int))), .lst (cutD xs (some ((seen.idxOf t : Nat) : Int)) none)]))) ∨
     (t ∉ seen ∧ ∃ g t', fF ρ = okI g ∧ fT ((ρ.set fig (some (.d (.int g)))).set found (some (.own (xs ++ [.int g])))) = okI t' ∧
       wMetN found top fig fF fT f0 P n (seen ++ [t]) (((ρ.set fig (some (.d (.int g)))).set found (some (.own (xs ++ [.int g])))).set top (some (.d (.int t'))))))
def wMet (met found top fig : Nat) (fF fT f0 : EF) : SF := fun P ρ => (met < ρ.length ∧ found < ρ.length ∧ fig < ρ.length) ∧ ∃ n, wMetN found top fig fF fT f0 P n [] ((ρ.set met none).set found (some (.own [])))
theorem met_two {found top fig : Nat} {fF fT f0 : EF} {P Q : PD} {p : Prop} (t : Two P Q p) : ∀ (n m : Nat) (seen : List Int) (ρ : En), wMetN found top fig fF fT f0 P n seen ρ → wMetN found top fig fF fT f0 Q m seen ρ → p
  | 0, _, _, _, h, _ => h.elim
  | _ + 1, 0, _, _, _, h => h.elim
  | n + 1, m + 1, seen, ρ, h, h' => by
    obtain ⟨t1, xs, a1, a2, a3, a4, h⟩ := h
    obtain ⟨t2, ys, b1, b2, b3, b4, h'⟩ := h'
    rw [a1] at b1; cases b1
    rw [a2] at b2; cases b2
    rcases h with ⟨c1, x, c2, c3⟩ | ⟨c1, g, u, c2, c3, c4⟩ <;> rcases h' with ⟨d1, y, d2, d3⟩ | ⟨d1, g', u', d2, d3, d4⟩
    · rw [c2] at d2; cases d2; exact t.rt _ c3 d3
    · exact (d1 c1).elim
    · exact (c1 d1).elim
    · rw [c2] at d2; cases d2
      rw [c3] at d3; cases d3
      exact met_two t n m _ _ c4 d4
instance {met found top fig : Nat} {fF fT f0 : EF} : Det (wMet met found top fig fF fT f0) := ⟨fun t ⟨_, n, h⟩ ⟨_, m, h'⟩ => met_two t n m _ _ h h'⟩
theorem met_mono {found top fig : Nat} {fF fT f0 : EF} {P Q : PD} (t : Le P Q) : ∀ (n : Nat) (seen : List Int) (ρ : En), wMetN found top fig fF fT f0 P n seen ρ → wMetN found top fig fF fT f0 Q n seen ρ
  | 0, _, _, h => h
  | n + 1, seen, ρ, ⟨t1, xs, a1, a2, a3, a4, h⟩ => by
    refine ⟨t1, xs, a1, a2, a3, a4, ?_⟩
    rcases h with ⟨c1, x, c2, c3⟩ | ⟨c1, g, u, c2, c3, c4⟩
    · exact .inl ⟨c1, x, c2, t.rt _ c3⟩
    · exact .inr ⟨c1, g, u, c2, c3, met_mono t n _ _ c4⟩
theorem met_pick {found top fig : Nat} {fF fT f0 : EF} {P : PD} : ∀ (n : Nat) (seen : List Int) (ρ : En), wMetN found top fig fF fT f0 P n seen ρ → Pick P fun Q => wMetN found top fig fF fT f0 Q n seen ρ
  | 0, _, _, h => h.elim
  | n + 1, seen, ρ, ⟨t1, xs, a1, a2, a3, a4, h⟩ => by
    rcases h with ⟨c1, x, c2, c3⟩ | ⟨c1, g, u, c2, c3, c4⟩
    · exact .rt _ c3 ⟨t1, xs, a1, a2, a3, a4, .inl ⟨c1, x, c2, rfl⟩⟩
    · exact (met_pick n _ _ c4).map fun Q h => ⟨t1, xs, a1, a2, a3, a4, .inr ⟨c1, g, u, c2, c3, h⟩⟩
instance {met found top fig : Nat} {fF fT f0 : EF} : Out (wMet met found top fig fF fT f0) := ⟨fun t ⟨l, n, h⟩ => ⟨l, n, met_mono t n _ _ h⟩, fun ⟨l, n, h⟩ => (met_pick n _ _ h).map fun Q h => ⟨l, n, h⟩⟩
/-! ### the heap -/
section
variable {C : FR} {F H : Hp} {σ : St} {ρ : En} {a : Addr} {kvs kvs' : List (Key × V)}
theorem Good.put (G : Good C F H σ ρ) (hF : F a = none) (h0 : C.H0 a = none) (hd : H a = some (.dK kvs)) : Good C F (upd H a (.dK kvs')) σ ρ := by
  refine ⟨fun b o e => ?_, fun b o e => ?_, G.f0, G.nw, G.len, fun i sv e => ?_, G.ap⟩
  · rw [upd_ne (fun z => by rw [z, hF] at e; cases e)]; exact G.fh b o e
  · rw [upd_ne (fun z => by rw [z, h0] at e; cases e)]; exact G.h0 b o e
  · obtain ⟨w, e1, q⟩ := G.at_ i sv e
    refine ⟨w, e1, ?_⟩
    cases sv with
    | d x => exact q
    | own ys =>
      obtain ⟨p', vs', rfl, hp', rl', fp', h0'⟩ := q
      refine ⟨p', vs', rfl, ?_, rl', fp', h0'⟩
      rw [upd_ne (fun z => by rw [z, hd] at hp'; cases hp')]; exact hp'
/-- a slot that the pure side does not see -/
theorem Good.blind (G : Good C F H σ ρ) (i : Nat) (x : Option V) : Good C F H (σ.set i x) (ρ.set i none) := by
  have key : ∀ (j : Nat) (sv : SV), (ρ.set i none)[j]? = some (some sv) → i ≠ j ∧ ρ[j]? = some (some sv) := fun j sv z => by
    by_cases h : i = j
    · subst h
      by_cases hl : i < ρ.length
      · rw [List.getElem?_set_self hl] at z; cases z
      · rw [List.getElem?_eq_none (by simpa using hl)] at z; cases z
    · rw [List.getElem?_set_ne h] at z; exact ⟨h, z⟩
  refine ⟨G.fh, G.h0, G.f0, G.nw, by simp [G.len], fun j sv z => ?_, fun j k xs ys p hjk z1 z2 z3 z4 => ?_⟩
  · obtain ⟨h, z⟩ := key j sv z
    obtain ⟨v, e, q⟩ := G.at_ j sv z
    exact ⟨v, by rw [List.getElem?_set_ne h]; exact e, q⟩
  · obtain ⟨h1, z1⟩ := key j _ z1
    obtain ⟨h2, z2⟩ := key k _ z2
    rw [List.getElem?_set_ne h1] at z3
    rw [List.getElem?_set_ne h2] at z4
    exact G.ap j k xs ys p hjk z1 z2 z3 z4
theorem Step.aside {F' H' : Hp} {o : HO} (st : Step C σ ρ F H F' H') (hF : F a = none) (hd : H a = some o) : F' a = none ∧ H' a = some o := by
  refine ⟨?_, st.t a o hd⟩
  cases e : F' a with
  | none => rfl
  | some x =>
    rcases st.gr a x e with z | z
    · rw [hF] at z; cases z
    · rw [hd] at z; cases z
end
/-- what the dict holds -/
def Notes (kvs : List (Key × V)) (seen : List Int) : Prop := kvs.length ≤ seen.length ∧ ∀ x : Int, valV kvs (Sum.inl x) = if x ∈ seen then some (.int ((seen.idxOf x : Nat) : Int)) else none
theorem Notes.nil : Notes [] [] := ⟨Nat.le_refl _, fun x => by simp [valV_nil]⟩
theorem Notes.put {kvs : List (Key × V)} {seen : List Int} {t : Int} (h : Notes kvs seen) (ht : t ∉ seen) : Notes (putK kvs (Sum.inl t) (.int ((seen.length : Nat) : Int))) (seen ++ [t]) := by
  refine ⟨?_, fun x => ?_⟩
  · have := length_putK kvs (Sum.inl t : Key) (.int ((seen.length : Nat) : Int))
    have := h.1
    rw [List.length_append]
    simp only [List.length_cons, List.length_nil]
    omega
  · rw [valV_put, h.2, List.idxOf_append]
    by_cases e : x = t
    · subst e
      simp [ht]
    · by_cases hx : x ∈ seen
      · simp [e, hx]
      · simp [e, hx]

section
variable {X : Cx} {C : FR} {fF fT f0 : EF} {P : PD} {D : Ends}
/-- at the loop's head -/
structure AtHead (C : FR) (F0 : Hp) (met fig : Nat) (seen : List Int) (ρ : En) (σ : St) (H : Hp) : Prop where
  g : ∃ (a : Addr) (F : Hp) (kvs : List (Key × V)), (Good C F H σ ρ ∧ Same F0 F ∧ σ[met]? = some (some (.ref a))) ∧ H a = some (.dK kvs) ∧ F a = none ∧ C.H0 a = none ∧ Notes kvs seen
  l : met < ρ.length ∧ fig < ρ.length
theorem s_met {met found top fig : Nat} {st1 st2 b1 b2 b3 b4 rs : Stmt} {c : Expr} {pos : Pos} (fit : Fit X C) (n2 : met ≠ top) (n3 : met ≠ fig) (n4 : fig ≠ found)
    (h1 : PS X st1 (tAsg tDNewK (gName met))) (n1 : met ≠ found) (h2 : PS X st2 (tAsg (tLst tNil) (gName found))) (hT : L2.PT X c (tB (tDNotIn (tVar top) (tVar met))))
    (hB1 : PS X b1 (sDPut (tVar met) (tVar top) (lE C (eLenO found)))) (hB2 : PS X b2 (tAsg (lE C fF) (gName fig))) (hB3 : PS X b3 (tDrop (tBM X.K "list" rAppend (tVar found) (tCons (tVar fig) tNil)))) (hB4 : PS X b4 (tAsg (lE C fT) (gName top)))
    (hR : PS X rs (tRet (tTup (tCons (lE C f0) (tCons (tSl (rSlL X.K) (tVar found) tNoPart (tPart (tDGet (tVar met) (tVar top)))) (tCons (tSl (rSlL X.K) (tVar found) (tPart (tDGet (tVar met) (tVar top))) tNoPart) tNil)))))) :
    PSs X [st1, st2, .While c [b1, b2, b3, b4] [] pos, rs] (lS C (wMet met found top fig fF fT f0)) := by
  refine PSs.imp ?_ (pss_cons h1 (pss_cons h2 (pss_cons (ps_while fit.po hT (pss_cons hB1 (pss_cons hB2 (pss_cons hB3 (pss_cons hB4 pss_nil))))) (pss_cons hR pss_nil))))
  rintro D σ H ⟨ρ, F, P, G, ⟨⟨lm, lf, lg⟩, n0, hw⟩, ft⟩
  -- the dict
  intro a ha
  have G1 : Good C F (upd H a (.dK [])) (σ.set met (some (.ref a))) (ρ.set met none) := (G.lay ha).blind met _
  have a0 : C.H0 a = none := G.h0.free ha
  have aF : F a = none := G.fh.free ha
  -- the list
  refine ⟨by simp, fun b hb => ?_⟩
  have nab : a ≠ b := fun z => by rw [← z, upd_same] at hb; cases hb
  have b0 : C.H0 b = none := G1.h0.free hb
  have bF : F b = none := G1.fh.free hb
  have rb : RepS C.K C.H0 F (upd (upd H a (.dK [])) b (.lst [])) (.own []) (.ref b) := ⟨b, [], rfl, upd_same, .nil, bF, b0⟩
  have rb' : RepS C.K (upd H a (.dK [])) F (upd (upd H a (.dK [])) b (.lst [])) (.own []) (.ref b) := ⟨b, [], rfl, upd_same, .nil, bF, hb⟩
  have G2 := (G1.lay (o := .lst []) hb).set found rb (G1.apart rb')
  have lmσ : met < σ.length := by rw [← G.len]; exact lm
  have head0 : AtHead C F met fig [] ((ρ.set met none).set found (some (.own []))) ((σ.set met (some (.ref a))).set found (some (.ref b))) (upd (upd H a (.dK [])) b (.lst [])) :=
    ⟨⟨a, F, [], ⟨G2, Same.refl F, by rw [List.getElem?_set_ne (Ne.symm n1), List.getElem?_set_self lmσ]⟩, by rw [upd_ne nab, upd_same], aF, a0, Notes.nil⟩, by simp; exact ⟨lm, lg⟩⟩
  -- the loop
  refine ⟨fun m σ' H' => ∃ seen ρ', wMetN found top fig fF fT f0 P m seen ρ' ∧ AtHead C F met fig seen ρ' σ' H', ⟨n0, [], _, hw, head0⟩, ?_⟩
  clear head0 G2 rb rb' bF b0 nab hb G1 lmσ hw
  rintro m σ H ⟨seen, ρ, hw, ⟨⟨a, F1, kvs, ⟨G, sF, em⟩, hd, aF, a0, no⟩, lm, lg⟩⟩
  cases m with
  | zero => exact hw.elim
  | succ m =>
    obtain ⟨t, xs, et, ef, lx, l1000, hw⟩ := hw
    obtain ⟨vt, et', rt⟩ := G.at_ top _ et
    cases rt
    have nk := no.2 t
    have dg := DGet.k (k := (Sum.inl t : Key)) hd
    refine ⟨.int t, et', .ref a, em, a, _, rfl, dg, _, rfl, ?_⟩
    rcases hw with ⟨ht, x, ex, hP⟩ | ⟨ht, g, t', eg, et2, hw⟩
    · -- met before
      rw [if_pos ht] at nk
      rw [nk, if_neg (by simp)]
      refine ⟨ρ, F1, G, ?_⟩
      rw [ex]
      intro v F2 H2 st q
      obtain ⟨aF2, hd2⟩ := st.aside aF hd
      have dg2 := DGet.k (k := (Sum.inl t : Key)) hd2
      rw [nk] at dg2
      obtain ⟨vf, ef', b, vs, rfl, hb, rb, bF, b0⟩ := st.g.at_ found _ ef
      refine ⟨.ref b, ef', ⟨.ref a, em, .int t, et', a, _, rfl, dg2, _, rfl, b, vs, rfl, SqL.of hb, fun p hp => ?_⟩⟩
      -- the first cut
      have G3 := st.g.new (o := .lst (cutV vs none (some ((seen.idxOf t : Nat) : Int)))) hp
      have s3 : Same F2 (upd F2 p (.lst (cutV vs none (some ((seen.idxOf t : Nat) : Int))))) := same_upd (st.g.fh.free hp)
      have sH3 : Same H2 (upd H2 p (.lst (cutV vs none (some ((seen.idxOf t : Nat) : Int))))) := same_upd hp
      have dg3 := DGet.k (k := (Sum.inl t : Key)) (sH3 _ _ hd2)
      rw [nk] at dg3
      refine ⟨.ref b, ef', .ref a, em, .int t, et', a, _, rfl, dg3, _, rfl, b, vs, rfl, SqL.of (sH3 _ _ hb), fun p2 hp2 => ?_⟩
      have G4 := G3.new (o := .lst (cutV vs (some ((seen.idxOf t : Nat) : Int)) none)) hp2
      have s4 : Same _ (upd _ p2 (.lst (cutV vs (some ((seen.idxOf t : Nat) : Int)) none))) := same_upd (G3.fh.free hp2)
      refine ⟨by show 3 ≤ sizeLine; rw [sizeLine_eq]; omega, fun p3 hp3 => ?_⟩
      have G5 := G4.new (o := .tup [v, .ref p, .ref p2]) hp3
      have s5 : Same _ (upd _ p3 (.tup [v, .ref p, .ref p2])) := same_upd (G4.fh.free hp3)
      refine ft.rt σ ρ _ _ _ _ G5 (((sF.trans st.s).trans s3).trans (s4.trans s5)) ?_ hP
      refine Rep.tup (SqT.of upd_same) (.cons ?_ (.cons ?_ (.cons ?_ .nil)))
      · exact Rep.mono ((s3.trans s4).trans s5) _ _ q
      · exact Rep.lst ((s4.trans s5) _ _ upd_same) (RepL.mono ((s3.trans s4).trans s5) _ _ (cut_rep rb none _))
      · exact Rep.lst (s5 _ _ upd_same) (RepL.mono ((s3.trans s4).trans s5) _ _ (cut_rep rb _ none))
    · -- a new one
      rw [if_neg ht] at nk
      rw [nk, if_pos (show (!(none : Option V).isSome) = true from rfl)]
      refine ⟨fun σ' H' => ∃ seen ρ', wMetN found top fig fF fT f0 P m seen ρ' ∧ AtHead C F met fig seen ρ' σ' H', fun σ' H' q => ⟨m, Nat.lt_succ_self m, q⟩, ?_⟩
      refine ⟨ρ, F1, G, ?_⟩
      have el : eLenO found ρ = okI xs.length := by unfold eLenO; rw [ef]
      rw [el]
      intro v F2 H2 st q
      cases q
      obtain ⟨aF2, hd2⟩ := st.aside aF hd
      have kl := no.1
      refine ⟨.ref a, em, .int t, et', a, _, rfl, DPut.k (k := (Sum.inl t : Key)) (v := .int (xs.length : Int)) hd2 (by rw [sizeLine_eq]; omega), ?_⟩
      have G2 := st.g.put (kvs' := putK kvs (Sum.inl t) (.int (xs.length : Int))) aF2 a0 hd2
      have no2 : Notes (putK kvs (Sum.inl t) (.int (xs.length : Int))) (seen ++ [t]) := by rw [lx]; exact no.put ht
      have hd3 : upd H2 a (.dK (putK kvs (Sum.inl t) (.int (xs.length : Int)))) a = some (.dK (putK kvs (Sum.inl t) (.int (xs.length : Int)))) := upd_same
      generalize putK kvs (Sum.inl t) (.int (xs.length : Int)) = kv2 at *
      generalize upd H2 a (.dK kv2) = H3 at *
      -- the figure
      refine ⟨ρ, F2, G2, ?_⟩
      rw [eg]
      intro v F3 H4 st3 q3
      cases q3
      obtain ⟨aF3, hd4⟩ := st3.aside aF2 hd3
      have G3 : Good C F3 H4 (σ.set fig (some (.int g))) (ρ.set fig (some (.d (.int g)))) := st3.g.set fig (sv := .d (.int g)) (.int _) Apart.d
      have lgσ : fig < σ.length := by rw [← G.len]; exact lg
      have em3 : (σ.set fig (some (.int g)))[met]? = some (some (.ref a)) := by rw [List.getElem?_set_ne (Ne.symm n3)]; exact em
      have ef3 : (ρ.set fig (some (.d (.int g))))[found]? = some (some (.own xs)) := by rw [List.getElem?_set_ne n4]; exact ef
      obtain ⟨vf, ef', b, vs, rfl, hb, rb, bF, b0⟩ := G3.at_ found _ ef3
      have nba : a ≠ b := fun z => by rw [z, hb] at hd4; cases hd4
      -- put behind
      refine ⟨.ref b, ef', .inl ⟨rfl, _, SqL.of hb⟩, .int g, List.getElem?_set_self lgσ, b, vs, .int g, rfl, rfl, hb, by rw [← rb.len, sizeLine_eq]; omega, ?_⟩
      have G4 := G3.write ef3 ef' (rb.append (.cons (.int g) .nil))
      have hd5 : upd H4 b (.lst (vs ++ [.int g])) a = some (.dK kv2) := by rw [upd_ne nba]; exact hd4
      generalize upd H4 b (.lst (vs ++ [.int g])) = H5 at *
      -- the next top
      refine ⟨_, F3, G4, ?_⟩
      rw [et2]
      intro v F4 H6 st4 q4
      cases q4
      obtain ⟨aF4, hd6⟩ := st4.aside aF3 hd5
      have G5 := st4.g.set top (sv := .d (.int t')) (.int _) Apart.d
      exact ⟨_, _, hw, ⟨a, F4, kv2, ⟨G5, ((sF.trans st.s).trans st3.s).trans st4.s, by rw [List.getElem?_set_ne (Ne.symm n2)]; exact em3⟩, hd6, aF4, a0, no2⟩, by simp; exact ⟨lm, lg⟩⟩
end
theorem hu1 {n : Nat} (h : n + 65 < cLine) : n + 1 < cLine := by omega
end PT
/-! PM: figures. -/
namespace PT
open PySem (Str)
def k_MOST_BOTTOM : PT.D := .int 300
/-- worth(p, some): slots p, some, total, figure -/
def w_worth : SF := wSeq (wSet 2 (eC (.int 0))) (wSeq (wFor (itA revL (aCons (eVar 1) (aNil))) (gN 3) (wSet 2 (e2 addD (e2 mulD (eVar 2) (eVar 0)) (eVar 3)))) (wRet (eVar 2)))
instance : Det w_worth := by unfold w_worth; infer_instance
instance : Out w_worth := by unfold w_worth; infer_instance
noncomputable def f_worth : List D → Option R := outF 2 4 w_worth
theorem len_worth : ∀ ds r, f_worth ds = some r → ds.length = 2 := outF_len
theorem does_worth : Does 4 w_worth f_worth := outF_does
/-- figures(p, a): slots p, a, top, bottom, deep, by, met, found, figure -/
def w_figures : SF := wSeq (wAsg (eVar 1) (gTup (gCons (gN 2) (gCons (gN 3) (gNil))))) (wSeq (wSet 4 (eCall f_power_of (aCons (eVar 0) (aCons (eVar 3) (aNil))))) (wSeq (wSet 3 (e2 fdivD (eVar 3) (eCall f_raised (aCons (eVar 0) (aCons (eVar 4) (aNil)))))) (wSeq (wIf (cT (e2 gtR (eVar 3) (eC k_MOST_BOTTOM))) (wRaise "TooMany") (wNop)) (wSeq (wSet 5 (eCall f_over_by (aCons (eVar 0) (aCons (eVar 3) (aCons (eC (.int 1)) (aNil)))))) (wMet 6 7 2 8 (e2 modD (e2 mulD (eVar 2) (eVar 5)) (eVar 0)) (e2 fdivD (e2 subD (eVar 2) (e2 mulD (eVar 8) (eVar 3))) (eVar 0)) (e1 negD (eVar 4)))))))
instance : Det w_figures := by unfold w_figures; infer_instance
instance : Out w_figures := by unfold w_figures; infer_instance
noncomputable def f_figures : List D → Option R := outF 2 9 w_figures
theorem len_figures : ∀ ds r, f_figures ds = some r → ds.length = 2 := outF_len
theorem does_figures : Does 9 w_figures f_figures := outF_does
/-- by_figures(p, first, head, again): slots p, first, head, again, behind, whole -/
def w_by_figures : SF := wSeq (wSet 4 (eCall f_fraction (aCons (eCall f_worth (aCons (eVar 0) (aCons (eVar 3) (aNil)))) (aCons (e2 subD (eC (.int 1)) (eCall f_raised (aCons (eVar 0) (aCons (eCall lenR (aCons (eVar 3) (aNil))) (aNil))))) (aNil))))) (wSeq (wSet 5 (eCall f_plus (aCons (eTup (aCons (eCall f_worth (aCons (eVar 0) (aCons (eVar 2) (aNil)))) (aCons (eC (.int 1)) (aNil)))) (aCons (eCall f_times (aCons (eVar 4) (aCons (eCall f_prime_power (aCons (eVar 0) (aCons (eCall lenR (aCons (eVar 2) (aNil))) (aNil)))) (aNil)))) (aNil))))) (wRet (eCall f_times (aCons (eVar 5) (aCons (eCall f_prime_power (aCons (eVar 0) (aCons (eVar 1) (aNil)))) (aNil))))))
instance : Det w_by_figures := by unfold w_by_figures; infer_instance
instance : Out w_by_figures := by unfold w_by_figures; infer_instance
noncomputable def f_by_figures : List D → Option R := outF 4 6 w_by_figures
theorem len_by_figures : ∀ ds r, f_by_figures ds = some r → ds.length = 4 := outF_len
theorem does_by_figures : Does 6 w_by_figures f_by_figures := outF_does

/-- what figures are worth, the least place's first -/
def wrt (p : Int) : List Int → Int
  | [] => 0
  | g :: gs => g + p * wrt p gs
def Figs (p : Int) (gs : List Int) : Prop := ∀ g ∈ gs, 0 ≤ g ∧ g < p
theorem wrt_bd {p : Int} (hp : Pr p) : ∀ gs : List Int, Figs p gs → 0 ≤ wrt p gs ∧ wrt p gs < p ^ gs.length
  | [], _ => by simp [wrt]
  | g :: gs, h => by
    obtain ⟨h1, h2⟩ := wrt_bd hp gs fun x hx => h x (by simp [hx])
    obtain ⟨g0, g1⟩ := h g (by simp)
    have p0 := hp.pos
    show 0 ≤ g + p * wrt p gs ∧ g + p * wrt p gs < p ^ (gs.length + 1)
    rw [Int.pow_succ, Int.mul_comm (p ^ gs.length) p]
    have := Int.mul_nonneg (Int.le_of_lt p0) h1
    have h3 := Int.mul_le_mul_of_nonneg_left (show wrt p gs + 1 ≤ p ^ gs.length by omega) (Int.le_of_lt p0)
    rw [Int.mul_add] at h3
    omega
theorem wrt_app (p : Int) : ∀ (gs hs : List Int), wrt p (gs ++ hs) = wrt p gs + p ^ gs.length * wrt p hs
  | [], hs => by simp [wrt]
  | g :: gs, hs => by
    show g + p * wrt p (gs ++ hs) = g + p * wrt p gs + p ^ (gs.length + 1) * wrt p hs
    rw [wrt_app p gs hs, Int.pow_succ, Int.mul_add, Int.mul_comm (p ^ gs.length) p, Int.mul_assoc]
    omega
theorem ev_worth {p : Int} {gs : List Int} (hp : Pr p) (h : Figs p gs) (l : gs.length ≤ 2000) : f_worth [.int p, .lst (gs.map D.int)] = okI (wrt p gs) := by
  have rv : revL [.lst (gs.map D.int)] = some (.ok (gs.map D.int).reverse) := rfl
  refine outF_ev rfl ?_
  try simp only [List.set_cons_zero, List.set_cons_succ, startE, List.map_cons, List.map_nil, List.replicate, List.cons_append, List.nil_append, List.append_nil, List.length_cons, List.length_nil, Nat.zero_add, Nat.reduceAdd, Nat.reduceSub]
  refine q_set (v := .int 0) (by (simp (disch := first | decide | assumption | omega) only [startE, List.map_cons, List.map_nil, List.replicate, eVar, eC, PT.e1, PT.e2, aNil, aCons, eCall, tupR, lstR, eTup, eLst, eIte, eLenO, eIxO, cT, cAnd, cOr, cNot, andV, orV, notD, truR, truD, bindR, bindRB, bindRL, bindL, bindB, bindBB, bindLL, toD, okD, okI, okB, itA, itD, items_tup, items_lst, items_scr, len_tup, len_lst, len_scr, List.getElem?_cons_zero, List.getElem?_cons_succ, List.length_cons, List.length_nil, List.length_map, List.cons_append, List.nil_append, List.append_nil, Nat.zero_add, Nat.reduceAdd, Nat.reduceSub, Nat.reduceLeDiff, if_true, if_false, ite_true, ite_false, Bool.false_eq_true, reduceIte, Bool.not_true, Bool.not_false, Int.reducePow, Int.reduceToNat, Int.reduceMul, Int.reduceAdd, Int.reduceSub, addD, subD, negD, ltR, leR, gtR, geR, eqR_int, neR_int, eqR_bl, neR_bl, absR, max2R, min2R, intR, mulRi, divRi, powRi, modR, absI, len_fr, len_tb, isiT_fr, isiT_tb, isiI_int, isiB_int, isiB_bl, isiL_lst, isiT_tup, items_tb, items_fr, zip_tb, all4, addD_tup2, addD_lst2, eLc, lcL, cYes, wipeE, gN, gTup_tup, gTup_tb, gTup_fr, gLs_lst, gCons, gNil, tuple_lst, List.set_cons_zero, List.set_cons_succ, List.set_nil, ix_fr0, ix_fr1, ix_tb0, ix_tb1, ix_tb2, ix_tb3, eqR_fr, neR_fr, eqR_tb, neR_tb]; try rfl)) ?_
  try simp only [List.set_cons_zero, List.set_cons_succ, startE, List.map_cons, List.map_nil, List.replicate, List.cons_append, List.nil_append, List.append_nil, List.length_cons, List.length_nil, Nat.zero_add, Nat.reduceAdd, Nat.reduceSub]
  refine q_forN (ds := (gs.map D.int).reverse) (fun j ρ => j ≤ gs.length ∧ ∃ x, ρ = [some (.d (.int p)), some (.d (.lst (gs.map D.int))), some (.d (.int (wrt p (gs.drop (gs.length - j))))), x]) (by (simp (disch := first | decide | assumption | omega) only [startE, List.map_cons, List.map_nil, List.replicate, eVar, eC, PT.e1, PT.e2, aNil, aCons, eCall, tupR, lstR, eTup, eLst, eIte, eLenO, eIxO, cT, cAnd, cOr, cNot, andV, orV, notD, truR, truD, bindR, bindRB, bindRL, bindL, bindB, bindBB, bindLL, toD, okD, okI, okB, itA, itD, items_tup, items_lst, items_scr, len_tup, len_lst, len_scr, List.getElem?_cons_zero, List.getElem?_cons_succ, List.length_cons, List.length_nil, List.length_map, List.cons_append, List.nil_append, List.append_nil, Nat.zero_add, Nat.reduceAdd, Nat.reduceSub, Nat.reduceLeDiff, if_true, if_false, ite_true, ite_false, Bool.false_eq_true, reduceIte, Bool.not_true, Bool.not_false, Int.reducePow, Int.reduceToNat, Int.reduceMul, Int.reduceAdd, Int.reduceSub, addD, subD, negD, ltR, leR, gtR, geR, eqR_int, neR_int, eqR_bl, neR_bl, absR, max2R, min2R, intR, mulRi, divRi, powRi, modR, absI, len_fr, len_tb, isiT_fr, isiT_tb, isiI_int, isiB_int, isiB_bl, isiL_lst, isiT_tup, items_tb, items_fr, zip_tb, all4, addD_tup2, addD_lst2, eLc, lcL, cYes, wipeE, gN, gTup_tup, gTup_tb, gTup_fr, gLs_lst, gCons, gNil, tuple_lst, List.set_cons_zero, List.set_cons_succ, List.set_nil, ix_fr0, ix_fr1, ix_tb0, ix_tb1, ix_tb2, ix_tb3, eqR_fr, neR_fr, eqR_tb, neR_tb, rv]; try rfl)) ⟨Nat.zero_le _, _, by rw [Nat.sub_zero, List.drop_length]; rfl⟩ ?_ ?_
  · rintro ρ ⟨-, x, rfl⟩
    rw [List.length_reverse, List.length_map, Nat.sub_self]
    exact z_ret (sv := .d (.int (wrt p (gs.drop 0)))) (by (simp (disch := first | decide | assumption | omega) only [startE, List.map_cons, List.map_nil, List.replicate, eVar, eC, PT.e1, PT.e2, aNil, aCons, eCall, tupR, lstR, eTup, eLst, eIte, eLenO, eIxO, cT, cAnd, cOr, cNot, andV, orV, notD, truR, truD, bindR, bindRB, bindRL, bindL, bindB, bindBB, bindLL, toD, okD, okI, okB, itA, itD, items_tup, items_lst, items_scr, len_tup, len_lst, len_scr, List.getElem?_cons_zero, List.getElem?_cons_succ, List.length_cons, List.length_nil, List.length_map, List.cons_append, List.nil_append, List.append_nil, Nat.zero_add, Nat.reduceAdd, Nat.reduceSub, Nat.reduceLeDiff, if_true, if_false, ite_true, ite_false, Bool.false_eq_true, reduceIte, Bool.not_true, Bool.not_false, Int.reducePow, Int.reduceToNat, Int.reduceMul, Int.reduceAdd, Int.reduceSub, addD, subD, negD, ltR, leR, gtR, geR, eqR_int, neR_int, eqR_bl, neR_bl, absR, max2R, min2R, intR, mulRi, divRi, powRi, modR, absI, len_fr, len_tb, isiT_fr, isiT_tb, isiI_int, isiB_int, isiB_bl, isiL_lst, isiT_tup, items_tb, items_fr, zip_tb, all4, addD_tup2, addD_lst2, eLc, lcL, cYes, wipeE, gN, gTup_tup, gTup_tb, gTup_fr, gLs_lst, gCons, gNil, tuple_lst, List.set_cons_zero, List.set_cons_succ, List.set_nil, ix_fr0, ix_fr1, ix_tb0, ix_tb1, ix_tb2, ix_tb3, eqR_fr, neR_fr, eqR_tb, neR_tb]; try rfl)) rfl
  · rintro j d ρ K hd ⟨hj, x, rfl⟩ hK
    have lj : j < gs.length := by
      have := (List.getElem?_eq_some_iff.mp hd).1
      rwa [List.length_reverse, List.length_map] at this
    obtain ⟨g, hg, rfl⟩ : ∃ g, gs[gs.length - 1 - j]? = some g ∧ d = .int g := by
      rw [List.getElem?_reverse (by rwa [List.length_map]), List.length_map, List.getElem?_map] at hd
      cases e : gs[gs.length - 1 - j]? with
      | none => rw [e] at hd; cases hd
      | some g => rw [e] at hd; exact ⟨g, rfl, (Option.some.inj hd).symm⟩
    have ed : gs.drop (gs.length - (j + 1)) = g :: gs.drop (gs.length - j) := by
      obtain ⟨lt, eg⟩ := List.getElem?_eq_some_iff.mp hg
      rw [show gs.length - (j + 1) = gs.length - 1 - j by omega, List.drop_eq_getElem_cons lt, eg, show gs.length - 1 - j + 1 = gs.length - j by omega]
    have hf : Figs p (gs.drop (gs.length - j)) := fun x hx => h x (List.mem_of_mem_drop hx)
    obtain ⟨w0, w1⟩ := wrt_bd hp _ hf
    have wl : (gs.drop (gs.length - j)).length ≤ 2000 := by rw [List.length_drop]; omega
    have bw : Bd (wrt p (gs.drop (gs.length - j))) 6001 := ⟨(bd_lt w0 w1 (hp.pow_bd _)).mono (by omega)⟩
    have bp : Bd p 3 := ⟨hp.bd⟩
    have e1 : wrt p (gs.drop (gs.length - j)) * p + g = wrt p (gs.drop (gs.length - (j + 1))) := by
      rw [ed]
      show _ = g + p * _
      rw [Int.mul_comm]; omega
    refine ⟨_, rfl, ?_⟩
    try simp only [List.set_cons_zero, List.set_cons_succ, startE, List.map_cons, List.map_nil, List.replicate, List.cons_append, List.nil_append, List.append_nil, List.length_cons, List.length_nil, Nat.zero_add, Nat.reduceAdd, Nat.reduceSub]
    exact z_set (v := .int (wrt p (gs.drop (gs.length - (j + 1))))) (by (simp (disch := first | decide | assumption | omega) only [startE, List.map_cons, List.map_nil, List.replicate, eVar, eC, PT.e1, PT.e2, aNil, aCons, eCall, tupR, lstR, eTup, eLst, eIte, eLenO, eIxO, cT, cAnd, cOr, cNot, andV, orV, notD, truR, truD, bindR, bindRB, bindRL, bindL, bindB, bindBB, bindLL, toD, okD, okI, okB, itA, itD, items_tup, items_lst, items_scr, len_tup, len_lst, len_scr, List.getElem?_cons_zero, List.getElem?_cons_succ, List.length_cons, List.length_nil, List.length_map, List.cons_append, List.nil_append, List.append_nil, Nat.zero_add, Nat.reduceAdd, Nat.reduceSub, Nat.reduceLeDiff, if_true, if_false, ite_true, ite_false, Bool.false_eq_true, reduceIte, Bool.not_true, Bool.not_false, Int.reducePow, Int.reduceToNat, Int.reduceMul, Int.reduceAdd, Int.reduceSub, addD, subD, negD, ltR, leR, gtR, geR, eqR_int, neR_int, eqR_bl, neR_bl, absR, max2R, min2R, intR, mulRi, divRi, powRi, modR, absI, len_fr, len_tb, isiT_fr, isiT_tb, isiI_int, isiB_int, isiB_bl, isiL_lst, isiT_tup, items_tb, items_fr, zip_tb, all4, addD_tup2, addD_lst2, eLc, lcL, cYes, wipeE, gN, gTup_tup, gTup_tb, gTup_fr, gLs_lst, gCons, gNil, tuple_lst, List.set_cons_zero, List.set_cons_succ, List.set_nil, ix_fr0, ix_fr1, ix_tb0, ix_tb1, ix_tb2, ix_tb3, eqR_fr, neR_fr, eqR_tb, neR_tb, e1]; try rfl)) (hK _ ⟨by omega, _, rfl⟩)

/-- the fraction of figures from a first place on -/
noncomputable def figV (p first : Int) (hs gs : List Int) : Rat := ((wrt p hs : Int) + Rat.divInt (wrt p gs) (1 - p ^ gs.length) * pz p hs.length) * pz p first
theorem one_sub_pow {p : Int} (hp : Pr p) {n : Nat} (h : 0 < n) : 1 - p ^ n ≠ 0 := by
  have h2 := hp.two
  obtain ⟨m, rfl⟩ : ∃ m, n = m + 1 := ⟨n - 1, by omega⟩
  have pm := hp.pow_pos m
  have : p ^ (m + 1) = p ^ m * p := Int.pow_succ ..
  have h3 := Int.mul_le_mul_of_nonneg_left (show 2 ≤ p by omega) (Int.le_of_lt pm)
  omega
theorem wrt_B {p : Int} {gs : List Int} {n : Nat} (hp : Pr p) (h : Figs p gs) (l : gs.length ≤ n) : B (3 * n + 1) (wrt p gs) := by
  obtain ⟨w0, w1⟩ := wrt_bd hp gs h
  exact (bd_lt w0 w1 (hp.pow_bd _)).mono (by omega)
theorem figV_qd {p first : Int} {hs gs : List Int} {n m : Nat} (hp : Pr p) (hh : Figs p hs) (hg : Figs p gs) (g0 : 0 < gs.length) (l1 : hs.length ≤ n) (l2 : gs.length ≤ n) (l3 : first.natAbs ≤ m) : Qd ((wrt p hs : Int) : Rat) (3 * n + 1) ∧ Qd (Rat.divInt (wrt p gs) (1 - p ^ gs.length)) (3 * n + 2) ∧ Qd (pz p hs.length) (3 * n + 1) ∧ Qd (pz p first) (3 * m + 1) := by
  refine ⟨Qd.int (wrt_B hp hh l1) (by omega), ?_, (qd_pz hp _).mono (by omega), (qd_pz hp _).mono (by omega)⟩
  refine B.divInt ((wrt_B hp hg l2).mono (by omega)) ?_ (one_sub_pow hp g0)
  have b1 : B (3 * n + 1) (p ^ gs.length) := (hp.pow_bd _).mono (by omega)
  have pg := hp.pow_pos gs.length
  exact (b1.le (by omega)).mono (by omega)
theorem ev_by_figures {p first : Int} {hs gs : List Int} {n m : Nat} (hp : Pr p) (hh : Figs p hs) (hg : Figs p gs) (g0 : 0 < gs.length) (l1 : hs.length ≤ n) (l2 : gs.length ≤ n) (ln : n ≤ 810) (l3 : first.natAbs ≤ m) (lm : m ≤ 500) : f_by_figures [.int p, .int first, .lst (hs.map D.int), .lst (gs.map D.int)] = okD (fr (figV p first hs gs)) := by
  obtain ⟨q1, q2, q3, q4⟩ := figV_qd (first := first) (m := m) hp hh hg g0 l1 l2 l3
  have w1 := ev_worth hp hh (by omega)
  have w2 := ev_worth hp hg (by omega)
  have n1 : lenR [.lst (gs.map D.int)] = okI (gs.length : Int) := by rw [len_lst, List.length_map]
  have n2 : lenR [.lst (hs.map D.int)] = okI (hs.length : Int) := by rw [len_lst, List.length_map]
  have ra := ev_raised (k := gs.length) hp.bd (by omega)
  have bo : B (3 * n + 2) (1 - p ^ gs.length) := by
    have b1 : B (3 * n + 1) (p ^ gs.length) := (hp.pow_bd _).mono (by omega)
    have pg := hp.pow_pos gs.length
    exact (b1.le (by omega)).mono (by omega)
  have f1 := ev_fraction (t := wrt p gs) bo (one_sub_pow hp g0) (by omega)
  have pp := ev_prime_power (k := (hs.length : Int)) hp (by omega)
  have pf := ev_prime_power (k := first) hp (by omega)
  have t1 := ev_times (q := Rat.divInt (wrt p gs) (1 - p ^ gs.length)) (r := pz p hs.length) (m := 3 * n + 2) (n := 3 * n + 1) (by omega)
  have q5 : Qd (Rat.divInt (wrt p gs) (1 - p ^ gs.length) * pz p hs.length) (6 * n + 3) := (inferInstance : Qd (Rat.divInt (wrt p gs) (1 - p ^ gs.length) * pz p hs.length) (3 * n + 2 + (3 * n + 1))).mono (by omega)
  have p1 := ev_plus (q := ((wrt p hs : Int) : Rat)) (r := Rat.divInt (wrt p gs) (1 - p ^ gs.length) * pz p hs.length) (m := 3 * n + 1) (n := 6 * n + 3) (by omega)
  have ei : D.tup [.int (wrt p hs), .int 1] = fr ((wrt p hs : Int) : Rat) := rfl
  unfold figV
  generalize Rat.divInt (wrt p gs) (1 - p ^ gs.length) * pz p hs.length = u at *
  generalize ((wrt p hs : Int) : Rat) = v at *
  have q6 : Qd (v + u) (9 * n + 5) := (inferInstance : Qd (v + u) (3 * n + 1 + (6 * n + 3) + 1)).mono (by omega)
  have t2 := ev_times (q := v + u) (r := pz p first) (m := 9 * n + 5) (n := 3 * m + 1) (by omega)
  refine outF_ev rfl ?_
  try simp only [List.set_cons_zero, List.set_cons_succ, startE, List.map_cons, List.map_nil, List.replicate, List.cons_append, List.nil_append, List.append_nil, List.length_cons, List.length_nil, Nat.zero_add, Nat.reduceAdd, Nat.reduceSub]
  refine q_set (v := fr (Rat.divInt (wrt p gs) (1 - p ^ gs.length))) (by (simp (disch := first | decide | assumption | omega) only [startE, List.map_cons, List.map_nil, List.replicate, eVar, eC, PT.e1, PT.e2, aNil, aCons, eCall, tupR, lstR, eTup, eLst, eIte, eLenO, eIxO, cT, cAnd, cOr, cNot, andV, orV, notD, truR, truD, bindR, bindRB, bindRL, bindL, bindB, bindBB, bindLL, toD, okD, okI, okB, itA, itD, items_tup, items_lst, items_scr, len_tup, len_lst, len_scr, List.getElem?_cons_zero, List.getElem?_cons_succ, List.length_cons, List.length_nil, List.length_map, List.cons_append, List.nil_append, List.append_nil, Nat.zero_add, Nat.reduceAdd, Nat.reduceSub, Nat.reduceLeDiff, if_true, if_false, ite_true, ite_false, Bool.false_eq_true, reduceIte, Bool.not_true, Bool.not_false, Int.reducePow, Int.reduceToNat, Int.reduceMul, Int.reduceAdd, Int.reduceSub, addD, subD, negD, ltR, leR, gtR, geR, eqR_int, neR_int, eqR_bl, neR_bl, absR, max2R, min2R, intR, mulRi, divRi, powRi, modR, absI, len_fr, len_tb, isiT_fr, isiT_tb, isiI_int, isiB_int, isiB_bl, isiL_lst, isiT_tup, items_tb, items_fr, zip_tb, all4, addD_tup2, addD_lst2, eLc, lcL, cYes, wipeE, gN, gTup_tup, gTup_tb, gTup_fr, gLs_lst, gCons, gNil, tuple_lst, List.set_cons_zero, List.set_cons_succ, List.set_nil, ix_fr0, ix_fr1, ix_tb0, ix_tb1, ix_tb2, ix_tb3, eqR_fr, neR_fr, eqR_tb, neR_tb, w2, n1, ra, f1]; try rfl)) ?_
  try simp only [List.set_cons_zero, List.set_cons_succ, startE, List.map_cons, List.map_nil, List.replicate, List.cons_append, List.nil_append, List.append_nil, List.length_cons, List.length_nil, Nat.zero_add, Nat.reduceAdd, Nat.reduceSub]
  refine q_set (v := fr (v + u)) (by (simp (disch := first | decide | assumption | omega) only [startE, List.map_cons, List.map_nil, List.replicate, eVar, eC, PT.e1, PT.e2, aNil, aCons, eCall, tupR, lstR, eTup, eLst, eIte, eLenO, eIxO, cT, cAnd, cOr, cNot, andV, orV, notD, truR, truD, bindR, bindRB, bindRL, bindL, bindB, bindBB, bindLL, toD, okD, okI, okB, itA, itD, items_tup, items_lst, items_scr, len_tup, len_lst, len_scr, List.getElem?_cons_zero, List.getElem?_cons_succ, List.length_cons, List.length_nil, List.length_map, List.cons_append, List.nil_append, List.append_nil, Nat.zero_add, Nat.reduceAdd, Nat.reduceSub, Nat.reduceLeDiff, if_true, if_false, ite_true, ite_false, Bool.false_eq_true, reduceIte, Bool.not_true, Bool.not_false, Int.reducePow, Int.reduceToNat, Int.reduceMul, Int.reduceAdd, Int.reduceSub, addD, subD, negD, ltR, leR, gtR, geR, eqR_int, neR_int, eqR_bl, neR_bl, absR, max2R, min2R, intR, mulRi, divRi, powRi, modR, absI, len_fr, len_tb, isiT_fr, isiT_tb, isiI_int, isiB_int, isiB_bl, isiL_lst, isiT_tup, items_tb, items_fr, zip_tb, all4, addD_tup2, addD_lst2, eLc, lcL, cYes, wipeE, gN, gTup_tup, gTup_tb, gTup_fr, gLs_lst, gCons, gNil, tuple_lst, List.set_cons_zero, List.set_cons_succ, List.set_nil, ix_fr0, ix_fr1, ix_tb0, ix_tb1, ix_tb2, ix_tb3, eqR_fr, neR_fr, eqR_tb, neR_tb, w1, n2, pp, ei, t1, p1]; try rfl)) ?_
  try simp only [List.set_cons_zero, List.set_cons_succ, startE, List.map_cons, List.map_nil, List.replicate, List.cons_append, List.nil_append, List.append_nil, List.length_cons, List.length_nil, Nat.zero_add, Nat.reduceAdd, Nat.reduceSub]
  exact z_ret (sv := .d (fr ((v + u) * pz p first))) (by (simp (disch := first | decide | assumption | omega) only [startE, List.map_cons, List.map_nil, List.replicate, eVar, eC, PT.e1, PT.e2, aNil, aCons, eCall, tupR, lstR, eTup, eLst, eIte, eLenO, eIxO, cT, cAnd, cOr, cNot, andV, orV, notD, truR, truD, bindR, bindRB, bindRL, bindL, bindB, bindBB, bindLL, toD, okD, okI, okB, itA, itD, items_tup, items_lst, items_scr, len_tup, len_lst, len_scr, List.getElem?_cons_zero, List.getElem?_cons_succ, List.length_cons, List.length_nil, List.length_map, List.cons_append, List.nil_append, List.append_nil, Nat.zero_add, Nat.reduceAdd, Nat.reduceSub, Nat.reduceLeDiff, if_true, if_false, ite_true, ite_false, Bool.false_eq_true, reduceIte, Bool.not_true, Bool.not_false, Int.reducePow, Int.reduceToNat, Int.reduceMul, Int.reduceAdd, Int.reduceSub, addD, subD, negD, ltR, leR, gtR, geR, eqR_int, neR_int, eqR_bl, neR_bl, absR, max2R, min2R, intR, mulRi, divRi, powRi, modR, absI, len_fr, len_tb, isiT_fr, isiT_tb, isiI_int, isiB_int, isiB_bl, isiL_lst, isiT_tup, items_tb, items_fr, zip_tb, all4, addD_tup2, addD_lst2, eLc, lcL, cYes, wipeE, gN, gTup_tup, gTup_tb, gTup_fr, gLs_lst, gCons, gNil, tuple_lst, List.set_cons_zero, List.set_cons_succ, List.set_nil, ix_fr0, ix_fr1, ix_tb0, ix_tb1, ix_tb2, ix_tb3, eqR_fr, neR_fr, eqR_tb, neR_tb, pf, t2]; try rfl)) rfl

/-! ### figures come again -/
theorem pigeon : ∀ (n : Nat) (f : Nat → Nat), (∀ i, i ≤ n → f i < n) → ∃ i j, i < j ∧ j ≤ n ∧ f i = f j
  | 0, f, h => absurd (h 0 (Nat.le_refl 0)) (Nat.not_lt_zero _)
  | n + 1, f, h => by
    by_cases e : ∃ i, i ≤ n ∧ f i = f (n + 1)
    · obtain ⟨i, hi, e⟩ := e
      exact ⟨i, n + 1, by omega, Nat.le_refl _, e⟩
    · have ne : ∀ i, i ≤ n → f i ≠ f (n + 1) := fun i hi z => e ⟨i, hi, z⟩
      obtain ⟨i, j, hij, hj, e2⟩ := pigeon n (fun i => if f i = n then f (n + 1) else f i) fun i hi => by
        show (if f i = n then f (n + 1) else f i) < n
        have h1 := h i (by omega)
        have h2 := h (n + 1) (Nat.le_refl _)
        have h3 := ne i hi
        split <;> omega
      have e2 : (if f i = n then f (n + 1) else f i) = (if f j = n then f (n + 1) else f j) := e2
      have h1 := ne i (by omega)
      have h2 := ne j hj
      refine ⟨i, j, hij, by omega, ?_⟩
      by_cases a : f i = n <;> by_cases b : f j = n
      · omega
      · rw [if_pos a, if_neg b] at e2; omega
      · rw [if_neg a, if_pos b] at e2; omega
      · rw [if_neg a, if_neg b] at e2; exact e2
/-- what is left of the top, figure by figure -/
def lft (p b y t0 : Int) : Nat → Int
  | 0 => t0
  | i + 1 => (lft p b y t0 i - lft p b y t0 i * y % p * b) / p
def fgr (p b y t0 : Int) (i : Nat) : Int := lft p b y t0 i * y % p
def figsL (p b y t0 : Int) (n : Nat) : List Int := (List.range n).map (fgr p b y t0)
section
variable {p b y t0 : Int}
theorem fgr_ok (hp : Pr p) (i : Nat) : 0 ≤ fgr p b y t0 i ∧ fgr p b y t0 i < p := ⟨Int.emod_nonneg _ (by have := hp.pos; omega), Int.emod_lt_of_pos _ hp.pos⟩
theorem figsL_ok (hp : Pr p) (n : Nat) : Figs p (figsL p b y t0 n) := fun g hg => by
  obtain ⟨i, -, rfl⟩ := List.mem_map.mp hg
  exact fgr_ok hp i
theorem lft_step (hp : Pr p) (hy : p ∣ b * y - 1) (i : Nat) : lft p b y t0 i = fgr p b y t0 i * b + p * lft p b y t0 (i + 1) := by
  have h : p ∣ lft p b y t0 i - fgr p b y t0 i * b := by
    obtain ⟨c, hc⟩ := hy
    have e := Int.emod_add_mul_ediv (lft p b y t0 i * y) p
    refine ⟨-(c * lft p b y t0 i) + lft p b y t0 i * y / p * b, ?_⟩
    have e2 : fgr p b y t0 i = lft p b y t0 i * y - p * (lft p b y t0 i * y / p) := by show lft p b y t0 i * y % p = _; omega
    rw [e2]
    generalize lft p b y t0 i = t at *
    generalize t * y / p = q at *
    have e3 : b * y = 1 + p * c := by omega
    have e4 : t * y * b = t * (b * y) := by rw [Int.mul_comm b y, Int.mul_assoc]
    rw [Int.sub_mul, e4, e3, Int.mul_add, Int.mul_add, Int.mul_one, Int.mul_neg]
    have e5 : t * (p * c) = p * (c * t) := by rw [Int.mul_comm t, Int.mul_assoc]
    have e6 : p * q * b = p * (q * b) := Int.mul_assoc ..
    rw [e5, e6]; omega
  show _ = fgr p b y t0 i * b + p * ((lft p b y t0 i - fgr p b y t0 i * b) / p)
  rw [Int.mul_ediv_cancel' h]; omega
theorem figsL_len (n : Nat) : (figsL p b y t0 n).length = n := by unfold figsL; simp
theorem lft_all (hp : Pr p) (hy : p ∣ b * y - 1) : ∀ n : Nat, t0 = b * wrt p (figsL p b y t0 n) + p ^ n * lft p b y t0 n
  | 0 => by
    show t0 = b * 0 + p ^ 0 * t0
    rw [Int.pow_zero]; omega
  | n + 1 => by
    have ih := lft_all hp hy n
    have st := lft_step (t0 := t0) hp hy n
    have e : figsL p b y t0 (n + 1) = figsL p b y t0 n ++ [fgr p b y t0 n] := by unfold figsL; rw [List.range_succ, List.map_append]; rfl
    rw [e, wrt_app, figsL_len]
    have e1 : wrt p [fgr p b y t0 n] = fgr p b y t0 n := by show fgr p b y t0 n + p * 0 = _; omega
    rw [e1, Int.pow_succ]
    rw [st] at ih
    generalize wrt p (figsL p b y t0 n) = W at *
    generalize fgr p b y t0 n = g at *
    generalize lft p b y t0 (n + 1) = u at *
    generalize p ^ n = P at *
    rw [ih]; grind
/-- after so many steps little is left -/
theorem lft_small (hp : Pr p) (hy : p ∣ b * y - 1) (b0 : 0 < b) : ∀ (K i : Nat), i ≤ K → t0 < p ^ K → -(t0 + b) < p ^ K → lft p b y t0 i < p ^ (K - i) ∧ -(lft p b y t0 i + b) < p ^ (K - i)
  | K, 0, _, h1, h2 => ⟨h1, h2⟩
  | K, i + 1, hi, h1, h2 => by
    obtain ⟨a1, a2⟩ := lft_small hp hy b0 K i (by omega) h1 h2
    have st := lft_step (t0 := t0) hp hy i
    obtain ⟨g0, g1⟩ := fgr_ok (b := b) (y := y) (t0 := t0) hp i
    have p0 := hp.pos
    have gb := Int.mul_nonneg g0 (Int.le_of_lt b0)
    have gb2 := Int.mul_le_mul_of_nonneg_right (show fgr p b y t0 i ≤ p - 1 by omega) (Int.le_of_lt b0)
    rw [Int.sub_mul, Int.one_mul] at gb2
    have ep : p ^ (K - i) = p * p ^ (K - (i + 1)) := by
      rw [show K - i = (K - (i + 1)) + 1 by omega, Int.pow_succ, Int.mul_comm]
    rw [ep] at a1 a2
    constructor
    · refine Int.lt_of_mul_lt_mul_left (a := p) ?_ (Int.le_of_lt p0)
      omega
    · refine Int.lt_of_mul_lt_mul_left (a := p) ?_ (Int.le_of_lt p0)
      rw [Int.mul_neg, Int.mul_add]
      omega
theorem lft_low (hp : Pr p) (hy : p ∣ b * y - 1) (b0 : 0 < b) {K : Nat} (h1 : t0 < p ^ K) (h2 : -(t0 + b) < p ^ K) : ∀ j : Nat, lft p b y t0 (K + j) ≤ 0 ∧ -b ≤ lft p b y t0 (K + j)
  | 0 => by
    obtain ⟨a1, a2⟩ := lft_small hp hy b0 K K (Nat.le_refl _) h1 h2
    rw [Nat.sub_self, Int.pow_zero] at a1 a2
    exact ⟨by show lft p b y t0 K ≤ 0; omega, by show -b ≤ lft p b y t0 K; omega⟩
  | j + 1 => by
    obtain ⟨a1, a2⟩ := lft_low hp hy b0 h1 h2 j
    have st := lft_step (t0 := t0) hp hy (K + j)
    obtain ⟨g0, g1⟩ := fgr_ok (b := b) (y := y) (t0 := t0) hp (K + j)
    have p0 := hp.pos
    have gb := Int.mul_nonneg g0 (Int.le_of_lt b0)
    have gb2 := Int.mul_le_mul_of_nonneg_right (show fgr p b y t0 (K + j) ≤ p - 1 by omega) (Int.le_of_lt b0)
    rw [Int.sub_mul, Int.one_mul] at gb2
    show lft p b y t0 (K + j + 1) ≤ 0 ∧ -b ≤ lft p b y t0 (K + j + 1)
    generalize lft p b y t0 (K + j + 1) = u at *
    constructor
    · rcases Int.lt_or_le 0 u with z | z
      · have := Int.mul_le_mul_of_nonneg_left (show 1 ≤ u by omega) (Int.le_of_lt p0)
        omega
      · exact z
    · rcases Int.lt_or_le u (-b) with z | z
      · have := Int.mul_le_mul_of_nonneg_left (show u + b + 1 ≤ 0 by omega) (Int.le_of_lt p0)
        rw [Int.mul_add, Int.mul_add] at this
        omega
      · exact z
/-- the first one that comes again -/
theorem lft_again (hp : Pr p) (hy : p ∣ b * y - 1) (b0 : 0 < b) {K : Nat} (h1 : t0 < p ^ K) (h2 : -(t0 + b) < p ^ K) : ∃ n m : Nat, n ≤ K + b.toNat + 1 ∧ m < n ∧ lft p b y t0 n = lft p b y t0 m ∧ ∀ i j, i < j → j < n → lft p b y t0 i ≠ lft p b y t0 j := by
  obtain ⟨i, j, hij, hj, e⟩ := pigeon (b.toNat + 1) (fun i => (lft p b y t0 (K + i) + b).toNat) fun i hi => by
    obtain ⟨a1, a2⟩ := lft_low hp hy b0 h1 h2 i
    show (lft p b y t0 (K + i) + b).toNat < _
    omega
  have e : (lft p b y t0 (K + i) + b).toNat = (lft p b y t0 (K + j) + b).toNat := e
  obtain ⟨a1, a2⟩ := lft_low hp hy b0 h1 h2 i
  obtain ⟨c1, c2⟩ := lft_low hp hy b0 h1 h2 j
  have ex : ∃ n, n ≤ K + b.toNat + 1 ∧ ∃ m, m < n ∧ lft p b y t0 n = lft p b y t0 m := ⟨K + j, by omega, K + i, by omega, by omega⟩
  -- the least
  have least : ∀ N : Nat, (∃ n, n ≤ N ∧ ∃ m, m < n ∧ lft p b y t0 n = lft p b y t0 m) → ∃ n m, n ≤ N ∧ m < n ∧ lft p b y t0 n = lft p b y t0 m ∧ ∀ i j, i < j → j < n → lft p b y t0 i ≠ lft p b y t0 j := by
    intro N
    induction N with
    | zero => rintro ⟨n, hn, m, hm, -⟩; omega
    | succ N ih =>
      intro h
      by_cases q : ∃ n, n ≤ N ∧ ∃ m, m < n ∧ lft p b y t0 n = lft p b y t0 m
      · obtain ⟨n, m, l1, l2, l3, l4⟩ := ih q
        exact ⟨n, m, by omega, l2, l3, l4⟩
      · obtain ⟨n, hn, m, hm, e⟩ := h
        refine ⟨n, m, hn, hm, e, fun i j hij hj z => q ⟨j, by omega, i, hij, z.symm⟩⟩
  exact least _ ex
end

theorem cut_head (ds : List D) {m : Nat} (h : m ≤ ds.length) : cutD ds none (some (m : Int)) = ds.take m := by
  have e1 : HT.sIx ds.length ds.length (some (m : Int)) = min m ds.length := HT.sIx_nat _ _ m
  have e2 : HT.sIx ds.length 0 none = 0 := rfl
  unfold cutD
  rw [e1, e2, Nat.min_eq_left h, List.drop_zero, Nat.sub_zero]
theorem cut_rest (ds : List D) {m : Nat} (h : m ≤ ds.length) : cutD ds (some (m : Int)) none = ds.drop m := by
  have e1 : HT.sIx ds.length 0 (some (m : Int)) = min m ds.length := HT.sIx_nat _ _ m
  have e2 : HT.sIx ds.length ds.length none = ds.length := rfl
  unfold cutD
  rw [e1, e2, Nat.min_eq_left h, List.take_of_length_le (by rw [List.length_drop]; omega)]
section
variable {p b y t0 : Int}
theorem lft_B (hp : Pr p) (hy : p ∣ b * y - 1) (b0 : 0 < b) (b1 : b ≤ 300) {K : Nat} (h1 : t0 < p ^ K) (h2 : -(t0 + b) < p ^ K) (i : Nat) : B (3 * K + 11) (lft p b y t0 i) := by
  have pK := hp.pow_pos K
  have bK := hp.pow_bd K
  have hx : -(p ^ K + b) ≤ lft p b y t0 i ∧ lft p b y t0 i ≤ p ^ K := by
    rcases Nat.lt_or_ge K i with z | z
    · obtain ⟨j, rfl⟩ : ∃ j, i = K + j := ⟨i - K, by omega⟩
      obtain ⟨a1, a2⟩ := lft_low hp hy b0 h1 h2 j
      omega
    · obtain ⟨a1, a2⟩ := lft_small hp hy b0 K i z h1 h2
      have pl : p ^ (K - i) ≤ p ^ K := by
        obtain ⟨j, hj⟩ : ∃ j, K = K - i + j := ⟨i, by omega⟩
        have e : p ^ K = p ^ (K - i) * p ^ j := by rw [← Int.pow_add, ← hj]
        rw [e]
        have q1 := hp.pow_pos (K - i)
        have q2 := hp.pow_pos j
        have := Int.mul_le_mul_of_nonneg_left (show 1 ≤ p ^ j by omega) (Int.le_of_lt q1)
        rw [Int.mul_one] at this
        exact this
      omega
  have k1 : (p ^ K).natAbs < 2 ^ (3 * K + 1) := bK
  have k2 : 2 ^ (3 * K + 11) = 2 ^ (3 * K + 1) * 1024 := by rw [show 3 * K + 11 = 3 * K + 1 + 10 by omega, Nat.pow_add]
  show (lft p b y t0 i).natAbs < 2 ^ (3 * K + 11)
  have k3 := Nat.two_pow_pos (3 * K + 1)
  rw [k2]
  generalize 2 ^ (3 * K + 1) = M at *
  omega
theorem idx_again {f : Nat → Int} {n m : Nat} (hm : m < n) (e : f n = f m) (ne : ∀ i j, i < j → j < n → f i ≠ f j) : f n ∈ (List.range n).map f ∧ ((List.range n).map f).idxOf (f n) = m := by
  have mem : f n ∈ (List.range n).map f := List.mem_map.mpr ⟨m, List.mem_range.mpr hm, e.symm⟩
  refine ⟨mem, ?_⟩
  have hl := List.idxOf_lt_length_of_mem mem
  have hg := List.getElem_idxOf hl
  rw [List.getElem_map, List.getElem_range] at hg
  rw [List.length_map, List.length_range] at hl
  generalize ((List.range n).map f).idxOf (f n) = i at *
  rw [e] at hg
  rcases Nat.lt_trichotomy i m with z | z | z
  · exact (ne i m z hm hg).elim
  · exact z
  · exact (ne m i z hl hg.symm).elim
theorem idx_new {f : Nat → Int} {n i : Nat} (hi : i < n) (ne : ∀ i j, i < j → j < n → f i ≠ f j) : f i ∉ (List.range i).map f := fun h => by
  obtain ⟨j, hj, e⟩ := List.mem_map.mp h
  exact ne j i (List.mem_range.mp hj) hi e
end
theorem figsL_take {p b y t0 : Int} {n m : Nat} (h : m ≤ n) : (figsL p b y t0 n).take m = figsL p b y t0 m := by
  unfold figsL
  rw [← List.map_take, List.take_range, Nat.min_eq_left h]
/-- what figures tells -/
theorem ev_figures {p : Int} {a : Rat} {n K : Nat} (hp : Pr p) (q : Qd a n) (ln : n ≤ 4000) (hK : (a.num.natAbs : Int) < p ^ K) (lK : K ≤ 650) (hb : (a.den : Int) / p ^ vp p (a.den : Int) ≤ 300) :
    ∃ d : D, (∃ hs gs : List Int, d = .tup [.int (-(vp p (a.den : Int) : Int)), .lst (hs.map D.int), .lst (gs.map D.int)] ∧ Figs p hs ∧ Figs p gs ∧ 0 < gs.length ∧ hs.length + gs.length ≤ K + 301 ∧ figV p (-(vp p (a.den : Int) : Int)) hs gs = a) ∧ f_figures [.int p, fr a] = okD d := by
  have dn := den_ne a
  have dp := den_pos a
  have vl : vp p (a.den : Int) < n := vp_lt hp.two dn q.den
  obtain ⟨m0, hm0, zm0⟩ := vp_spec hp.two dn
  have epow := ev_power_of hp dn
  generalize hd : vp p (a.den : Int) = d at *
  have pd := hp.pow_pos d
  have hm1 : (a.den : Int) / p ^ d = m0 := by rw [hm0]; exact Int.mul_ediv_cancel_left _ (by omega)
  rw [hm1] at hb
  have b0 : 0 < m0 := by
    rcases Int.lt_or_le 0 m0 with z | z
    · exact z
    · have := Int.mul_nonpos_of_nonneg_of_nonpos (Int.le_of_lt pd) z
      omega
  have bm : B 9 m0 := B.of (by omega) (by omega)
  obtain ⟨y, ⟨y0, y1, hy⟩, ey⟩ := ev_over_by (k := 1) hp bm (fun _ => zm0) (by decide) (by decide)
  rw [Int.pow_one] at y1 hy
  have ey : f_over_by [.int p, .int m0, .int 1] = okI y := ey
  have p7 := hp.le
  obtain ⟨N, m, lN, lm, eN, ne⟩ := lft_again (t0 := a.num) (K := K) hp hy b0 (by omega) (by omega)
  have era := ev_raised (k := d) hp.bd (by omega)
  have edv : fdivD (.int (a.den : Int)) (.int (p ^ d)) = okI m0 := by
    rw [← hm1]
    have bpd : B n (p ^ d) := q.den.le (by
      rw [hm0, Int.natAbs_mul]
      exact Nat.le_mul_of_pos_right _ (by omega))
    exact divR pd bpd (by omega)
  obtain ⟨im, ie⟩ := idx_again (f := lft p m0 y a.num) lm eN ne
  have hs0 := figsL_ok (b := m0) (y := y) (t0 := a.num) hp m
  have hN0 := figsL_ok (b := m0) (y := y) (t0 := a.num) hp N
  have lenN := figsL_len (p := p) (b := m0) (y := y) (t0 := a.num) N
  have tk := figsL_take (p := p) (b := m0) (y := y) (t0 := a.num) (Nat.le_of_lt lm)
  refine ⟨_, ⟨figsL p m0 y a.num m, (figsL p m0 y a.num N).drop m, rfl, hs0, fun g hg => hN0 g (List.mem_of_mem_drop hg), by rw [List.length_drop, lenN]; omega, by rw [List.length_drop, lenN, figsL_len]; omega, ?_⟩, ?_⟩
  · -- the value
    have a1 := lft_all (t0 := a.num) hp hy m
    have a2 := lft_all (t0 := a.num) hp hy N
    have a3 : figsL p m0 y a.num N = figsL p m0 y a.num m ++ (figsL p m0 y a.num N).drop m := by rw [← tk, List.take_append_drop]
    have lg : ((figsL p m0 y a.num N).drop m).length = N - m := by rw [List.length_drop, lenN]
    generalize (figsL p m0 y a.num N).drop m = gs at *
    rw [a3, wrt_app, figsL_len, eN] at a2
    unfold figV
    rw [figsL_len, lg, pz_nat, pz_neg, pz_nat]
    have ep : p ^ N = p ^ m * p ^ (N - m) := by rw [← Int.pow_add, show m + (N - m) = N by omega]
    rw [ep] at a2
    have pm := hp.pow_pos m
    have c0 := one_sub_pow hp (show 0 < N - m by omega)
    generalize p ^ (N - m) = c at *
    generalize wrt p (figsL p m0 y a.num m) = W at *
    generalize wrt p gs = G at *
    generalize lft p m0 y a.num m = u at *
    generalize p ^ m = R at *
    have hG : u * (1 - c) = m0 * G := by
      refine Int.eq_of_mul_eq_mul_left (a := R) (by omega) ?_
      rw [a1] at a2
      grind
    have eG : Rat.divInt G (1 - c) = (u : Rat) / (m0 : Rat) := by
      have h1 : ((1 - c : Int) : Rat) ≠ 0 := cast_ne c0
      have h2 : (m0 : Rat) ≠ 0 := cast_ne (by omega)
      have h3 : (u : Rat) * ((1 - c : Int) : Rat) = (m0 : Rat) * (G : Rat) := by exact_mod_cast hG
      rw [Rat.divInt_eq_div]
      grind
    rw [eG]
    have h2 : (m0 : Rat) ≠ 0 := cast_ne (by omega)
    have h4 : ((p ^ d : Int) : Rat) ≠ 0 := cast_ne (by omega)
    have h5 : (a.num : Rat) = (m0 : Rat) * (W : Rat) + (R : Rat) * (u : Rat) := by exact_mod_cast a1
    have h6 : ((a.den : Int) : Rat) = ((p ^ d : Int) : Rat) * (m0 : Rat) := by rw [← Rat.intCast_mul, ← hm0]
    have h7 := num_den a
    rw [h5, h6] at h7
    rw [← h7]
    generalize ((p ^ d : Int) : Rat) = Q at *
    grind
  · refine outF_ev rfl ?_
    have gt : ∀ ρ, gTup (gCons (gN 2) (gCons (gN 3) (gNil))) (fr a) ρ = some ((ρ.set 2 (some (.d (.int a.num)))).set 3 (some (.d (.int (a.den : Int))))) := fun _ => rfl
    have db : decide (m0 > 300) = false := decide_eq_false (by omega)
    have bp : Bd p 3 := ⟨hp.bd⟩
    have by_ : Bd y 3 := ⟨B.of (by omega) (by omega)⟩
    have bm9 : Bd m0 9 := ⟨bm⟩
    try simp only [List.set_cons_zero, List.set_cons_succ, startE, List.map_cons, List.map_nil, List.replicate, List.cons_append, List.nil_append, List.append_nil, List.length_cons, List.length_nil, Nat.zero_add, Nat.reduceAdd, Nat.reduceSub]
    refine q_asg (sv := .d (fr a)) (by (simp (disch := first | decide | assumption | omega) only [startE, List.map_cons, List.map_nil, List.replicate, eVar, eC, PT.e1, PT.e2, aNil, aCons, eCall, tupR, lstR, eTup, eLst, eIte, eLenO, eIxO, cT, cAnd, cOr, cNot, andV, orV, notD, truR, truD, bindR, bindRB, bindRL, bindL, bindB, bindBB, bindLL, toD, okD, okI, okB, itA, itD, items_tup, items_lst, items_scr, len_tup, len_lst, len_scr, List.getElem?_cons_zero, List.getElem?_cons_succ, List.length_cons, List.length_nil, List.length_map, List.cons_append, List.nil_append, List.append_nil, Nat.zero_add, Nat.reduceAdd, Nat.reduceSub, Nat.reduceLeDiff, if_true, if_false, ite_true, ite_false, Bool.false_eq_true, reduceIte, Bool.not_true, Bool.not_false, Int.reducePow, Int.reduceToNat, Int.reduceMul, Int.reduceAdd, Int.reduceSub, addD, subD, negD, ltR, leR, gtR, geR, eqR_int, neR_int, eqR_bl, neR_bl, absR, max2R, min2R, intR, mulRi, divRi, powRi, modR, absI, len_fr, len_tb, isiT_fr, isiT_tb, isiI_int, isiB_int, isiB_bl, isiL_lst, isiT_tup, items_tb, items_fr, zip_tb, all4, addD_tup2, addD_lst2, eLc, lcL, cYes, wipeE, gN, gTup_tup, gTup_tb, gTup_fr, gLs_lst, gCons, gNil, tuple_lst, List.set_cons_zero, List.set_cons_succ, List.set_nil, ix_fr0, ix_fr1, ix_tb0, ix_tb1, ix_tb2, ix_tb3, eqR_fr, neR_fr, eqR_tb, neR_tb]; try rfl)) (gt _) ?_
    try simp only [List.set_cons_zero, List.set_cons_succ, startE, List.map_cons, List.map_nil, List.replicate, List.cons_append, List.nil_append, List.append_nil, List.length_cons, List.length_nil, Nat.zero_add, Nat.reduceAdd, Nat.reduceSub]
    refine q_set (v := .int d) (by (simp (disch := first | decide | assumption | omega) only [startE, List.map_cons, List.map_nil, List.replicate, eVar, eC, PT.e1, PT.e2, aNil, aCons, eCall, tupR, lstR, eTup, eLst, eIte, eLenO, eIxO, cT, cAnd, cOr, cNot, andV, orV, notD, truR, truD, bindR, bindRB, bindRL, bindL, bindB, bindBB, bindLL, toD, okD, okI, okB, itA, itD, items_tup, items_lst, items_scr, len_tup, len_lst, len_scr, List.getElem?_cons_zero, List.getElem?_cons_succ, List.length_cons, List.length_nil, List.length_map, List.cons_append, List.nil_append, List.append_nil, Nat.zero_add, Nat.reduceAdd, Nat.reduceSub, Nat.reduceLeDiff, if_true, if_false, ite_true, ite_false, Bool.false_eq_true, reduceIte, Bool.not_true, Bool.not_false, Int.reducePow, Int.reduceToNat, Int.reduceMul, Int.reduceAdd, Int.reduceSub, addD, subD, negD, ltR, leR, gtR, geR, eqR_int, neR_int, eqR_bl, neR_bl, absR, max2R, min2R, intR, mulRi, divRi, powRi, modR, absI, len_fr, len_tb, isiT_fr, isiT_tb, isiI_int, isiB_int, isiB_bl, isiL_lst, isiT_tup, items_tb, items_fr, zip_tb, all4, addD_tup2, addD_lst2, eLc, lcL, cYes, wipeE, gN, gTup_tup, gTup_tb, gTup_fr, gLs_lst, gCons, gNil, tuple_lst, List.set_cons_zero, List.set_cons_succ, List.set_nil, ix_fr0, ix_fr1, ix_tb0, ix_tb1, ix_tb2, ix_tb3, eqR_fr, neR_fr, eqR_tb, neR_tb, epow]; try rfl)) ?_
    try simp only [List.set_cons_zero, List.set_cons_succ, startE, List.map_cons, List.map_nil, List.replicate, List.cons_append, List.nil_append, List.append_nil, List.length_cons, List.length_nil, Nat.zero_add, Nat.reduceAdd, Nat.reduceSub]
    refine q_set (v := .int m0) (by (simp (disch := first | decide | assumption | omega) only [startE, List.map_cons, List.map_nil, List.replicate, eVar, eC, PT.e1, PT.e2, aNil, aCons, eCall, tupR, lstR, eTup, eLst, eIte, eLenO, eIxO, cT, cAnd, cOr, cNot, andV, orV, notD, truR, truD, bindR, bindRB, bindRL, bindL, bindB, bindBB, bindLL, toD, okD, okI, okB, itA, itD, items_tup, items_lst, items_scr, len_tup, len_lst, len_scr, List.getElem?_cons_zero, List.getElem?_cons_succ, List.length_cons, List.length_nil, List.length_map, List.cons_append, List.nil_append, List.append_nil, Nat.zero_add, Nat.reduceAdd, Nat.reduceSub, Nat.reduceLeDiff, if_true, if_false, ite_true, ite_false, Bool.false_eq_true, reduceIte, Bool.not_true, Bool.not_false, Int.reducePow, Int.reduceToNat, Int.reduceMul, Int.reduceAdd, Int.reduceSub, addD, subD, negD, ltR, leR, gtR, geR, eqR_int, neR_int, eqR_bl, neR_bl, absR, max2R, min2R, intR, mulRi, divRi, powRi, modR, absI, len_fr, len_tb, isiT_fr, isiT_tb, isiI_int, isiB_int, isiB_bl, isiL_lst, isiT_tup, items_tb, items_fr, zip_tb, all4, addD_tup2, addD_lst2, eLc, lcL, cYes, wipeE, gN, gTup_tup, gTup_tb, gTup_fr, gLs_lst, gCons, gNil, tuple_lst, List.set_cons_zero, List.set_cons_succ, List.set_nil, ix_fr0, ix_fr1, ix_tb0, ix_tb1, ix_tb2, ix_tb3, eqR_fr, neR_fr, eqR_tb, neR_tb, era, edv]; try rfl)) ?_
    try simp only [List.set_cons_zero, List.set_cons_succ, startE, List.map_cons, List.map_nil, List.replicate, List.cons_append, List.nil_append, List.append_nil, List.length_cons, List.length_nil, Nat.zero_add, Nat.reduceAdd, Nat.reduceSub]
    refine q_ifN (t := false) (by (simp (disch := first | decide | assumption | omega) only [startE, List.map_cons, List.map_nil, List.replicate, eVar, eC, PT.e1, PT.e2, aNil, aCons, eCall, tupR, lstR, eTup, eLst, eIte, eLenO, eIxO, cT, cAnd, cOr, cNot, andV, orV, notD, truR, truD, bindR, bindRB, bindRL, bindL, bindB, bindBB, bindLL, toD, okD, okI, okB, itA, itD, items_tup, items_lst, items_scr, len_tup, len_lst, len_scr, List.getElem?_cons_zero, List.getElem?_cons_succ, List.length_cons, List.length_nil, List.length_map, List.cons_append, List.nil_append, List.append_nil, Nat.zero_add, Nat.reduceAdd, Nat.reduceSub, Nat.reduceLeDiff, if_true, if_false, ite_true, ite_false, Bool.false_eq_true, reduceIte, Bool.not_true, Bool.not_false, Int.reducePow, Int.reduceToNat, Int.reduceMul, Int.reduceAdd, Int.reduceSub, addD, subD, negD, ltR, leR, gtR, geR, eqR_int, neR_int, eqR_bl, neR_bl, absR, max2R, min2R, intR, mulRi, divRi, powRi, modR, absI, len_fr, len_tb, isiT_fr, isiT_tb, isiI_int, isiB_int, isiB_bl, isiL_lst, isiT_tup, items_tb, items_fr, zip_tb, all4, addD_tup2, addD_lst2, eLc, lcL, cYes, wipeE, gN, gTup_tup, gTup_tb, gTup_fr, gLs_lst, gCons, gNil, tuple_lst, List.set_cons_zero, List.set_cons_succ, List.set_nil, ix_fr0, ix_fr1, ix_tb0, ix_tb1, ix_tb2, ix_tb3, eqR_fr, neR_fr, eqR_tb, neR_tb, k_MOST_BOTTOM, db]; try rfl)) (fun z => by cases z) fun _ => ?_
    refine q_set (v := .int y) (by (simp (disch := first | decide | assumption | omega) only [startE, List.map_cons, List.map_nil, List.replicate, eVar, eC, PT.e1, PT.e2, aNil, aCons, eCall, tupR, lstR, eTup, eLst, eIte, eLenO, eIxO, cT, cAnd, cOr, cNot, andV, orV, notD, truR, truD, bindR, bindRB, bindRL, bindL, bindB, bindBB, bindLL, toD, okD, okI, okB, itA, itD, items_tup, items_lst, items_scr, len_tup, len_lst, len_scr, List.getElem?_cons_zero, List.getElem?_cons_succ, List.length_cons, List.length_nil, List.length_map, List.cons_append, List.nil_append, List.append_nil, Nat.zero_add, Nat.reduceAdd, Nat.reduceSub, Nat.reduceLeDiff, if_true, if_false, ite_true, ite_false, Bool.false_eq_true, reduceIte, Bool.not_true, Bool.not_false, Int.reducePow, Int.reduceToNat, Int.reduceMul, Int.reduceAdd, Int.reduceSub, addD, subD, negD, ltR, leR, gtR, geR, eqR_int, neR_int, eqR_bl, neR_bl, absR, max2R, min2R, intR, mulRi, divRi, powRi, modR, absI, len_fr, len_tb, isiT_fr, isiT_tb, isiI_int, isiB_int, isiB_bl, isiL_lst, isiT_tup, items_tb, items_fr, zip_tb, all4, addD_tup2, addD_lst2, eLc, lcL, cYes, wipeE, gN, gTup_tup, gTup_tb, gTup_fr, gLs_lst, gCons, gNil, tuple_lst, List.set_cons_zero, List.set_cons_succ, List.set_nil, ix_fr0, ix_fr1, ix_tb0, ix_tb1, ix_tb2, ix_tb3, eqR_fr, neR_fr, eqR_tb, neR_tb, ey]; try rfl)) ?_
    try simp only [List.set_cons_zero, List.set_cons_succ, startE, List.map_cons, List.map_nil, List.replicate, List.cons_append, List.nil_append, List.append_nil, List.length_cons, List.length_nil, Nat.zero_add, Nat.reduceAdd, Nat.reduceSub]
    refine ⟨by simp, N + 1, ?_⟩
    have step : ∀ (e i : Nat), i + e = N → ∀ (x8 : Option SV) (P : PD), P.rt (.d (.tup [.int (-(d : Int)), .lst ((figsL p m0 y a.num m).map D.int), .lst (((figsL p m0 y a.num N).drop m).map D.int)])) → wMetN 7 2 8 (PT.e2 modD (PT.e2 mulD (eVar 2) (eVar 5)) (eVar 0)) (PT.e2 fdivD (PT.e2 subD (eVar 2) (PT.e2 mulD (eVar 8) (eVar 3))) (eVar 0)) (PT.e1 negD (eVar 4)) P (e + 1) ((List.range i).map (lft p m0 y a.num)) [some (.d (.int p)), some (.d (fr a)), some (.d (.int (lft p m0 y a.num i))), some (.d (.int m0)), some (.d (.int d)), some (.d (.int y)), none, some (.own ((figsL p m0 y a.num i).map D.int)), x8] := by
      intro e
      induction e with
      | zero =>
        intro i hi x8 P hP
        obtain rfl : i = N := by omega
        refine ⟨_, _, rfl, rfl, by rw [List.length_map, figsL_len, List.length_map, List.length_range], by rw [List.length_map, List.length_range]; omega, .inl ⟨im, .int (-(d : Int)), by (simp (disch := first | decide | assumption | omega) only [startE, List.map_cons, List.map_nil, List.replicate, eVar, eC, PT.e1, PT.e2, aNil, aCons, eCall, tupR, lstR, eTup, eLst, eIte, eLenO, eIxO, cT, cAnd, cOr, cNot, andV, orV, notD, truR, truD, bindR, bindRB, bindRL, bindL, bindB, bindBB, bindLL, toD, okD, okI, okB, itA, itD, items_tup, items_lst, items_scr, len_tup, len_lst, len_scr, List.getElem?_cons_zero, List.getElem?_cons_succ, List.length_cons, List.length_nil, List.length_map, List.cons_append, List.nil_append, List.append_nil, Nat.zero_add, Nat.reduceAdd, Nat.reduceSub, Nat.reduceLeDiff, if_true, if_false, ite_true, ite_false, Bool.false_eq_true, reduceIte, Bool.not_true, Bool.not_false, Int.reducePow, Int.reduceToNat, Int.reduceMul, Int.reduceAdd, Int.reduceSub, addD, subD, negD, ltR, leR, gtR, geR, eqR_int, neR_int, eqR_bl, neR_bl, absR, max2R, min2R, intR, mulRi, divRi, powRi, modR, absI, len_fr, len_tb, isiT_fr, isiT_tb, isiI_int, isiB_int, isiB_bl, isiL_lst, isiT_tup, items_tb, items_fr, zip_tb, all4, addD_tup2, addD_lst2, eLc, lcL, cYes, wipeE, gN, gTup_tup, gTup_tb, gTup_fr, gLs_lst, gCons, gNil, tuple_lst, List.set_cons_zero, List.set_cons_succ, List.set_nil, ix_fr0, ix_fr1, ix_tb0, ix_tb1, ix_tb2, ix_tb3, eqR_fr, neR_fr, eqR_tb, neR_tb]; try rfl), ?_⟩⟩
        rw [ie, cut_head _ (by rw [List.length_map, figsL_len]; omega), cut_rest _ (by rw [List.length_map, figsL_len]; omega), ← List.map_take, ← List.map_drop, tk]
        exact hP
      | succ e ih =>
        intro i hi x8 P hP
        have bt : Bd (lft p m0 y a.num i) (3 * K + 11) := ⟨lft_B hp hy b0 hb (by omega) (by omega) i⟩
        obtain ⟨g0, g1⟩ := fgr_ok (b := m0) (y := y) (t0 := a.num) hp i
        have bg : Bd (fgr p m0 y a.num i) 3 := ⟨B.of (by omega) (by omega)⟩
        have md : modD (.int (lft p m0 y a.num i * y)) (.int p) = okI (fgr p m0 y a.num i) := modR hp.pos
        have dv : fdivD (.int (lft p m0 y a.num i - fgr p m0 y a.num i * m0)) (.int p) = okI (lft p m0 y a.num (i + 1)) := divR hp.pos hp.bd (by decide)
        refine ⟨_, _, rfl, rfl, by rw [List.length_map, figsL_len, List.length_map, List.length_range], by rw [List.length_map, List.length_range]; omega, .inr ⟨idx_new (by omega) ne, fgr p m0 y a.num i, lft p m0 y a.num (i + 1), by (simp (disch := first | decide | assumption | omega) only [startE, List.map_cons, List.map_nil, List.replicate, eVar, eC, PT.e1, PT.e2, aNil, aCons, eCall, tupR, lstR, eTup, eLst, eIte, eLenO, eIxO, cT, cAnd, cOr, cNot, andV, orV, notD, truR, truD, bindR, bindRB, bindRL, bindL, bindB, bindBB, bindLL, toD, okD, okI, okB, itA, itD, items_tup, items_lst, items_scr, len_tup, len_lst, len_scr, List.getElem?_cons_zero, List.getElem?_cons_succ, List.length_cons, List.length_nil, List.length_map, List.cons_append, List.nil_append, List.append_nil, Nat.zero_add, Nat.reduceAdd, Nat.reduceSub, Nat.reduceLeDiff, if_true, if_false, ite_true, ite_false, Bool.false_eq_true, reduceIte, Bool.not_true, Bool.not_false, Int.reducePow, Int.reduceToNat, Int.reduceMul, Int.reduceAdd, Int.reduceSub, addD, subD, negD, ltR, leR, gtR, geR, eqR_int, neR_int, eqR_bl, neR_bl, absR, max2R, min2R, intR, mulRi, divRi, powRi, modR, absI, len_fr, len_tb, isiT_fr, isiT_tb, isiI_int, isiB_int, isiB_bl, isiL_lst, isiT_tup, items_tb, items_fr, zip_tb, all4, addD_tup2, addD_lst2, eLc, lcL, cYes, wipeE, gN, gTup_tup, gTup_tb, gTup_fr, gLs_lst, gCons, gNil, tuple_lst, List.set_cons_zero, List.set_cons_succ, List.set_nil, ix_fr0, ix_fr1, ix_tb0, ix_tb1, ix_tb2, ix_tb3, eqR_fr, neR_fr, eqR_tb, neR_tb, md]; try rfl), by (simp (disch := first | decide | assumption | omega) only [startE, List.map_cons, List.map_nil, List.replicate, eVar, eC, PT.e1, PT.e2, aNil, aCons, eCall, tupR, lstR, eTup, eLst, eIte, eLenO, eIxO, cT, cAnd, cOr, cNot, andV, orV, notD, truR, truD, bindR, bindRB, bindRL, bindL, bindB, bindBB, bindLL, toD, okD, okI, okB, itA, itD, items_tup, items_lst, items_scr, len_tup, len_lst, len_scr, List.getElem?_cons_zero, List.getElem?_cons_succ, List.length_cons, List.length_nil, List.length_map, List.cons_append, List.nil_append, List.append_nil, Nat.zero_add, Nat.reduceAdd, Nat.reduceSub, Nat.reduceLeDiff, if_true, if_false, ite_true, ite_false, Bool.false_eq_true, reduceIte, Bool.not_true, Bool.not_false, Int.reducePow, Int.reduceToNat, Int.reduceMul, Int.reduceAdd, Int.reduceSub, addD, subD, negD, ltR, leR, gtR, geR, eqR_int, neR_int, eqR_bl, neR_bl, absR, max2R, min2R, intR, mulRi, divRi, powRi, modR, absI, len_fr, len_tb, isiT_fr, isiT_tb, isiI_int, isiB_int, isiB_bl, isiL_lst, isiT_tup, items_tb, items_fr, zip_tb, all4, addD_tup2, addD_lst2, eLc, lcL, cYes, wipeE, gN, gTup_tup, gTup_tb, gTup_fr, gLs_lst, gCons, gNil, tuple_lst, List.set_cons_zero, List.set_cons_succ, List.set_nil, ix_fr0, ix_fr1, ix_tb0, ix_tb1, ix_tb2, ix_tb3, eqR_fr, neR_fr, eqR_tb, neR_tb, dv]; try rfl), ?_⟩⟩
        have e1 : (List.range i).map (lft p m0 y a.num) ++ [lft p m0 y a.num i] = (List.range (i + 1)).map (lft p m0 y a.num) := by rw [List.range_succ, List.map_append]; rfl
        have e2 : (figsL p m0 y a.num i).map D.int ++ [.int (fgr p m0 y a.num i)] = (figsL p m0 y a.num (i + 1)).map D.int := by unfold figsL; rw [List.range_succ, List.map_append, List.map_append]; rfl
        rw [e1, e2]
        exact ih (i + 1) (by omega) _ P hP
    exact step N 0 (by omega) _ _ rfl
end PT
/-! PM: the rest by figures, told by the laws about ends. -/
namespace PT
open PySem (Str)
/-- _law_over_p(_law_p, _law_total, _law_deep): slots _law_p, _law_total, _law_deep -/
def w__law_over_p : SF := wSeq (wWhile (cAnd (cT (e2 gtR (eVar 2) (eC (.int 0)))) (cT (e2 eqR (e2 modD (eVar 1) (eVar 0)) (eC (.int 0))))) (wSeq (wSet 1 (e2 fdivD (eVar 1) (eVar 0))) (wSet 2 (e2 subD (eVar 2) (eC (.int 1)))))) (wRet (eTup (aCons (eVar 1) (aCons (eCall f__law_up (aCons (eVar 0) (aCons (eVar 2) (aNil)))) (aNil)))))
instance : Det w__law_over_p := by unfold w__law_over_p; infer_instance
instance : Out w__law_over_p := by unfold w__law_over_p; infer_instance
noncomputable def f__law_over_p : List D → Option R := outF 3 3 w__law_over_p
theorem len__law_over_p : ∀ ds r, f__law_over_p ds = some r → ds.length = 3 := outF_len
theorem does__law_over_p : Does 3 w__law_over_p f__law_over_p := outF_does
/-- _law_rest(_law_p, _law_k, _law_a): slots _law_p, _law_k, _law_a, _law_deep, _law_top, _law_bottom, _law_by, _law_c, _law_total, _law_place, _law_figure -/
def w__law_rest : SF := wSeq (wSet 3 (eCall f__law_power (aCons (eVar 0) (aCons (e2 ixR (eVar 2) (eC (.int 1))) (aNil))))) (wSeq (wSet 4 (e2 ixR (eVar 2) (eC (.int 0)))) (wSeq (wSet 5 (e2 fdivD (e2 ixR (eVar 2) (eC (.int 1))) (eCall f__law_up (aCons (eVar 0) (aCons (eVar 3) (aNil)))))) (wSeq (wSet 6 (e2 ixR (eLc (itA range2L (aCons (eC (.int 1)) (aCons (eVar 0) (aNil)))) (gN 7) (cT (e2 eqR (e2 modD (e2 mulD (eVar 5) (eVar 7)) (eVar 0)) (eC (.int 1)))) (eVar 7) [7]) (eC (.int 0)))) (wSeq (wSet 8 (eC (.int 0))) (wSeq (wFor (itA range1L (aCons (e2 addD (eVar 1) (eVar 3)) (aNil))) (gN 9) (wSeq (wSet 10 (e2 modD (e2 mulD (eVar 4) (eVar 6)) (eVar 0))) (wSeq (wSet 8 (e2 addD (eVar 8) (e2 mulD (eVar 10) (eCall f__law_up (aCons (eVar 0) (aCons (eVar 9) (aNil))))))) (wSet 4 (e2 fdivD (e2 subD (eVar 4) (e2 mulD (eVar 10) (eVar 5))) (eVar 0)))))) (wRet (eCall f__law_over_p (aCons (eVar 0) (aCons (eVar 8) (aCons (eVar 3) (aNil)))))))))))
instance : Det w__law_rest := by unfold w__law_rest; infer_instance
instance : Out w__law_rest := by unfold w__law_rest; infer_instance
noncomputable def f__law_rest : List D → Option R := outF 3 11 w__law_rest
theorem len__law_rest : ∀ ds r, f__law_rest ds = some r → ds.length = 3 := outF_len
theorem does__law_rest : Does 11 w__law_rest f__law_rest := outF_does

theorem fr_cop {p t : Int} {d : Nat} (hp : Pr p) (h : ¬ p ∣ t ∨ d = 0) : D.tup [.int t, .int (p ^ d)] = fr (Rat.divInt t (p ^ d)) := by
  have pd := hp.pow_pos d
  have g1 : Int.gcd t (p ^ d) = 1 := by
    rcases h with h | h
    · have hg : (Int.gcd t (p ^ d) : Int) ∣ p ^ d := Int.gcd_dvd_right ..
      have hg2 : (Int.gcd t (p ^ d) : Int) ∣ t := Int.gcd_dvd_left ..
      have g0 : (Int.gcd t (p ^ d) : Int) ≠ 0 := gcd_ne (by omega)
      have := den_one hp (fun z => h (Int.dvd_trans z hg2)) (by omega) d hg
      omega
    · subst h
      rw [Int.pow_zero, Int.gcd_one_right]
  have e := fr_low (t := t) (b := p ^ d) (by omega)
  rw [if_neg (by omega), g1] at e
  rw [← e]
  have f : ∀ x : Int, x.fdiv ((1 : Nat) : Int) = x := fun x => by rw [fdiv_pos _ (by decide)]; omega
  rw [f, f]
theorem over_step {p t : Int} {d : Nat} (hp : Pr p) (h : p ∣ t) : Rat.divInt t (p ^ (d + 1)) = Rat.divInt (t / p) (p ^ d) := by
  obtain ⟨u, rfl⟩ := h
  rw [Int.mul_ediv_cancel_left _ hp.ne, Int.pow_succ, Int.mul_comm (p ^ d), Rat.divInt_mul_left hp.ne]
theorem loop_over (P : PD) {p : Int} (hp : Pr p) : ∀ (d n : Nat) (t : Int), d < n → (∀ (u : Int) (e : Nat), e ≤ d → D.tup [.int u, .int (p ^ e)] = fr (Rat.divInt t (p ^ d)) → P.nx [some (.d (.int p)), some (.d (.int u)), some (.d (.int e))]) →
    wWhileN (cAnd (cT (e2 gtR (eVar 2) (eC (.int 0)))) (cT (e2 eqR (e2 modD (eVar 1) (eVar 0)) (eC (.int 0))))) (wSeq (wSet 1 (e2 fdivD (eVar 1) (eVar 0))) (wSet 2 (e2 subD (eVar 2) (eC (.int 1))))) P n [some (.d (.int p)), some (.d (.int t)), some (.d (.int d))] := by
  intro d
  have pp := hp.pos
  have bp : Bd p 3 := ⟨hp.bd⟩
  induction d with
  | zero =>
    rintro (_ | n) t h hP
    · omega
    have e0 : decide ((0 : Int) < ((0 : Nat) : Int)) = false := by decide
    exact while_end (by (simp (disch := first | decide | assumption | omega) only [startE, List.map_cons, List.map_nil, List.replicate, eVar, eC, PT.e1, PT.e2, aNil, aCons, eCall, tupR, lstR, eTup, eLst, eIte, eLenO, eIxO, cT, cAnd, cOr, cNot, andV, orV, notD, truR, truD, bindR, bindRB, bindRL, bindL, bindB, bindBB, bindLL, toD, okD, okI, okB, itA, itD, items_tup, items_lst, items_scr, len_tup, len_lst, len_scr, List.getElem?_cons_zero, List.getElem?_cons_succ, List.length_cons, List.length_nil, List.length_map, List.cons_append, List.nil_append, List.append_nil, Nat.zero_add, Nat.reduceAdd, Nat.reduceSub, Nat.reduceLeDiff, if_true, if_false, ite_true, ite_false, Bool.false_eq_true, reduceIte, Bool.not_true, Bool.not_false, Int.reducePow, Int.reduceToNat, Int.reduceMul, Int.reduceAdd, Int.reduceSub, addD, subD, negD, ltR, leR, gtR, geR, eqR_int, neR_int, eqR_bl, neR_bl, absR, max2R, min2R, intR, mulRi, divRi, powRi, modR, absI, len_fr, len_tb, isiT_fr, isiT_tb, isiI_int, isiB_int, isiB_bl, isiL_lst, isiT_tup, items_tb, items_fr, zip_tb, all4, addD_tup2, addD_lst2, eLc, lcL, cYes, wipeE, gN, gTup_tup, gTup_tb, gTup_fr, gLs_lst, gCons, gNil, tuple_lst, List.set_cons_zero, List.set_cons_succ, List.set_nil, ix_fr0, ix_fr1, ix_tb0, ix_tb1, ix_tb2, ix_tb3, eqR_fr, neR_fr, eqR_tb, neR_tb, e0]; try rfl)) (hP t 0 (Nat.le_refl _) (fr_cop hp (.inr rfl)))
  | succ d ih =>
    rintro (_ | n) t h hP
    · omega
    have e0 : decide ((0 : Int) < ((d + 1 : Nat) : Int)) = true := decide_eq_true (by omega)
    by_cases hd : p ∣ t
    · have e1 : decide (p ∣ t) = true := decide_eq_true hd
      have e2 : (((d + 1 : Nat) : Int) - 1) = (d : Int) := by omega
      refine while_go (by (simp (disch := first | decide | assumption | omega) only [startE, List.map_cons, List.map_nil, List.replicate, eVar, eC, PT.e1, PT.e2, aNil, aCons, eCall, tupR, lstR, eTup, eLst, eIte, eLenO, eIxO, cT, cAnd, cOr, cNot, andV, orV, notD, truR, truD, bindR, bindRB, bindRL, bindL, bindB, bindBB, bindLL, toD, okD, okI, okB, itA, itD, items_tup, items_lst, items_scr, len_tup, len_lst, len_scr, List.getElem?_cons_zero, List.getElem?_cons_succ, List.length_cons, List.length_nil, List.length_map, List.cons_append, List.nil_append, List.append_nil, Nat.zero_add, Nat.reduceAdd, Nat.reduceSub, Nat.reduceLeDiff, if_true, if_false, ite_true, ite_false, Bool.false_eq_true, reduceIte, Bool.not_true, Bool.not_false, Int.reducePow, Int.reduceToNat, Int.reduceMul, Int.reduceAdd, Int.reduceSub, addD, subD, negD, ltR, leR, gtR, geR, eqR_int, neR_int, eqR_bl, neR_bl, absR, max2R, min2R, intR, mulRi, divRi, powRi, modR, absI, len_fr, len_tb, isiT_fr, isiT_tb, isiI_int, isiB_int, isiB_bl, isiL_lst, isiT_tup, items_tb, items_fr, zip_tb, all4, addD_tup2, addD_lst2, eLc, lcL, cYes, wipeE, gN, gTup_tup, gTup_tb, gTup_fr, gLs_lst, gCons, gNil, tuple_lst, List.set_cons_zero, List.set_cons_succ, List.set_nil, ix_fr0, ix_fr1, ix_tb0, ix_tb1, ix_tb2, ix_tb3, eqR_fr, neR_fr, eqR_tb, neR_tb, e0, mod_zero, e1]; try rfl)) (q_set (v := .int (t / p)) (by (simp (disch := first | decide | assumption | omega) only [startE, List.map_cons, List.map_nil, List.replicate, eVar, eC, PT.e1, PT.e2, aNil, aCons, eCall, tupR, lstR, eTup, eLst, eIte, eLenO, eIxO, cT, cAnd, cOr, cNot, andV, orV, notD, truR, truD, bindR, bindRB, bindRL, bindL, bindB, bindBB, bindLL, toD, okD, okI, okB, itA, itD, items_tup, items_lst, items_scr, len_tup, len_lst, len_scr, List.getElem?_cons_zero, List.getElem?_cons_succ, List.length_cons, List.length_nil, List.length_map, List.cons_append, List.nil_append, List.append_nil, Nat.zero_add, Nat.reduceAdd, Nat.reduceSub, Nat.reduceLeDiff, if_true, if_false, ite_true, ite_false, Bool.false_eq_true, reduceIte, Bool.not_true, Bool.not_false, Int.reducePow, Int.reduceToNat, Int.reduceMul, Int.reduceAdd, Int.reduceSub, addD, subD, negD, ltR, leR, gtR, geR, eqR_int, neR_int, eqR_bl, neR_bl, absR, max2R, min2R, intR, mulRi, divRi, powRi, modR, absI, len_fr, len_tb, isiT_fr, isiT_tb, isiI_int, isiB_int, isiB_bl, isiL_lst, isiT_tup, items_tb, items_fr, zip_tb, all4, addD_tup2, addD_lst2, eLc, lcL, cYes, wipeE, gN, gTup_tup, gTup_tb, gTup_fr, gLs_lst, gCons, gNil, tuple_lst, List.set_cons_zero, List.set_cons_succ, List.set_nil, ix_fr0, ix_fr1, ix_tb0, ix_tb1, ix_tb2, ix_tb3, eqR_fr, neR_fr, eqR_tb, neR_tb]; try rfl)) ?_)
      try simp only [List.set_cons_zero, List.set_cons_succ, startE, List.map_cons, List.map_nil, List.replicate, List.cons_append, List.nil_append, List.append_nil, List.length_cons, List.length_nil, Nat.zero_add, Nat.reduceAdd, Nat.reduceSub]
      refine z_set (v := .int d) (by (simp (disch := first | decide | assumption | omega) only [startE, List.map_cons, List.map_nil, List.replicate, eVar, eC, PT.e1, PT.e2, aNil, aCons, eCall, tupR, lstR, eTup, eLst, eIte, eLenO, eIxO, cT, cAnd, cOr, cNot, andV, orV, notD, truR, truD, bindR, bindRB, bindRL, bindL, bindB, bindBB, bindLL, toD, okD, okI, okB, itA, itD, items_tup, items_lst, items_scr, len_tup, len_lst, len_scr, List.getElem?_cons_zero, List.getElem?_cons_succ, List.length_cons, List.length_nil, List.length_map, List.cons_append, List.nil_append, List.append_nil, Nat.zero_add, Nat.reduceAdd, Nat.reduceSub, Nat.reduceLeDiff, if_true, if_false, ite_true, ite_false, Bool.false_eq_true, reduceIte, Bool.not_true, Bool.not_false, Int.reducePow, Int.reduceToNat, Int.reduceMul, Int.reduceAdd, Int.reduceSub, addD, subD, negD, ltR, leR, gtR, geR, eqR_int, neR_int, eqR_bl, neR_bl, absR, max2R, min2R, intR, mulRi, divRi, powRi, modR, absI, len_fr, len_tb, isiT_fr, isiT_tb, isiI_int, isiB_int, isiB_bl, isiL_lst, isiT_tup, items_tb, items_fr, zip_tb, all4, addD_tup2, addD_lst2, eLc, lcL, cYes, wipeE, gN, gTup_tup, gTup_tb, gTup_fr, gLs_lst, gCons, gNil, tuple_lst, List.set_cons_zero, List.set_cons_succ, List.set_nil, ix_fr0, ix_fr1, ix_tb0, ix_tb1, ix_tb2, ix_tb3, eqR_fr, neR_fr, eqR_tb, neR_tb, e2]; try rfl)) ?_
      try simp only [List.set_cons_zero, List.set_cons_succ, startE, List.map_cons, List.map_nil, List.replicate, List.cons_append, List.nil_append, List.append_nil, List.length_cons, List.length_nil, Nat.zero_add, Nat.reduceAdd, Nat.reduceSub]
      exact ih n _ (by omega) fun u e he hu => hP u e (by omega) (by rw [hu, over_step hp hd])
    · have e1 : decide (p ∣ t) = false := decide_eq_false hd
      exact while_end (by (simp (disch := first | decide | assumption | omega) only [startE, List.map_cons, List.map_nil, List.replicate, eVar, eC, PT.e1, PT.e2, aNil, aCons, eCall, tupR, lstR, eTup, eLst, eIte, eLenO, eIxO, cT, cAnd, cOr, cNot, andV, orV, notD, truR, truD, bindR, bindRB, bindRL, bindL, bindB, bindBB, bindLL, toD, okD, okI, okB, itA, itD, items_tup, items_lst, items_scr, len_tup, len_lst, len_scr, List.getElem?_cons_zero, List.getElem?_cons_succ, List.length_cons, List.length_nil, List.length_map, List.cons_append, List.nil_append, List.append_nil, Nat.zero_add, Nat.reduceAdd, Nat.reduceSub, Nat.reduceLeDiff, if_true, if_false, ite_true, ite_false, Bool.false_eq_true, reduceIte, Bool.not_true, Bool.not_false, Int.reducePow, Int.reduceToNat, Int.reduceMul, Int.reduceAdd, Int.reduceSub, addD, subD, negD, ltR, leR, gtR, geR, eqR_int, neR_int, eqR_bl, neR_bl, absR, max2R, min2R, intR, mulRi, divRi, powRi, modR, absI, len_fr, len_tb, isiT_fr, isiT_tb, isiI_int, isiB_int, isiB_bl, isiL_lst, isiT_tup, items_tb, items_fr, zip_tb, all4, addD_tup2, addD_lst2, eLc, lcL, cYes, wipeE, gN, gTup_tup, gTup_tb, gTup_fr, gLs_lst, gCons, gNil, tuple_lst, List.set_cons_zero, List.set_cons_succ, List.set_nil, ix_fr0, ix_fr1, ix_tb0, ix_tb1, ix_tb2, ix_tb3, eqR_fr, neR_fr, eqR_tb, neR_tb, e0, mod_zero, e1]; try rfl)) (hP t (d + 1) (Nat.le_refl _) (fr_cop hp (.inl hd)))
theorem ev__law_over_p {p t : Int} {d : Nat} (hp : Pr p) (l : d ≤ 10000) : f__law_over_p [.int p, .int t, .int d] = okD (fr (Rat.divInt t (p ^ d))) := by
  refine outF_ev rfl ?_
  try simp only [List.set_cons_zero, List.set_cons_succ, startE, List.map_cons, List.map_nil, List.replicate, List.cons_append, List.nil_append, List.append_nil, List.length_cons, List.length_nil, Nat.zero_add, Nat.reduceAdd, Nat.reduceSub]
  refine q_while ⟨d + 1, loop_over _ hp _ _ _ (Nat.lt_succ_self _) fun u e he hu => ?_⟩
  try simp only [List.set_cons_zero, List.set_cons_succ, startE, List.map_cons, List.map_nil, List.replicate, List.cons_append, List.nil_append, List.append_nil, List.length_cons, List.length_nil, Nat.zero_add, Nat.reduceAdd, Nat.reduceSub]
  rw [← hu]
  exact z_ret (by (simp (disch := first | decide | assumption | omega) only [startE, List.map_cons, List.map_nil, List.replicate, eVar, eC, PT.e1, PT.e2, aNil, aCons, eCall, tupR, lstR, eTup, eLst, eIte, eLenO, eIxO, cT, cAnd, cOr, cNot, andV, orV, notD, truR, truD, bindR, bindRB, bindRL, bindL, bindB, bindBB, bindLL, toD, okD, okI, okB, itA, itD, items_tup, items_lst, items_scr, len_tup, len_lst, len_scr, List.getElem?_cons_zero, List.getElem?_cons_succ, List.length_cons, List.length_nil, List.length_map, List.cons_append, List.nil_append, List.append_nil, Nat.zero_add, Nat.reduceAdd, Nat.reduceSub, Nat.reduceLeDiff, if_true, if_false, ite_true, ite_false, Bool.false_eq_true, reduceIte, Bool.not_true, Bool.not_false, Int.reducePow, Int.reduceToNat, Int.reduceMul, Int.reduceAdd, Int.reduceSub, addD, subD, negD, ltR, leR, gtR, geR, eqR_int, neR_int, eqR_bl, neR_bl, absR, max2R, min2R, intR, mulRi, divRi, powRi, modR, absI, len_fr, len_tb, isiT_fr, isiT_tb, isiI_int, isiB_int, isiB_bl, isiL_lst, isiT_tup, items_tb, items_fr, zip_tb, all4, addD_tup2, addD_lst2, eLc, lcL, cYes, wipeE, gN, gTup_tup, gTup_tb, gTup_fr, gLs_lst, gCons, gNil, tuple_lst, List.set_cons_zero, List.set_cons_succ, List.set_nil, ix_fr0, ix_fr1, ix_tb0, ix_tb1, ix_tb2, ix_tb3, eqR_fr, neR_fr, eqR_tb, neR_tb, ev__law_up (k := e) hp.bd (by omega)]; try rfl)) rfl
theorem lc_by {p b : Int} {n : Nat} (hp : Pr p) (hb : B n b) (l : n < 900000) (x1 x2 x3 x4 x6 x7 x8 x9 x10 : Option SV) : ∀ cs : List Int, (∀ c ∈ cs, B 10 c) → lcL (gN 7) (cT (e2 eqR (e2 modD (e2 mulD (eVar 5) (eVar 7)) (eVar 0)) (eC (.int 1)))) (eVar 7) [some (.d (.int p)), x1, x2, x3, x4, some (.d (.int b)), x6, x7, x8, x9, x10] (cs.map D.int) = some ((cs.filter fun c => b * c % p == 1).map D.int)
  | [], _ => rfl
  | c :: cs, hc => by
    have ih := lc_by hp hb l x1 x2 x3 x4 x6 x7 x8 x9 x10 cs (fun c h => hc c (List.mem_cons_of_mem _ h))
    have pp := hp.pos
    have bb : Bd b n := ⟨hb⟩
    have bc : Bd c 10 := ⟨hc c List.mem_cons_self⟩
    have l1 : n + 10 < 1000000 := by omega
    rw [List.map_cons]
    unfold lcL
    simp only [gN, List.set_cons_succ, List.set_cons_zero]
    have ef : eVar 7 [some (.d (.int p)), x1, x2, x3, x4, some (.d (.int b)), x6, some (.d (.int c)), x8, x9, x10] = some (.ok (.d (.int c))) := rfl
    by_cases h : (b * c % p == 1) = true
    · have ec : cT (PT.e2 eqR (PT.e2 modD (PT.e2 mulD (eVar 5) (eVar 7)) (eVar 0)) (eC (.int 1))) [some (.d (.int p)), x1, x2, x3, x4, some (.d (.int b)), x6, some (.d (.int c)), x8, x9, x10] = some (.ok true) := by (simp (disch := first | decide | assumption | omega) only [startE, List.map_cons, List.map_nil, List.replicate, eVar, eC, PT.e1, PT.e2, aNil, aCons, eCall, tupR, lstR, eTup, eLst, eIte, eLenO, eIxO, cT, cAnd, cOr, cNot, andV, orV, notD, truR, truD, bindR, bindRB, bindRL, bindL, bindB, bindBB, bindLL, toD, okD, okI, okB, itA, itD, items_tup, items_lst, items_scr, len_tup, len_lst, len_scr, List.getElem?_cons_zero, List.getElem?_cons_succ, List.length_cons, List.length_nil, List.length_map, List.cons_append, List.nil_append, List.append_nil, Nat.zero_add, Nat.reduceAdd, Nat.reduceSub, Nat.reduceLeDiff, if_true, if_false, ite_true, ite_false, Bool.false_eq_true, reduceIte, Bool.not_true, Bool.not_false, Int.reducePow, Int.reduceToNat, Int.reduceMul, Int.reduceAdd, Int.reduceSub, addD, subD, negD, ltR, leR, gtR, geR, eqR_int, neR_int, eqR_bl, neR_bl, absR, max2R, min2R, intR, mulRi, divRi, powRi, modR, absI, len_fr, len_tb, isiT_fr, isiT_tb, isiI_int, isiB_int, isiB_bl, isiL_lst, isiT_tup, items_tb, items_fr, zip_tb, all4, addD_tup2, addD_lst2, eLc, lcL, cYes, wipeE, gN, gTup_tup, gTup_tb, gTup_fr, gLs_lst, gCons, gNil, tuple_lst, List.set_cons_zero, List.set_cons_succ, List.set_nil, ix_fr0, ix_fr1, ix_tb0, ix_tb1, ix_tb2, ix_tb3, eqR_fr, neR_fr, eqR_tb, neR_tb, h]; try rfl)
      rw [ec, ef, List.filter_cons, if_pos h]
      simp only [List.map_cons, toD]
      rw [ih]
    · have h' : (b * c % p == 1) = false := by simpa using h
      have ec : cT (PT.e2 eqR (PT.e2 modD (PT.e2 mulD (eVar 5) (eVar 7)) (eVar 0)) (eC (.int 1))) [some (.d (.int p)), x1, x2, x3, x4, some (.d (.int b)), x6, some (.d (.int c)), x8, x9, x10] = some (.ok false) := by (simp (disch := first | decide | assumption | omega) only [startE, List.map_cons, List.map_nil, List.replicate, eVar, eC, PT.e1, PT.e2, aNil, aCons, eCall, tupR, lstR, eTup, eLst, eIte, eLenO, eIxO, cT, cAnd, cOr, cNot, andV, orV, notD, truR, truD, bindR, bindRB, bindRL, bindL, bindB, bindBB, bindLL, toD, okD, okI, okB, itA, itD, items_tup, items_lst, items_scr, len_tup, len_lst, len_scr, List.getElem?_cons_zero, List.getElem?_cons_succ, List.length_cons, List.length_nil, List.length_map, List.cons_append, List.nil_append, List.append_nil, Nat.zero_add, Nat.reduceAdd, Nat.reduceSub, Nat.reduceLeDiff, if_true, if_false, ite_true, ite_false, Bool.false_eq_true, reduceIte, Bool.not_true, Bool.not_false, Int.reducePow, Int.reduceToNat, Int.reduceMul, Int.reduceAdd, Int.reduceSub, addD, subD, negD, ltR, leR, gtR, geR, eqR_int, neR_int, eqR_bl, neR_bl, absR, max2R, min2R, intR, mulRi, divRi, powRi, modR, absI, len_fr, len_tb, isiT_fr, isiT_tb, isiI_int, isiB_int, isiB_bl, isiL_lst, isiT_tup, items_tb, items_fr, zip_tb, all4, addD_tup2, addD_lst2, eLc, lcL, cYes, wipeE, gN, gTup_tup, gTup_tb, gTup_fr, gLs_lst, gCons, gNil, tuple_lst, List.set_cons_zero, List.set_cons_succ, List.set_nil, ix_fr0, ix_fr1, ix_tb0, ix_tb1, ix_tb2, ix_tb3, eqR_fr, neR_fr, eqR_tb, neR_tb, h']; try rfl)
      rw [ec, List.filter_cons, if_neg h]
      exact ih
/-- one figure: what stays is whole, and no greater -/
theorem figure {p t b x : Int} {n : Nat} (hp : Pr p) (hx : b * x % p = 1) (ht : B n t) (hb : B n b) : p * ((t - t * x % p * b) / p) = t - t * x % p * b ∧ B n ((t - t * x % p * b) / p) := by
  have p0 := hp.pos
  have h0 := Int.emod_nonneg (t * x) hp.ne
  have h1 := Int.emod_lt_of_pos (t * x) p0
  have e := Int.emod_add_mul_ediv (t * x) p
  have e2 := Int.emod_add_mul_ediv (b * x) p
  rw [hx] at e2
  have hd : p ∣ t - t * x % p * b := by
    refine ⟨t * x / p * b - t * (b * x / p), ?_⟩
    generalize t * x % p = f at *
    generalize t * x / p = g at *
    generalize b * x / p = c at *
    grind
  have e3 := Int.mul_ediv_cancel' hd
  refine ⟨e3, ?_⟩
  generalize hq : (t - t * x % p * b) / p = q at *
  generalize t * x % p = f at *
  -- p * |q| <= |t| + (p - 1) * |b| < p * 2 ^ n
  have a1 : (p * q).natAbs ≤ t.natAbs + (f * b).natAbs := by rw [e3]; omega
  rw [Int.natAbs_mul, Int.natAbs_mul] at a1
  have ht' : t.natAbs + 1 ≤ 2 ^ n := ht
  have hb' : b.natAbs ≤ 2 ^ n := Nat.le_of_lt hb
  have f1 : f.natAbs ≤ p.natAbs - 1 := by omega
  have a2 : f.natAbs * b.natAbs ≤ (p.natAbs - 1) * 2 ^ n := Nat.mul_le_mul f1 hb'
  have a3 : (p.natAbs - 1) * 2 ^ n + 2 ^ n = p.natAbs * 2 ^ n := by
    have : p.natAbs = (p.natAbs - 1) + 1 := by omega
    conv => rhs; rw [this, Nat.add_mul, Nat.one_mul]
  show q.natAbs < 2 ^ n
  have a4 : p.natAbs * q.natAbs < p.natAbs * 2 ^ n := by omega
  exact Nat.lt_of_mul_lt_mul_left a4
theorem rest_digits {p k m t tot : Int} {q : Rat} {d K : Nat} (hp : Pr p) (hK : (K : Int) = k + d) (hm : (q.den : Int) = p ^ d * m) (zm : ¬ p ∣ m) (t0 : 0 ≤ tot) (t1 : tot < p ^ K) (hn : q.num = tot * m + p ^ K * t) : IsRest p k q (Rat.divInt tot (p ^ d)) := by
  have hs := rest_self (k := k) hp hK t0 t1
  have dne := pz_ne hp d
  have ek : pz p K = pz p k * pz p d := by rw [hK, pz_add hp]
  have er : Rat.divInt tot (p ^ d) = (tot : Rat) / pz p d := by rw [Rat.divInt_eq_div, pz_nat]
  refine ⟨hs.nn, hs.lt, hs.den, ?_⟩
  rw [al_iff hp]
  refine ⟨t, m, zm, ?_⟩
  rw [er]
  have nd := num_den q
  have m0 : m ≠ 0 := fun y => zm (by rw [y]; exact Int.dvd_zero p)
  have mq := cast_ne m0
  have hm' : ((q.den : Int) : Rat) = pz p d * (m : Rat) := by
    rw [hm, Rat.intCast_mul, pz_nat]
  have hn' : (q.num : Rat) = (tot : Rat) * (m : Rat) + pz p K * (t : Rat) := by
    rw [pz_nat, ← Rat.intCast_mul, ← Rat.intCast_mul, ← Rat.intCast_add, ← hn]
  rw [hm', hn', ek] at nd
  generalize pz p k = A at *
  generalize pz p d = C at *
  generalize (m : Rat) = m' at *
  generalize (t : Rat) = t' at *
  generalize (tot : Rat) = s' at *
  clear er hm' hn' hm hn t0 t1 hs ek
  subst nd
  grind
theorem ev__law_rest {p k : Int} {q : Rat} {n : Nat} (hp : Pr p) (hq : Qd q n) (l : n ≤ 2990) (lk : k.natAbs ≤ 2000) : ∃ r, IsRest p k q r ∧ f__law_rest [.int p, .int k, fr q] = okD (fr r) := by
  refine (?_ : ∃ r, IsRest p k q r ∧ outF 3 11 w__law_rest [.int p, .int k, fr q] = okD (fr r))
  refine postQ rfl ?_
  have hvl : vp p (q.den : Int) < n := vp_lt hp.two (den_ne q) hq.den
  obtain ⟨m, hm, zm⟩ := vp_spec hp.two (den_ne q)
  generalize hd : vp p (q.den : Int) = d at *
  have pp := hp.pos
  have p2 := hp.two
  have p7 := hp.le
  have pd := hp.pow_pos d
  have bp : Bd p 3 := ⟨hp.bd⟩
  have e1 : f__law_power [.int p, .int (q.den : Int)] = okI d := by rw [ev__law_power hp (den_ne q), hd]
  have e2 : f__law_up [.int p, .int (d : Int)] = okI (p ^ d) := ev__law_up hp.bd (by omega)
  have bm : B n m := hq.den.le (by
    rw [hm, Int.natAbs_mul]
    have : 1 ≤ (p ^ d).natAbs := by omega
    exact Nat.le_mul_of_pos_left _ this)
  have e5 : fdivD (.int (q.den : Int)) (.int (p ^ d)) = okI m := by rw [fdivR (n := 3 * d + 1) (by omega) (hp.pow_bd d) (by omega), fdiv_pos _ pd, hm, Int.mul_ediv_cancel_left _ (by omega)]
  -- what turns the bottom over
  obtain ⟨x, hx, ex⟩ : ∃ x : Int, (m * x % p = 1 ∧ 1 ≤ x ∧ x < p) ∧ ∀ (x1 x2 x3 x4 x6 x7 x8 x9 x10 : Option SV), PT.e2 ixR (eLc (itA range2L (aCons (eC (.int 1)) (aCons (eVar 0) (aNil)))) (gN 7) (cT (PT.e2 eqR (PT.e2 modD (PT.e2 mulD (eVar 5) (eVar 7)) (eVar 0)) (eC (.int 1)))) (eVar 7) [7]) (eC (.int 0)) [some (.d (.int p)), x1, x2, x3, x4, some (.d (.int m)), x6, x7, x8, x9, x10] = okD (.int x) := by
    obtain ⟨y, hy, he⟩ := hp.inv zm
    have hy1 : 1 ≤ y := by
      rcases Nat.eq_zero_or_pos y with z | z
      · rw [z] at he; simp at he
      · exact z
    generalize hcs : (List.range (p - 1).toNat).map (fun (k : Nat) => (1 : Int) + (k : Int)) = cs
    have hr : range2L [.int 1, .int p] = some (.ok (cs.map D.int)) := by
      rw [range2_ev (by omega) (by omega) (by omega) (by omega), ← hcs]
      unfold rangeD
      rw [List.map_map]
      rfl
    have hmem : ∀ c ∈ cs, 1 ≤ c ∧ c < p := by
      intro c hc
      rw [← hcs] at hc
      obtain ⟨k, hk, rfl⟩ := List.mem_map.mp hc
      have := List.mem_range.mp hk
      omega
    have hyc : (y : Int) ∈ cs := by
      rw [← hcs]
      exact List.mem_map.mpr ⟨y - 1, List.mem_range.mpr (by omega), by omega⟩
    generalize hf : cs.filter (fun c => m * c % p == 1) = fs
    have hyf : (y : Int) ∈ fs := by rw [← hf]; exact List.mem_filter.mpr ⟨hyc, by rw [he]; rfl⟩
    cases fs with
    | nil => cases hyf
    | cons x fs =>
      have hxf : x ∈ cs.filter (fun c => m * c % p == 1) := by rw [hf]; exact List.mem_cons_self
      obtain ⟨h1, h2⟩ := List.mem_filter.mp hxf
      refine ⟨x, ⟨by simpa using h2, hmem x h1⟩, fun x1 x2 x3 x4 x6 x7 x8 x9 x10 => ?_⟩
      have hlen : ((x :: fs).map D.int).length ≤ 1000000 := by
        rw [List.length_map, ← hf]
        refine Nat.le_trans (List.length_filter_le ..) ?_
        rw [← hcs, List.length_map, List.length_range]; omega
      have e := lc_by hp bm (by omega) x1 x2 x3 x4 x6 none x8 x9 x10 cs (fun c hc => by have := hmem c hc; exact B.of (by omega) (by omega))
      rw [hf] at e
      have e3 : eLc (itA range2L (aCons (eC (.int 1)) (aCons (eVar 0) (aNil)))) (gN 7) (cT (PT.e2 eqR (PT.e2 modD (PT.e2 mulD (eVar 5) (eVar 7)) (eVar 0)) (eC (.int 1)))) (eVar 7) [7] [some (.d (.int p)), x1, x2, x3, x4, some (.d (.int m)), x6, x7, x8, x9, x10] = some (.ok (.own ((x :: fs).map D.int))) := by
        unfold eLc
        have e4 : itA range2L (aCons (eC (.int 1)) (aCons (eVar 0) (aNil))) [some (.d (.int p)), x1, x2, x3, x4, some (.d (.int m)), x6, x7, x8, x9, x10] = some (.ok (cs.map D.int)) := hr
        rw [e4]
        simp only [bindL, wipeE, List.set_cons_succ, List.set_cons_zero]
        rw [e]
        simp only [if_pos hlen]
      have e6 : ixR (.lst ((x :: fs).map D.int)) (.int 0) = okD (.int x) := ix_lst (k := 0) rfl
      simp only [PT.e2, e3, eC, bindR, toD]
      exact e6
  obtain ⟨hx, x1, x7⟩ := hx
  have bx : Bd x 3 := ⟨B.of (by omega) (by omega)⟩
  try simp only [List.set_cons_zero, List.set_cons_succ, startE, List.map_cons, List.map_nil, List.replicate, List.cons_append, List.nil_append, List.append_nil, List.length_cons, List.length_nil, Nat.zero_add, Nat.reduceAdd, Nat.reduceSub]
  refine q_set (v := .int d) (by (simp (disch := first | decide | assumption | omega) only [startE, List.map_cons, List.map_nil, List.replicate, eVar, eC, PT.e1, PT.e2, aNil, aCons, eCall, tupR, lstR, eTup, eLst, eIte, eLenO, eIxO, cT, cAnd, cOr, cNot, andV, orV, notD, truR, truD, bindR, bindRB, bindRL, bindL, bindB, bindBB, bindLL, toD, okD, okI, okB, itA, itD, items_tup, items_lst, items_scr, len_tup, len_lst, len_scr, List.getElem?_cons_zero, List.getElem?_cons_succ, List.length_cons, List.length_nil, List.length_map, List.cons_append, List.nil_append, List.append_nil, Nat.zero_add, Nat.reduceAdd, Nat.reduceSub, Nat.reduceLeDiff, if_true, if_false, ite_true, ite_false, Bool.false_eq_true, reduceIte, Bool.not_true, Bool.not_false, Int.reducePow, Int.reduceToNat, Int.reduceMul, Int.reduceAdd, Int.reduceSub, addD, subD, negD, ltR, leR, gtR, geR, eqR_int, neR_int, eqR_bl, neR_bl, absR, max2R, min2R, intR, mulRi, divRi, powRi, modR, absI, len_fr, len_tb, isiT_fr, isiT_tb, isiI_int, isiB_int, isiB_bl, isiL_lst, isiT_tup, items_tb, items_fr, zip_tb, all4, addD_tup2, addD_lst2, eLc, lcL, cYes, wipeE, gN, gTup_tup, gTup_tb, gTup_fr, gLs_lst, gCons, gNil, tuple_lst, List.set_cons_zero, List.set_cons_succ, List.set_nil, ix_fr0, ix_fr1, ix_tb0, ix_tb1, ix_tb2, ix_tb3, eqR_fr, neR_fr, eqR_tb, neR_tb, e1]; try rfl)) ?_
  try simp only [List.set_cons_zero, List.set_cons_succ, startE, List.map_cons, List.map_nil, List.replicate, List.cons_append, List.nil_append, List.append_nil, List.length_cons, List.length_nil, Nat.zero_add, Nat.reduceAdd, Nat.reduceSub]
  refine q_set (v := .int q.num) (by (simp (disch := first | decide | assumption | omega) only [startE, List.map_cons, List.map_nil, List.replicate, eVar, eC, PT.e1, PT.e2, aNil, aCons, eCall, tupR, lstR, eTup, eLst, eIte, eLenO, eIxO, cT, cAnd, cOr, cNot, andV, orV, notD, truR, truD, bindR, bindRB, bindRL, bindL, bindB, bindBB, bindLL, toD, okD, okI, okB, itA, itD, items_tup, items_lst, items_scr, len_tup, len_lst, len_scr, List.getElem?_cons_zero, List.getElem?_cons_succ, List.length_cons, List.length_nil, List.length_map, List.cons_append, List.nil_append, List.append_nil, Nat.zero_add, Nat.reduceAdd, Nat.reduceSub, Nat.reduceLeDiff, if_true, if_false, ite_true, ite_false, Bool.false_eq_true, reduceIte, Bool.not_true, Bool.not_false, Int.reducePow, Int.reduceToNat, Int.reduceMul, Int.reduceAdd, Int.reduceSub, addD, subD, negD, ltR, leR, gtR, geR, eqR_int, neR_int, eqR_bl, neR_bl, absR, max2R, min2R, intR, mulRi, divRi, powRi, modR, absI, len_fr, len_tb, isiT_fr, isiT_tb, isiI_int, isiB_int, isiB_bl, isiL_lst, isiT_tup, items_tb, items_fr, zip_tb, all4, addD_tup2, addD_lst2, eLc, lcL, cYes, wipeE, gN, gTup_tup, gTup_tb, gTup_fr, gLs_lst, gCons, gNil, tuple_lst, List.set_cons_zero, List.set_cons_succ, List.set_nil, ix_fr0, ix_fr1, ix_tb0, ix_tb1, ix_tb2, ix_tb3, eqR_fr, neR_fr, eqR_tb, neR_tb]; try rfl)) ?_
  try simp only [List.set_cons_zero, List.set_cons_succ, startE, List.map_cons, List.map_nil, List.replicate, List.cons_append, List.nil_append, List.append_nil, List.length_cons, List.length_nil, Nat.zero_add, Nat.reduceAdd, Nat.reduceSub]
  refine q_set (v := .int m) (by (simp (disch := first | decide | assumption | omega) only [startE, List.map_cons, List.map_nil, List.replicate, eVar, eC, PT.e1, PT.e2, aNil, aCons, eCall, tupR, lstR, eTup, eLst, eIte, eLenO, eIxO, cT, cAnd, cOr, cNot, andV, orV, notD, truR, truD, bindR, bindRB, bindRL, bindL, bindB, bindBB, bindLL, toD, okD, okI, okB, itA, itD, items_tup, items_lst, items_scr, len_tup, len_lst, len_scr, List.getElem?_cons_zero, List.getElem?_cons_succ, List.length_cons, List.length_nil, List.length_map, List.cons_append, List.nil_append, List.append_nil, Nat.zero_add, Nat.reduceAdd, Nat.reduceSub, Nat.reduceLeDiff, if_true, if_false, ite_true, ite_false, Bool.false_eq_true, reduceIte, Bool.not_true, Bool.not_false, Int.reducePow, Int.reduceToNat, Int.reduceMul, Int.reduceAdd, Int.reduceSub, addD, subD, negD, ltR, leR, gtR, geR, eqR_int, neR_int, eqR_bl, neR_bl, absR, max2R, min2R, intR, mulRi, divRi, powRi, modR, absI, len_fr, len_tb, isiT_fr, isiT_tb, isiI_int, isiB_int, isiB_bl, isiL_lst, isiT_tup, items_tb, items_fr, zip_tb, all4, addD_tup2, addD_lst2, eLc, lcL, cYes, wipeE, gN, gTup_tup, gTup_tb, gTup_fr, gLs_lst, gCons, gNil, tuple_lst, List.set_cons_zero, List.set_cons_succ, List.set_nil, ix_fr0, ix_fr1, ix_tb0, ix_tb1, ix_tb2, ix_tb3, eqR_fr, neR_fr, eqR_tb, neR_tb, e2, e5]; try rfl)) ?_
  try simp only [List.set_cons_zero, List.set_cons_succ, startE, List.map_cons, List.map_nil, List.replicate, List.cons_append, List.nil_append, List.append_nil, List.length_cons, List.length_nil, Nat.zero_add, Nat.reduceAdd, Nat.reduceSub]
  refine q_set (ex _ _ _ _ _ _ _ _ _) ?_
  try simp only [List.set_cons_zero, List.set_cons_succ, startE, List.map_cons, List.map_nil, List.replicate, List.cons_append, List.nil_append, List.append_nil, List.length_cons, List.length_nil, Nat.zero_add, Nat.reduceAdd, Nat.reduceSub]
  refine q_set (v := .int 0) (by (simp (disch := first | decide | assumption | omega) only [startE, List.map_cons, List.map_nil, List.replicate, eVar, eC, PT.e1, PT.e2, aNil, aCons, eCall, tupR, lstR, eTup, eLst, eIte, eLenO, eIxO, cT, cAnd, cOr, cNot, andV, orV, notD, truR, truD, bindR, bindRB, bindRL, bindL, bindB, bindBB, bindLL, toD, okD, okI, okB, itA, itD, items_tup, items_lst, items_scr, len_tup, len_lst, len_scr, List.getElem?_cons_zero, List.getElem?_cons_succ, List.length_cons, List.length_nil, List.length_map, List.cons_append, List.nil_append, List.append_nil, Nat.zero_add, Nat.reduceAdd, Nat.reduceSub, Nat.reduceLeDiff, if_true, if_false, ite_true, ite_false, Bool.false_eq_true, reduceIte, Bool.not_true, Bool.not_false, Int.reducePow, Int.reduceToNat, Int.reduceMul, Int.reduceAdd, Int.reduceSub, addD, subD, negD, ltR, leR, gtR, geR, eqR_int, neR_int, eqR_bl, neR_bl, absR, max2R, min2R, intR, mulRi, divRi, powRi, modR, absI, len_fr, len_tb, isiT_fr, isiT_tb, isiI_int, isiB_int, isiB_bl, isiL_lst, isiT_tup, items_tb, items_fr, zip_tb, all4, addD_tup2, addD_lst2, eLc, lcL, cYes, wipeE, gN, gTup_tup, gTup_tb, gTup_fr, gLs_lst, gCons, gNil, tuple_lst, List.set_cons_zero, List.set_cons_succ, List.set_nil, ix_fr0, ix_fr1, ix_tb0, ix_tb1, ix_tb2, ix_tb3, eqR_fr, neR_fr, eqR_tb, neR_tb]; try rfl)) ?_
  try simp only [List.set_cons_zero, List.set_cons_succ, startE, List.map_cons, List.map_nil, List.replicate, List.cons_append, List.nil_append, List.append_nil, List.length_cons, List.length_nil, Nat.zero_add, Nat.reduceAdd, Nat.reduceSub]
  refine q_forN (ds := rangeD 0 (k + (d : Int)).toNat) (fun i ρ => i ≤ 5000 ∧ ∃ t tot, (B n t ∧ 0 ≤ tot ∧ tot < p ^ i ∧ q.num = tot * m + p ^ i * t) ∧ ∃ y9 y10, ρ = [some (.d (.int p)), some (.d (.int k)), some (.d (fr q)), some (.d (.int d)), some (.d (.int t)), some (.d (.int m)), some (.d (.int x)), none, some (.d (.int tot)), y9, y10]) (by (simp (disch := first | decide | assumption | omega) only [startE, List.map_cons, List.map_nil, List.replicate, eVar, eC, PT.e1, PT.e2, aNil, aCons, eCall, tupR, lstR, eTup, eLst, eIte, eLenO, eIxO, cT, cAnd, cOr, cNot, andV, orV, notD, truR, truD, bindR, bindRB, bindRL, bindL, bindB, bindBB, bindLL, toD, okD, okI, okB, itA, itD, items_tup, items_lst, items_scr, len_tup, len_lst, len_scr, List.getElem?_cons_zero, List.getElem?_cons_succ, List.length_cons, List.length_nil, List.length_map, List.cons_append, List.nil_append, List.append_nil, Nat.zero_add, Nat.reduceAdd, Nat.reduceSub, Nat.reduceLeDiff, if_true, if_false, ite_true, ite_false, Bool.false_eq_true, reduceIte, Bool.not_true, Bool.not_false, Int.reducePow, Int.reduceToNat, Int.reduceMul, Int.reduceAdd, Int.reduceSub, addD, subD, negD, ltR, leR, gtR, geR, eqR_int, neR_int, eqR_bl, neR_bl, absR, max2R, min2R, intR, mulRi, divRi, powRi, modR, absI, len_fr, len_tb, isiT_fr, isiT_tb, isiI_int, isiB_int, isiB_bl, isiL_lst, isiT_tup, items_tb, items_fr, zip_tb, all4, addD_tup2, addD_lst2, eLc, lcL, cYes, wipeE, gN, gTup_tup, gTup_tb, gTup_fr, gLs_lst, gCons, gNil, tuple_lst, List.set_cons_zero, List.set_cons_succ, List.set_nil, ix_fr0, ix_fr1, ix_tb0, ix_tb1, ix_tb2, ix_tb3, eqR_fr, neR_fr, eqR_tb, neR_tb]); rw [range1_any (by omega) (by omega)]) ⟨Nat.zero_le _, q.num, 0, ⟨hq.num, by decide, by rw [Int.pow_zero]; decide, by rw [Int.pow_zero]; omega⟩, _, _, rfl⟩ ?_ ?_
  · rintro ρ ⟨-, t, tot, ⟨h1, h2, h3, h4⟩, y9, y10, rfl⟩
    have hl : (rangeD 0 (k + (d : Int)).toNat).length = (k + (d : Int)).toNat := by unfold rangeD; simp
    rw [hl] at h3 h4
    refine z_ret (sv := .d (fr (Rat.divInt tot (p ^ d)))) (by (simp (disch := first | decide | assumption | omega) only [startE, List.map_cons, List.map_nil, List.replicate, eVar, eC, PT.e1, PT.e2, aNil, aCons, eCall, tupR, lstR, eTup, eLst, eIte, eLenO, eIxO, cT, cAnd, cOr, cNot, andV, orV, notD, truR, truD, bindR, bindRB, bindRL, bindL, bindB, bindBB, bindLL, toD, okD, okI, okB, itA, itD, items_tup, items_lst, items_scr, len_tup, len_lst, len_scr, List.getElem?_cons_zero, List.getElem?_cons_succ, List.length_cons, List.length_nil, List.length_map, List.cons_append, List.nil_append, List.append_nil, Nat.zero_add, Nat.reduceAdd, Nat.reduceSub, Nat.reduceLeDiff, if_true, if_false, ite_true, ite_false, Bool.false_eq_true, reduceIte, Bool.not_true, Bool.not_false, Int.reducePow, Int.reduceToNat, Int.reduceMul, Int.reduceAdd, Int.reduceSub, addD, subD, negD, ltR, leR, gtR, geR, eqR_int, neR_int, eqR_bl, neR_bl, absR, max2R, min2R, intR, mulRi, divRi, powRi, modR, absI, len_fr, len_tb, isiT_fr, isiT_tb, isiI_int, isiB_int, isiB_bl, isiL_lst, isiT_tup, items_tb, items_fr, zip_tb, all4, addD_tup2, addD_lst2, eLc, lcL, cYes, wipeE, gN, gTup_tup, gTup_tb, gTup_fr, gLs_lst, gCons, gNil, tuple_lst, List.set_cons_zero, List.set_cons_succ, List.set_nil, ix_fr0, ix_fr1, ix_tb0, ix_tb1, ix_tb2, ix_tb3, eqR_fr, neR_fr, eqR_tb, neR_tb, ev__law_over_p hp (show d ≤ 10000 by omega)]; try rfl)) ⟨_, ?_, rfl⟩
    by_cases hk : k + (d : Int) ≤ 0
    · have e0 : (k + (d : Int)).toNat = 0 := by omega
      rw [e0, Int.pow_zero] at h3
      have : tot = 0 := by omega
      rw [this, Rat.zero_divInt]
      exact rest_zero hp (by rw [hd]; exact hk)
    · exact rest_digits hp (by omega) hm zm h2 h3 h4
  · rintro j e ρ K hd2 ⟨hj5, t, tot, ⟨h1, h2, h3, h4⟩, y9, y10, rfl⟩ hK
    obtain ⟨hj, rfl⟩ := get_rangeD hd2
    rw [Int.zero_add]
    refine ⟨_, rfl, ?_⟩
    have hj3 : j < 5000 := by omega
    have pj := hp.pow_pos j
    obtain ⟨f1, f2⟩ := figure hp hx h1 bm
    have g0 := Int.emod_nonneg (t * x) hp.ne
    have g1 := Int.emod_lt_of_pos (t * x) pp
    have bt : Bd t n := ⟨h1⟩
    have bm' : Bd m n := ⟨bm⟩
    have bf : Bd (t * x % p) 3 := ⟨bd_lt g0 g1 hp.bd⟩
    have bj : Bd (p ^ j) 15001 := ⟨(hp.pow_bd j).mono (by omega)⟩
    have l1 : n + 3 < 1000000 := by omega
    have l2 : 3 + n < 1000000 := by omega
    have eu : f__law_up [.int p, .int (j : Int)] = okI (p ^ j) := ev__law_up hp.bd (by omega)
    try simp only [List.set_cons_zero, List.set_cons_succ, startE, List.map_cons, List.map_nil, List.replicate, List.cons_append, List.nil_append, List.append_nil, List.length_cons, List.length_nil, Nat.zero_add, Nat.reduceAdd, Nat.reduceSub]
    refine q_set (v := .int (t * x % p)) (by (simp (disch := first | decide | assumption | omega) only [startE, List.map_cons, List.map_nil, List.replicate, eVar, eC, PT.e1, PT.e2, aNil, aCons, eCall, tupR, lstR, eTup, eLst, eIte, eLenO, eIxO, cT, cAnd, cOr, cNot, andV, orV, notD, truR, truD, bindR, bindRB, bindRL, bindL, bindB, bindBB, bindLL, toD, okD, okI, okB, itA, itD, items_tup, items_lst, items_scr, len_tup, len_lst, len_scr, List.getElem?_cons_zero, List.getElem?_cons_succ, List.length_cons, List.length_nil, List.length_map, List.cons_append, List.nil_append, List.append_nil, Nat.zero_add, Nat.reduceAdd, Nat.reduceSub, Nat.reduceLeDiff, if_true, if_false, ite_true, ite_false, Bool.false_eq_true, reduceIte, Bool.not_true, Bool.not_false, Int.reducePow, Int.reduceToNat, Int.reduceMul, Int.reduceAdd, Int.reduceSub, addD, subD, negD, ltR, leR, gtR, geR, eqR_int, neR_int, eqR_bl, neR_bl, absR, max2R, min2R, intR, mulRi, divRi, powRi, modR, absI, len_fr, len_tb, isiT_fr, isiT_tb, isiI_int, isiB_int, isiB_bl, isiL_lst, isiT_tup, items_tb, items_fr, zip_tb, all4, addD_tup2, addD_lst2, eLc, lcL, cYes, wipeE, gN, gTup_tup, gTup_tb, gTup_fr, gLs_lst, gCons, gNil, tuple_lst, List.set_cons_zero, List.set_cons_succ, List.set_nil, ix_fr0, ix_fr1, ix_tb0, ix_tb1, ix_tb2, ix_tb3, eqR_fr, neR_fr, eqR_tb, neR_tb]; try rfl)) ?_
    try simp only [List.set_cons_zero, List.set_cons_succ, startE, List.map_cons, List.map_nil, List.replicate, List.cons_append, List.nil_append, List.append_nil, List.length_cons, List.length_nil, Nat.zero_add, Nat.reduceAdd, Nat.reduceSub]
    refine q_set (v := .int (tot + t * x % p * p ^ j)) (by (simp (disch := first | decide | assumption | omega) only [startE, List.map_cons, List.map_nil, List.replicate, eVar, eC, PT.e1, PT.e2, aNil, aCons, eCall, tupR, lstR, eTup, eLst, eIte, eLenO, eIxO, cT, cAnd, cOr, cNot, andV, orV, notD, truR, truD, bindR, bindRB, bindRL, bindL, bindB, bindBB, bindLL, toD, okD, okI, okB, itA, itD, items_tup, items_lst, items_scr, len_tup, len_lst, len_scr, List.getElem?_cons_zero, List.getElem?_cons_succ, List.length_cons, List.length_nil, List.length_map, List.cons_append, List.nil_append, List.append_nil, Nat.zero_add, Nat.reduceAdd, Nat.reduceSub, Nat.reduceLeDiff, if_true, if_false, ite_true, ite_false, Bool.false_eq_true, reduceIte, Bool.not_true, Bool.not_false, Int.reducePow, Int.reduceToNat, Int.reduceMul, Int.reduceAdd, Int.reduceSub, addD, subD, negD, ltR, leR, gtR, geR, eqR_int, neR_int, eqR_bl, neR_bl, absR, max2R, min2R, intR, mulRi, divRi, powRi, modR, absI, len_fr, len_tb, isiT_fr, isiT_tb, isiI_int, isiB_int, isiB_bl, isiL_lst, isiT_tup, items_tb, items_fr, zip_tb, all4, addD_tup2, addD_lst2, eLc, lcL, cYes, wipeE, gN, gTup_tup, gTup_tb, gTup_fr, gLs_lst, gCons, gNil, tuple_lst, List.set_cons_zero, List.set_cons_succ, List.set_nil, ix_fr0, ix_fr1, ix_tb0, ix_tb1, ix_tb2, ix_tb3, eqR_fr, neR_fr, eqR_tb, neR_tb, eu]; try rfl)) ?_
    try simp only [List.set_cons_zero, List.set_cons_succ, startE, List.map_cons, List.map_nil, List.replicate, List.cons_append, List.nil_append, List.append_nil, List.length_cons, List.length_nil, Nat.zero_add, Nat.reduceAdd, Nat.reduceSub]
    refine z_set (v := .int ((t - t * x % p * m) / p)) (by (simp (disch := first | decide | assumption | omega) only [startE, List.map_cons, List.map_nil, List.replicate, eVar, eC, PT.e1, PT.e2, aNil, aCons, eCall, tupR, lstR, eTup, eLst, eIte, eLenO, eIxO, cT, cAnd, cOr, cNot, andV, orV, notD, truR, truD, bindR, bindRB, bindRL, bindL, bindB, bindBB, bindLL, toD, okD, okI, okB, itA, itD, items_tup, items_lst, items_scr, len_tup, len_lst, len_scr, List.getElem?_cons_zero, List.getElem?_cons_succ, List.length_cons, List.length_nil, List.length_map, List.cons_append, List.nil_append, List.append_nil, Nat.zero_add, Nat.reduceAdd, Nat.reduceSub, Nat.reduceLeDiff, if_true, if_false, ite_true, ite_false, Bool.false_eq_true, reduceIte, Bool.not_true, Bool.not_false, Int.reducePow, Int.reduceToNat, Int.reduceMul, Int.reduceAdd, Int.reduceSub, addD, subD, negD, ltR, leR, gtR, geR, eqR_int, neR_int, eqR_bl, neR_bl, absR, max2R, min2R, intR, mulRi, divRi, powRi, modR, absI, len_fr, len_tb, isiT_fr, isiT_tb, isiI_int, isiB_int, isiB_bl, isiL_lst, isiT_tup, items_tb, items_fr, zip_tb, all4, addD_tup2, addD_lst2, eLc, lcL, cYes, wipeE, gN, gTup_tup, gTup_tb, gTup_fr, gLs_lst, gCons, gNil, tuple_lst, List.set_cons_zero, List.set_cons_succ, List.set_nil, ix_fr0, ix_fr1, ix_tb0, ix_tb1, ix_tb2, ix_tb3, eqR_fr, neR_fr, eqR_tb, neR_tb]; try rfl)) (hK _ ⟨by omega, _, _, ⟨f2, ?_, ?_, ?_⟩, _, _, rfl⟩)
    · have := Int.mul_nonneg g0 (Int.le_of_lt pj); omega
    · rw [Int.pow_succ]
      have a1 : (t * x % p) * p ^ j ≤ (p - 1) * p ^ j := Int.mul_le_mul_of_nonneg_right (by omega) (Int.le_of_lt pj)
      have a2 : (p - 1) * p ^ j = p ^ j * p - p ^ j := by grind
      omega
    · rw [h4, Int.pow_succ]
      generalize (t - t * x % p * m) / p = w at *
      generalize t * x % p = f at *
      generalize p ^ j = P at *
      grind
end PT
/-! PM: lists of data. -/
namespace PT
open PySem (Str)
/-! ### comprehensions over lists of data -/
theorem lcL_map {α : Type} {i : Nat} {f : EF} {ρ : En} {g h : α → D} : ∀ xs : List α, (∀ x ∈ xs, f (ρ.set i (some (.d (g x)))) = okD (h x)) → lcL (gN i) cYes f ρ (xs.map g) = some (xs.map h)
  | [], _ => rfl
  | x :: xs, hx => by
    have h1 := hx x List.mem_cons_self
    have h2 := lcL_map xs (fun y hy => hx y (List.mem_cons_of_mem _ hy))
    show (match f (ρ.set i (some (.d (g x)))) with
      | some (.ok sv) => (match lcL (gN i) cYes f ρ (xs.map g) with
        | some r => some (toD sv :: r)
        | none => none)
      | _ => none) = _
    rw [h1, h2]; rfl
theorem eLc_map {α : Type} {it : AF} {i : Nat} {f : EF} {ρ : En} {g h : α → D} {xs : List α} (hi : it ρ = some (.ok (xs.map g))) (hl : xs.length ≤ 1000000) (hx : ∀ x ∈ xs, f (ρ.set i (some (.d (g x)))) = okD (h x)) : eLc it (gN i) cYes f [i] ρ = some (.ok (.own (xs.map h))) := by
  unfold eLc
  rw [hi]
  have e : lcL (gN i) cYes f (wipeE ρ [i]) (xs.map g) = some (xs.map h) := lcL_map xs fun x z => by
    have := hx x z
    show f (((ρ.set i none)).set i _) = _
    rw [List.set_set]; exact this
  show (match lcL (gN i) cYes f (wipeE ρ [i]) (xs.map g) with
    | some r => if r.length ≤ 1000000 then some (R.ok (.own r)) else none
    | none => none) = _
  rw [e]
  show (if (xs.map h).length ≤ 1000000 then _ else _) = _
  rw [if_pos (by rw [List.length_map]; exact hl)]
theorem eqvAll_self : ∀ ds : List D, (∀ d ∈ ds, eqD d d = true) → PySem.PyData.eqvAll (toPs ds) (toPs ds) = true
  | [], _ => rfl
  | d :: ds, h => by
    have h1 : PySem.PyData.eqv (toP d) (toP d) = true := h d List.mem_cons_self
    have h2 := eqvAll_self ds fun x hx => h x (List.mem_cons_of_mem _ hx)
    simp [toPs, PySem.PyData.eqvAll, h1, h2]
theorem neR_lst_self (ds : List D) (h : ∀ d ∈ ds, eqD d d = true) (hf : ∀ d ∈ ds, fine 59 d = true) : neR (.lst ds) (.lst ds) = okB false := by
  have f1 : fine 60 (.lst ds) = true := by rw [fine_lst]; exact List.all_eq_true.mpr hf
  have e1 : eqD (.lst ds) (.lst ds) = true := by
    simp only [eqD, toP, PySem.PyData.eqv]
    exact eqvAll_self ds h
  unfold neR
  rw [f1, e1]; rfl
theorem eqR_lst_self (ds : List D) (h : ∀ d ∈ ds, eqD d d = true) (hf : ∀ d ∈ ds, fine 59 d = true) : eqR (.lst ds) (.lst ds) = okB true := by
  have f1 : fine 60 (.lst ds) = true := by rw [fine_lst]; exact List.all_eq_true.mpr hf
  have e1 : eqD (.lst ds) (.lst ds) = true := by
    simp only [eqD, toP, PySem.PyData.eqv]
    exact eqvAll_self ds h
  unfold eqR
  rw [f1, e1]; rfl
theorem blsOf_true {α : Type} : ∀ xs : List α, blsOf (xs.map fun _ => D.bl true) = some (xs.map fun _ => true)
  | [] => rfl
  | x :: xs => by
    show (match blsOf (xs.map fun _ => D.bl true) with
      | some bs => some (true :: bs)
      | none => none) = _
    rw [blsOf_true xs]; rfl
theorem allR_true {α : Type} (xs : List α) : allR [.lst (xs.map fun _ => D.bl true)] = okB true := by
  show (match blsOf (xs.map fun _ => D.bl true) with
    | some bs => okB (bs.all id)
    | none => none) = _
  rw [blsOf_true]
  show okB ((xs.map fun _ => true).all id) = _
  congr 1
  rw [List.all_map]
  exact List.all_eq_true.mpr fun _ _ => rfl
end PT
namespace PT
open PySem (Str)
/-- _law_drawn_figures(_law_p, _law_number, _law_many): slots _law_p, _law_number, _law_many, _law_found, _law_k -/
def w__law_drawn_figures : SF := wSeq (wOwn 3 (eLst (aNil))) (wSeq (wFor (itA range1L (aCons (eVar 2) (aNil))) (gN 4) (wSeq (wApp 3 (e2 modD (eVar 1) (eVar 0))) (wSet 1 (e2 fdivD (eVar 1) (eVar 0))))) (wRetV 3))
instance : Det w__law_drawn_figures := by unfold w__law_drawn_figures; infer_instance
instance : Out w__law_drawn_figures := by unfold w__law_drawn_figures; infer_instance
noncomputable def f__law_drawn_figures : List D → Option R := outF 3 5 w__law_drawn_figures
theorem len__law_drawn_figures : ∀ ds r, f__law_drawn_figures ds = some r → ds.length = 3 := outF_len
theorem does__law_drawn_figures : Does 5 w__law_drawn_figures f__law_drawn_figures := outF_does
/-- _law_worth(_law_p, _law_some): slots _law_p, _law_some, _law_total, _law_k -/
def w__law_worth : SF := wSeq (wSet 2 (eC (.int 0))) (wSeq (wFor (itA range1L (aCons (eCall lenR (aCons (eVar 1) (aNil))) (aNil))) (gN 3) (wSet 2 (e2 addD (eVar 2) (e2 mulD (e2 ixR (eVar 1) (eVar 3)) (eCall f__law_up (aCons (eVar 0) (aCons (eVar 3) (aNil)))))))) (wRet (eVar 2)))
instance : Det w__law_worth := by unfold w__law_worth; infer_instance
instance : Out w__law_worth := by unfold w__law_worth; infer_instance
noncomputable def f__law_worth : List D → Option R := outF 2 4 w__law_worth
theorem len__law_worth : ∀ ds r, f__law_worth ds = some r → ds.length = 2 := outF_len
theorem does__law_worth : Does 4 w__law_worth f__law_worth := outF_does
/-- _law_value(_law_p, _law_first, _law_head, _law_again): slots _law_p, _law_first, _law_head, _law_again, _law_behind -/
def w__law_value : SF := wSeq (wSet 4 (eCall f__law_lowest (aCons (e2 mulD (eCall f__law_worth (aCons (eVar 0) (aCons (eVar 3) (aNil)))) (eCall f__law_up (aCons (eVar 0) (aCons (eCall lenR (aCons (eVar 2) (aNil))) (aNil))))) (aCons (e2 subD (eC (.int 1)) (eCall f__law_up (aCons (eVar 0) (aCons (eCall lenR (aCons (eVar 3) (aNil))) (aNil))))) (aNil))))) (wRet (eCall f__law_product (aCons (eCall f__law_sum (aCons (eTup (aCons (eCall f__law_worth (aCons (eVar 0) (aCons (eVar 2) (aNil)))) (aCons (eC (.int 1)) (aNil)))) (aCons (eVar 4) (aNil)))) (aCons (eCall f__law_pp (aCons (eVar 0) (aCons (eVar 1) (aNil)))) (aNil)))))
instance : Det w__law_value := by unfold w__law_value; infer_instance
instance : Out w__law_value := by unfold w__law_value; infer_instance
noncomputable def f__law_value : List D → Option R := outF 4 5 w__law_value
theorem len__law_value : ∀ ds r, f__law_value ds = some r → ds.length = 4 := outF_len
theorem does__law_value : Does 5 w__law_value f__law_value := outF_does
/-- law(_law_script): slots _law_script, _law_at, _law_number, _law_p, _law_first, _law_more, _law_sizes, _law_great, _law_head, _law_again, _law_due, _law_handed, _law_found, _law_turned, _law_told -/
def w_law : SF := wSeq (wFor (itA range3L (aCons (eC (.int 0)) (aCons (eCall max2R (aCons (eC (.int 5)) (aCons (eCall min2R (aCons (eCall lenR (aCons (eVar 0) (aNil))) (aCons (eC (.int 40)) (aNil)))) (aNil)))) (aCons (eC (.int 5)) (aNil))))) (gN 1) (wSeq (wSet 2 (eCall f__law_drawn (aCons (eVar 0) (aCons (eVar 1) (aNil))))) (wSeq (wSet 3 (eCall f__law_prime (aCons (eVar 2) (aNil)))) (wSeq (wSet 4 (e2 subD (e2 modD (e2 fdivD (eVar 2) (eC (.int 4))) (eC (.int 25))) (eC (.int 12)))) (wSeq (wIf (cT (e2 eqR (e2 modD (e2 fdivD (eVar 2) (eC (.int 100))) (eC (.int 8))) (eC (.int 1)))) (wSet 4 (e2 subD (e2 modD (e2 fdivD (eVar 2) (eC (.int 800))) (eC (.int 601))) (eC (.int 300)))) (wNop)) (wSeq (wSet 5 (eCall f__law_drawn (aCons (eVar 0) (aCons (e2 addD (eVar 1) (eC (.int 1))) (aNil))))) (wSeq (wSet 6 (eTup (aCons (e2 modD (eVar 5) (eC (.int 9))) (aCons (e2 addD (eC (.int 1)) (e2 modD (e2 fdivD (eVar 5) (eC (.int 9))) (eC (.int 6)))) (aNil))))) (wSeq (wIf (cT (e2 eqR (e2 modD (e2 fdivD (eVar 2) (eC (.int 8000))) (eC (.int 4))) (eC (.int 1)))) (wSet 6 (eTup (aCons (e2 modD (eVar 5) (eC (.int 101))) (aCons (e2 addD (eC (.int 1)) (e2 modD (e2 fdivD (eVar 5) (eC (.int 101))) (eC (.int 100)))) (aNil))))) (wNop)) (wSeq (wSet 7 (e2 addD (e2 mulD (eCall f__law_drawn (aCons (eVar 0) (aCons (e2 addD (eVar 1) (eC (.int 4))) (aNil)))) (e2 powD (eC (.int 10)) (eC (.int 60)))) (eCall f__law_drawn (aCons (eVar 0) (aCons (e2 addD (eVar 1) (eC (.int 2))) (aNil)))))) (wSeq (wSet 8 (eCall f__law_drawn_figures (aCons (eVar 3) (aCons (eVar 7) (aCons (e2 ixR (eVar 6) (eC (.int 0))) (aNil)))))) (wSeq (wSet 9 (eCall f__law_drawn_figures (aCons (eVar 3) (aCons (eCall f__law_drawn (aCons (eVar 0) (aCons (e2 addD (eVar 1) (eC (.int 3))) (aNil)))) (aCons (e2 ixR (eVar 6) (eC (.int 1))) (aNil)))))) (wSeq (wSet 10 (eCall f__law_value (aCons (eVar 3) (aCons (eVar 4) (aCons (eVar 8) (aCons (eVar 9) (aNil))))))) (wSeq (wSet 11 (eTup (aCons (eCall listR (aCons (eVar 8) (aNil))) (aCons (eCall listR (aCons (eVar 9) (aNil))) (aNil))))) (wSeq (wSet 12 (eCall f_by_figures (aCons (eVar 3) (aCons (eVar 4) (aCons (e2 ixR (eVar 11) (eC (.int 0))) (aCons (e2 ixR (eVar 11) (eC (.int 1))) (aNil))))))) (wSeq (wIf (cOr (cNot (cT (eCall f__law_is_fraction (aCons (eVar 12) (aNil))))) (cOr (cT (e2 neR (eVar 12) (eVar 10))) (cT (e2 neR (eVar 11) (eTup (aCons (eVar 8) (aCons (eVar 9) (aNil)))))))) (wRet (eC (.bl false))) (wNop)) (wSeq (wIf (cAnd (cT (e2 ltR (eCall lenR (aCons (eVar 9) (aNil))) (eC (.int 51)))) (cT (e2 neR (eCall f_by_figures (aCons (eVar 3) (aCons (eVar 4) (aCons (eVar 8) (aCons (e2 addD (eVar 9) (eVar 9)) (aNil)))))) (eVar 10)))) (wRet (eC (.bl false))) (wNop)) (wSeq (wIf (cT (e2 ltR (eCall lenR (aCons (eVar 8) (aNil))) (eC (.int 100)))) (wSeq (wSet 13 (eCall f_by_figures (aCons (eVar 3) (aCons (eVar 4) (aCons (e2 addD (eVar 8) (eSl (eVar 9) (none) (some (eC (.int 1))))) (aCons (e2 addD (eSl (eVar 9) (some (eC (.int 1))) (none)) (eSl (eVar 9) (none) (some (eC (.int 1))))) (aNil))))))) (wIf (cT (e2 neR (eVar 13) (eVar 10))) (wRet (eC (.bl false))) (wNop))) (wNop)) (wIf (cT (e2 ltR (e2 fdivD (e2 ixR (eVar 10) (eC (.int 1))) (eCall f__law_up (aCons (eVar 3) (aCons (eCall f__law_power (aCons (eVar 3) (aCons (e2 ixR (eVar 10) (eC (.int 1))) (aNil)))) (aNil))))) (eC (.int 301)))) (wSeq (wSet 14 (eCall f_figures (aCons (eVar 3) (aCons (eVar 12) (aNil))))) (wIf (cT (e2 neR (eCall f_by_figures (aCons (eVar 3) (aCons (e2 ixR (eVar 14) (eC (.int 0))) (aCons (e2 ixR (eVar 14) (eC (.int 1))) (aCons (e2 ixR (eVar 14) (eC (.int 2))) (aNil)))))) (eVar 10))) (wRet (eC (.bl false))) (wNop))) (wNop))))))))))))))))))) (wRet (eC (.bl true)))
instance : Det w_law := by unfold w_law; infer_instance
instance : Out w_law := by unfold w_law; infer_instance
noncomputable def f_law : List D → Option R := outF 1 15 w_law
theorem len_law : ∀ ds r, f_law ds = some r → ds.length = 1 := outF_len
theorem does_law : Does 15 w_law f_law := outF_does

theorem num_le {t b : Int} (h0 : b ≠ 0) : (Rat.divInt t b).num.natAbs ≤ t.natAbs ∧ (Rat.divInt t b).den ≤ b.natAbs := by
  constructor
  · rw [← low_num h0, Int.fdiv_eq_ediv_of_dvd]
    · exact ediv_abs _ _
    · have hg : (Int.gcd t b : Int) ∣ t := Int.gcd_dvd_left ..
      split
      · exact Int.neg_dvd.mpr hg
      · exact hg
  · have : ((Rat.divInt t b).den : Int).natAbs ≤ b.natAbs := by
      rw [← low_den h0, Int.fdiv_eq_ediv_of_dvd]
      · exact ediv_abs _ _
      · have hg : (Int.gcd t b : Int) ∣ b := Int.gcd_dvd_right ..
        split
        · exact Int.neg_dvd.mpr hg
        · exact hg
    omega
theorem ev__law_worth {p : Int} {gs : List Int} (hp : Pr p) (h : Figs p gs) (l : gs.length ≤ 2000) : f__law_worth [.int p, .lst (gs.map D.int)] = okI (wrt p gs) := by
  have n1 : lenR [.lst (gs.map D.int)] = okI (gs.length : Int) := by rw [len_lst, List.length_map]
  refine outF_ev rfl ?_
  try simp only [List.set_cons_zero, List.set_cons_succ, startE, List.map_cons, List.map_nil, List.replicate, List.cons_append, List.nil_append, List.append_nil, List.length_cons, List.length_nil, Nat.zero_add, Nat.reduceAdd, Nat.reduceSub]
  refine q_set (v := .int 0) (by (simp (disch := first | decide | assumption | omega) only [startE, List.map_cons, List.map_nil, List.replicate, eVar, eC, PT.e1, PT.e2, aNil, aCons, eCall, tupR, lstR, eTup, eLst, eIte, eLenO, eIxO, cT, cAnd, cOr, cNot, andV, orV, notD, truR, truD, bindR, bindRB, bindRL, bindL, bindB, bindBB, bindLL, toD, okD, okI, okB, itA, itD, items_tup, items_lst, items_scr, len_tup, len_lst, len_scr, List.getElem?_cons_zero, List.getElem?_cons_succ, List.length_cons, List.length_nil, List.length_map, List.cons_append, List.nil_append, List.append_nil, Nat.zero_add, Nat.reduceAdd, Nat.reduceSub, Nat.reduceLeDiff, if_true, if_false, ite_true, ite_false, Bool.false_eq_true, reduceIte, Bool.not_true, Bool.not_false, Int.reducePow, Int.reduceToNat, Int.reduceMul, Int.reduceAdd, Int.reduceSub, addD, subD, negD, ltR, leR, gtR, geR, eqR_int, neR_int, eqR_bl, neR_bl, absR, max2R, min2R, intR, mulRi, divRi, powRi, modR, absI, len_fr, len_tb, isiT_fr, isiT_tb, isiI_int, isiB_int, isiB_bl, isiL_lst, isiT_tup, items_tb, items_fr, zip_tb, all4, addD_tup2, addD_lst2, eLc, lcL, cYes, wipeE, gN, gTup_tup, gTup_tb, gTup_fr, gLs_lst, gCons, gNil, tuple_lst, List.set_cons_zero, List.set_cons_succ, List.set_nil, ix_fr0, ix_fr1, ix_tb0, ix_tb1, ix_tb2, ix_tb3, eqR_fr, neR_fr, eqR_tb, neR_tb]; try rfl)) ?_
  try simp only [List.set_cons_zero, List.set_cons_succ, startE, List.map_cons, List.map_nil, List.replicate, List.cons_append, List.nil_append, List.append_nil, List.length_cons, List.length_nil, Nat.zero_add, Nat.reduceAdd, Nat.reduceSub]
  refine q_forN (ds := rangeD 0 gs.length) (fun j ρ => j ≤ gs.length ∧ ∃ x, ρ = [some (.d (.int p)), some (.d (.lst (gs.map D.int))), some (.d (.int (wrt p (gs.take j)))), x]) (by (simp (disch := first | decide | assumption | omega) only [startE, List.map_cons, List.map_nil, List.replicate, eVar, eC, PT.e1, PT.e2, aNil, aCons, eCall, tupR, lstR, eTup, eLst, eIte, eLenO, eIxO, cT, cAnd, cOr, cNot, andV, orV, notD, truR, truD, bindR, bindRB, bindRL, bindL, bindB, bindBB, bindLL, toD, okD, okI, okB, itA, itD, items_tup, items_lst, items_scr, len_tup, len_lst, len_scr, List.getElem?_cons_zero, List.getElem?_cons_succ, List.length_cons, List.length_nil, List.length_map, List.cons_append, List.nil_append, List.append_nil, Nat.zero_add, Nat.reduceAdd, Nat.reduceSub, Nat.reduceLeDiff, if_true, if_false, ite_true, ite_false, Bool.false_eq_true, reduceIte, Bool.not_true, Bool.not_false, Int.reducePow, Int.reduceToNat, Int.reduceMul, Int.reduceAdd, Int.reduceSub, addD, subD, negD, ltR, leR, gtR, geR, eqR_int, neR_int, eqR_bl, neR_bl, absR, max2R, min2R, intR, mulRi, divRi, powRi, modR, absI, len_fr, len_tb, isiT_fr, isiT_tb, isiI_int, isiB_int, isiB_bl, isiL_lst, isiT_tup, items_tb, items_fr, zip_tb, all4, addD_tup2, addD_lst2, eLc, lcL, cYes, wipeE, gN, gTup_tup, gTup_tb, gTup_fr, gLs_lst, gCons, gNil, tuple_lst, List.set_cons_zero, List.set_cons_succ, List.set_nil, ix_fr0, ix_fr1, ix_tb0, ix_tb1, ix_tb2, ix_tb3, eqR_fr, neR_fr, eqR_tb, neR_tb, n1]); rw [range1_ev (by omega) (by omega), Int.toNat_natCast]) ⟨Nat.zero_le _, _, rfl⟩ ?_ ?_
  · rintro ρ ⟨-, x, rfl⟩
    have e : (rangeD 0 gs.length).length = gs.length := by unfold rangeD; simp
    rw [e, List.take_length]
    exact z_ret (sv := .d (.int (wrt p gs))) (by (simp (disch := first | decide | assumption | omega) only [startE, List.map_cons, List.map_nil, List.replicate, eVar, eC, PT.e1, PT.e2, aNil, aCons, eCall, tupR, lstR, eTup, eLst, eIte, eLenO, eIxO, cT, cAnd, cOr, cNot, andV, orV, notD, truR, truD, bindR, bindRB, bindRL, bindL, bindB, bindBB, bindLL, toD, okD, okI, okB, itA, itD, items_tup, items_lst, items_scr, len_tup, len_lst, len_scr, List.getElem?_cons_zero, List.getElem?_cons_succ, List.length_cons, List.length_nil, List.length_map, List.cons_append, List.nil_append, List.append_nil, Nat.zero_add, Nat.reduceAdd, Nat.reduceSub, Nat.reduceLeDiff, if_true, if_false, ite_true, ite_false, Bool.false_eq_true, reduceIte, Bool.not_true, Bool.not_false, Int.reducePow, Int.reduceToNat, Int.reduceMul, Int.reduceAdd, Int.reduceSub, addD, subD, negD, ltR, leR, gtR, geR, eqR_int, neR_int, eqR_bl, neR_bl, absR, max2R, min2R, intR, mulRi, divRi, powRi, modR, absI, len_fr, len_tb, isiT_fr, isiT_tb, isiI_int, isiB_int, isiB_bl, isiL_lst, isiT_tup, items_tb, items_fr, zip_tb, all4, addD_tup2, addD_lst2, eLc, lcL, cYes, wipeE, gN, gTup_tup, gTup_tb, gTup_fr, gLs_lst, gCons, gNil, tuple_lst, List.set_cons_zero, List.set_cons_succ, List.set_nil, ix_fr0, ix_fr1, ix_tb0, ix_tb1, ix_tb2, ix_tb3, eqR_fr, neR_fr, eqR_tb, neR_tb]; try rfl)) rfl
  · rintro j d ρ K hd ⟨hj, x, rfl⟩ hK
    obtain ⟨lj, rfl⟩ := get_rangeD hd
    rw [Int.zero_add]
    have eg : ixR (.lst (gs.map D.int)) (.int (j : Int)) = okD (.int gs[j]) := by
      have e : L2.atI (gs.map D.int) (j : Int) = some (.int gs[j]) := by
        unfold L2.atI L2.ixN
        rw [if_pos (by omega), if_pos (by rw [List.length_map]; omega)]
        show (gs.map D.int)[(j : Int).toNat]? = _
        rw [Int.toNat_natCast, List.getElem?_map, List.getElem?_eq_getElem lj]; rfl
      show (match L2.atI (gs.map D.int) (j : Int) with | some x => okD x | none => none) = _
      rw [e]
    obtain ⟨g0, g1⟩ := h gs[j] (List.getElem_mem lj)
    have p7 := hp.le
    have bg : Bd gs[j] 3 := ⟨B.of (by omega) (by omega)⟩
    have up := ev__law_up (k := j) hp.bd (by omega)
    have bu : Bd (p ^ j) 6001 := ⟨(hp.pow_bd j).mono (by omega)⟩
    have ft : Figs p (gs.take j) := fun x hx => h x (List.mem_of_mem_take hx)
    have bw : Bd (wrt p (gs.take j)) 6001 := ⟨by
      obtain ⟨w0, w1⟩ := wrt_bd hp _ ft
      refine (bd_lt w0 w1 (hp.pow_bd _)).mono ?_
      rw [List.length_take]; omega⟩
    have e1 : wrt p (gs.take (j + 1)) = wrt p (gs.take j) + gs[j] * p ^ j := by
      rw [List.take_add_one, List.getElem?_eq_getElem lj]
      show wrt p (gs.take j ++ [gs[j]]) = _
      rw [wrt_app, List.length_take, Nat.min_eq_left (by omega)]
      show _ + p ^ j * (gs[j] + p * 0) = _
      rw [Int.mul_zero, Int.add_zero, Int.mul_comm]
    generalize gs[j] = g at *
    refine ⟨_, rfl, ?_⟩
    try simp only [List.set_cons_zero, List.set_cons_succ, startE, List.map_cons, List.map_nil, List.replicate, List.cons_append, List.nil_append, List.append_nil, List.length_cons, List.length_nil, Nat.zero_add, Nat.reduceAdd, Nat.reduceSub]
    exact z_set (v := .int (wrt p (gs.take (j + 1)))) (by (simp (disch := first | decide | assumption | omega) only [startE, List.map_cons, List.map_nil, List.replicate, eVar, eC, PT.e1, PT.e2, aNil, aCons, eCall, tupR, lstR, eTup, eLst, eIte, eLenO, eIxO, cT, cAnd, cOr, cNot, andV, orV, notD, truR, truD, bindR, bindRB, bindRL, bindL, bindB, bindBB, bindLL, toD, okD, okI, okB, itA, itD, items_tup, items_lst, items_scr, len_tup, len_lst, len_scr, List.getElem?_cons_zero, List.getElem?_cons_succ, List.length_cons, List.length_nil, List.length_map, List.cons_append, List.nil_append, List.append_nil, Nat.zero_add, Nat.reduceAdd, Nat.reduceSub, Nat.reduceLeDiff, if_true, if_false, ite_true, ite_false, Bool.false_eq_true, reduceIte, Bool.not_true, Bool.not_false, Int.reducePow, Int.reduceToNat, Int.reduceMul, Int.reduceAdd, Int.reduceSub, addD, subD, negD, ltR, leR, gtR, geR, eqR_int, neR_int, eqR_bl, neR_bl, absR, max2R, min2R, intR, mulRi, divRi, powRi, modR, absI, len_fr, len_tb, isiT_fr, isiT_tb, isiI_int, isiB_int, isiB_bl, isiL_lst, isiT_tup, items_tb, items_fr, zip_tb, all4, addD_tup2, addD_lst2, eLc, lcL, cYes, wipeE, gN, gTup_tup, gTup_tb, gTup_fr, gLs_lst, gCons, gNil, tuple_lst, List.set_cons_zero, List.set_cons_succ, List.set_nil, ix_fr0, ix_fr1, ix_tb0, ix_tb1, ix_tb2, ix_tb3, eqR_fr, neR_fr, eqR_tb, neR_tb, eg, up, e1]; try rfl)) (hK _ ⟨by omega, _, rfl⟩)
theorem ev__law_value {p first : Int} {hs gs : List Int} {n m : Nat} (hp : Pr p) (hh : Figs p hs) (hg : Figs p gs) (g0 : 0 < gs.length) (l1 : hs.length ≤ n) (l2 : gs.length ≤ n) (ln : n ≤ 300) (l3 : first.natAbs ≤ m) (lm : m ≤ 500) : f__law_value [.int p, .int first, .lst (hs.map D.int), .lst (gs.map D.int)] = okD (fr (figV p first hs gs)) := by
  obtain ⟨q1, q2, q3, q4⟩ := figV_qd (first := first) (m := m) hp hh hg g0 l1 l2 l3
  have w1 := ev__law_worth hp hh (by omega)
  have w2 := ev__law_worth hp hg (by omega)
  have n1 : lenR [.lst (gs.map D.int)] = okI (gs.length : Int) := by rw [len_lst, List.length_map]
  have n2 : lenR [.lst (hs.map D.int)] = okI (hs.length : Int) := by rw [len_lst, List.length_map]
  have ra := ev__law_up (k := gs.length) hp.bd (by omega)
  have rb := ev__law_up (k := hs.length) hp.bd (by omega)
  have pg := hp.pow_pos gs.length
  have bo : Bd (1 - p ^ gs.length) (3 * n + 2) := ⟨by
    have b1 : B (3 * n + 1) (p ^ gs.length) := (hp.pow_bd _).mono (by omega)
    exact (b1.le (by omega)).mono (by omega)⟩
  have bw : Bd (wrt p gs) (3 * n + 1) := ⟨wrt_B hp hg l2⟩
  have bh : Bd (p ^ hs.length) (3 * n + 1) := ⟨(hp.pow_bd _).mono (by omega)⟩
  have lo := ev__law_lowest' (t := wrt p gs * p ^ hs.length) (b := 1 - p ^ gs.length) (n := 3 * n + 2) (one_sub_pow hp g0) (by omega)
  have c0 : ((1 - p ^ gs.length : Int) : Rat) ≠ 0 := cast_ne (one_sub_pow hp g0)
  have ed : Rat.divInt (wrt p gs * p ^ hs.length) (1 - p ^ gs.length) = Rat.divInt (wrt p gs) (1 - p ^ gs.length) * pz p hs.length := by
    rw [pz_nat, Rat.divInt_eq_div, Rat.divInt_eq_div, Rat.intCast_mul]; grind
  rw [ed] at lo
  have q5 : Qd (Rat.divInt (wrt p gs) (1 - p ^ gs.length) * pz p hs.length) (6 * n + 3) := (inferInstance : Qd (Rat.divInt (wrt p gs) (1 - p ^ gs.length) * pz p hs.length) (3 * n + 2 + (3 * n + 1))).mono (by omega)
  have ei : D.tup [.int (wrt p hs), .int 1] = fr ((wrt p hs : Int) : Rat) := rfl
  have p1 := ev__law_sum (q := ((wrt p hs : Int) : Rat)) (r := Rat.divInt (wrt p gs) (1 - p ^ gs.length) * pz p hs.length) (m := 3 * n + 1) (n := 6 * n + 3) (by omega)
  have pf := ev__law_pp (k := first) hp (by omega)
  unfold figV
  generalize Rat.divInt (wrt p gs) (1 - p ^ gs.length) * pz p hs.length = u at *
  generalize hv : ((wrt p hs : Int) : Rat) = v at *
  have q6 : Qd (v + u) (9 * n + 5) := (inferInstance : Qd (v + u) (3 * n + 1 + (6 * n + 3) + 1)).mono (by omega)
  have t2 := ev__law_product (q := v + u) (r := pz p first) (m := 9 * n + 5) (n := 3 * m + 1) (by omega)
  refine outF_ev rfl ?_
  try simp only [List.set_cons_zero, List.set_cons_succ, startE, List.map_cons, List.map_nil, List.replicate, List.cons_append, List.nil_append, List.append_nil, List.length_cons, List.length_nil, Nat.zero_add, Nat.reduceAdd, Nat.reduceSub]
  refine q_set (v := fr u) (by (simp (disch := first | decide | assumption | omega) only [startE, List.map_cons, List.map_nil, List.replicate, eVar, eC, PT.e1, PT.e2, aNil, aCons, eCall, tupR, lstR, eTup, eLst, eIte, eLenO, eIxO, cT, cAnd, cOr, cNot, andV, orV, notD, truR, truD, bindR, bindRB, bindRL, bindL, bindB, bindBB, bindLL, toD, okD, okI, okB, itA, itD, items_tup, items_lst, items_scr, len_tup, len_lst, len_scr, List.getElem?_cons_zero, List.getElem?_cons_succ, List.length_cons, List.length_nil, List.length_map, List.cons_append, List.nil_append, List.append_nil, Nat.zero_add, Nat.reduceAdd, Nat.reduceSub, Nat.reduceLeDiff, if_true, if_false, ite_true, ite_false, Bool.false_eq_true, reduceIte, Bool.not_true, Bool.not_false, Int.reducePow, Int.reduceToNat, Int.reduceMul, Int.reduceAdd, Int.reduceSub, addD, subD, negD, ltR, leR, gtR, geR, eqR_int, neR_int, eqR_bl, neR_bl, absR, max2R, min2R, intR, mulRi, divRi, powRi, modR, absI, len_fr, len_tb, isiT_fr, isiT_tb, isiI_int, isiB_int, isiB_bl, isiL_lst, isiT_tup, items_tb, items_fr, zip_tb, all4, addD_tup2, addD_lst2, eLc, lcL, cYes, wipeE, gN, gTup_tup, gTup_tb, gTup_fr, gLs_lst, gCons, gNil, tuple_lst, List.set_cons_zero, List.set_cons_succ, List.set_nil, ix_fr0, ix_fr1, ix_tb0, ix_tb1, ix_tb2, ix_tb3, eqR_fr, neR_fr, eqR_tb, neR_tb, w2, n2, rb, n1, ra, lo]; try rfl)) ?_
  try simp only [List.set_cons_zero, List.set_cons_succ, startE, List.map_cons, List.map_nil, List.replicate, List.cons_append, List.nil_append, List.append_nil, List.length_cons, List.length_nil, Nat.zero_add, Nat.reduceAdd, Nat.reduceSub]
  exact z_ret (sv := .d (fr ((v + u) * pz p first))) (by (simp (disch := first | decide | assumption | omega) only [startE, List.map_cons, List.map_nil, List.replicate, eVar, eC, PT.e1, PT.e2, aNil, aCons, eCall, tupR, lstR, eTup, eLst, eIte, eLenO, eIxO, cT, cAnd, cOr, cNot, andV, orV, notD, truR, truD, bindR, bindRB, bindRL, bindL, bindB, bindBB, bindLL, toD, okD, okI, okB, itA, itD, items_tup, items_lst, items_scr, len_tup, len_lst, len_scr, List.getElem?_cons_zero, List.getElem?_cons_succ, List.length_cons, List.length_nil, List.length_map, List.cons_append, List.nil_append, List.append_nil, Nat.zero_add, Nat.reduceAdd, Nat.reduceSub, Nat.reduceLeDiff, if_true, if_false, ite_true, ite_false, Bool.false_eq_true, reduceIte, Bool.not_true, Bool.not_false, Int.reducePow, Int.reduceToNat, Int.reduceMul, Int.reduceAdd, Int.reduceSub, addD, subD, negD, ltR, leR, gtR, geR, eqR_int, neR_int, eqR_bl, neR_bl, absR, max2R, min2R, intR, mulRi, divRi, powRi, modR, absI, len_fr, len_tb, isiT_fr, isiT_tb, isiI_int, isiB_int, isiB_bl, isiL_lst, isiT_tup, items_tb, items_fr, zip_tb, all4, addD_tup2, addD_lst2, eLc, lcL, cYes, wipeE, gN, gTup_tup, gTup_tb, gTup_fr, gLs_lst, gCons, gNil, tuple_lst, List.set_cons_zero, List.set_cons_succ, List.set_nil, ix_fr0, ix_fr1, ix_tb0, ix_tb1, ix_tb2, ix_tb3, eqR_fr, neR_fr, eqR_tb, neR_tb, w1, ei, p1, pf, t2]; try rfl)) rfl
theorem z_retV {P : PD} {ρ : En} {i : Nat} {sv : SV} (h : ρ[i]? = some (some sv)) (k : P.rt sv) : wRetV i P ρ := by
  unfold wRetV
  rw [h]; exact k
theorem ev__law_drawn_figures {p x : Int} {b m : Nat} (hp : Pr p) (x0 : 0 ≤ x) (hx : B b x) (lb : b ≤ 8000) (lm : m ≤ 1000) : ∃ gs : List Int, (Figs p gs ∧ gs.length = m) ∧ f__law_drawn_figures [.int p, .int x, .int m] = some (.ok (.own (gs.map D.int))) := by
  have p0 := hp.pos
  obtain ⟨r, e, gs, h1, h2, rfl⟩ := outF_post (w := w__law_drawn_figures) (k := 3) (n := 5) (ds := [.int p, .int x, .int m]) (Φ := fun r => ∃ gs : List Int, Figs p gs ∧ gs.length = m ∧ r = .ok (.own (gs.map D.int))) rfl (by
    try simp only [List.set_cons_zero, List.set_cons_succ, startE, List.map_cons, List.map_nil, List.replicate, List.cons_append, List.nil_append, List.append_nil, List.length_cons, List.length_nil, Nat.zero_add, Nat.reduceAdd, Nat.reduceSub]
    refine q_own (sv := .own []) (by (simp (disch := first | decide | assumption | omega) only [startE, List.map_cons, List.map_nil, List.replicate, eVar, eC, PT.e1, PT.e2, aNil, aCons, eCall, tupR, lstR, eTup, eLst, eIte, eLenO, eIxO, cT, cAnd, cOr, cNot, andV, orV, notD, truR, truD, bindR, bindRB, bindRL, bindL, bindB, bindBB, bindLL, toD, okD, okI, okB, itA, itD, items_tup, items_lst, items_scr, len_tup, len_lst, len_scr, List.getElem?_cons_zero, List.getElem?_cons_succ, List.length_cons, List.length_nil, List.length_map, List.cons_append, List.nil_append, List.append_nil, Nat.zero_add, Nat.reduceAdd, Nat.reduceSub, Nat.reduceLeDiff, if_true, if_false, ite_true, ite_false, Bool.false_eq_true, reduceIte, Bool.not_true, Bool.not_false, Int.reducePow, Int.reduceToNat, Int.reduceMul, Int.reduceAdd, Int.reduceSub, addD, subD, negD, ltR, leR, gtR, geR, eqR_int, neR_int, eqR_bl, neR_bl, absR, max2R, min2R, intR, mulRi, divRi, powRi, modR, absI, len_fr, len_tb, isiT_fr, isiT_tb, isiI_int, isiB_int, isiB_bl, isiL_lst, isiT_tup, items_tb, items_fr, zip_tb, all4, addD_tup2, addD_lst2, eLc, lcL, cYes, wipeE, gN, gTup_tup, gTup_tb, gTup_fr, gLs_lst, gCons, gNil, tuple_lst, List.set_cons_zero, List.set_cons_succ, List.set_nil, ix_fr0, ix_fr1, ix_tb0, ix_tb1, ix_tb2, ix_tb3, eqR_fr, neR_fr, eqR_tb, neR_tb]; try rfl)) ?_
    try simp only [List.set_cons_zero, List.set_cons_succ, startE, List.map_cons, List.map_nil, List.replicate, List.cons_append, List.nil_append, List.append_nil, List.length_cons, List.length_nil, Nat.zero_add, Nat.reduceAdd, Nat.reduceSub]
    refine q_forN (ds := rangeD 0 m) (fun j ρ => ∃ (gs : List Int) (y : Int) (x4 : Option SV), (Figs p gs ∧ gs.length = j) ∧ (0 ≤ y ∧ B b y) ∧ ρ = [some (.d (.int p)), some (.d (.int y)), some (.d (.int m)), some (.own (gs.map D.int)), x4]) (by (simp (disch := first | decide | assumption | omega) only [startE, List.map_cons, List.map_nil, List.replicate, eVar, eC, PT.e1, PT.e2, aNil, aCons, eCall, tupR, lstR, eTup, eLst, eIte, eLenO, eIxO, cT, cAnd, cOr, cNot, andV, orV, notD, truR, truD, bindR, bindRB, bindRL, bindL, bindB, bindBB, bindLL, toD, okD, okI, okB, itA, itD, items_tup, items_lst, items_scr, len_tup, len_lst, len_scr, List.getElem?_cons_zero, List.getElem?_cons_succ, List.length_cons, List.length_nil, List.length_map, List.cons_append, List.nil_append, List.append_nil, Nat.zero_add, Nat.reduceAdd, Nat.reduceSub, Nat.reduceLeDiff, if_true, if_false, ite_true, ite_false, Bool.false_eq_true, reduceIte, Bool.not_true, Bool.not_false, Int.reducePow, Int.reduceToNat, Int.reduceMul, Int.reduceAdd, Int.reduceSub, addD, subD, negD, ltR, leR, gtR, geR, eqR_int, neR_int, eqR_bl, neR_bl, absR, max2R, min2R, intR, mulRi, divRi, powRi, modR, absI, len_fr, len_tb, isiT_fr, isiT_tb, isiI_int, isiB_int, isiB_bl, isiL_lst, isiT_tup, items_tb, items_fr, zip_tb, all4, addD_tup2, addD_lst2, eLc, lcL, cYes, wipeE, gN, gTup_tup, gTup_tb, gTup_fr, gLs_lst, gCons, gNil, tuple_lst, List.set_cons_zero, List.set_cons_succ, List.set_nil, ix_fr0, ix_fr1, ix_tb0, ix_tb1, ix_tb2, ix_tb3, eqR_fr, neR_fr, eqR_tb, neR_tb]); rw [range1_ev (by omega) (by omega), Int.toNat_natCast]) ⟨[], x, _, ⟨fun g hg => (by cases hg), rfl⟩, ⟨x0, hx⟩, rfl⟩ ?_ ?_
    · rintro ρ ⟨gs, y, x4, ⟨h1, h2⟩, -, rfl⟩
      have e : (rangeD 0 m).length = m := by unfold rangeD; simp
      rw [e] at h2
      exact z_retV rfl ⟨gs, h1, h2, rfl⟩
    · rintro j d ρ K hd ⟨gs, y, x4, ⟨h1, h2⟩, ⟨y0, by_⟩, rfl⟩ hK
      obtain ⟨lj, rfl⟩ := get_rangeD hd
      have m0 := Int.emod_nonneg y (show p ≠ 0 by omega)
      have m1 := Int.emod_lt_of_pos y p0
      have md : modD (.int y) (.int p) = okI (y % p) := modR p0
      have dv : fdivD (.int y) (.int p) = okI (y / p) := divR p0 hp.bd (by decide)
      have yq : 0 ≤ y / p := Int.ediv_nonneg y0 (Int.le_of_lt p0)
      have yl : y / p ≤ y := Int.ediv_le_self _ y0
      refine ⟨_, rfl, ?_⟩
      try simp only [List.set_cons_zero, List.set_cons_succ, startE, List.map_cons, List.map_nil, List.replicate, List.cons_append, List.nil_append, List.append_nil, List.length_cons, List.length_nil, Nat.zero_add, Nat.reduceAdd, Nat.reduceSub]
      refine q_app (xs := gs.map D.int) (v := .int (y % p)) rfl (by (simp (disch := first | decide | assumption | omega) only [startE, List.map_cons, List.map_nil, List.replicate, eVar, eC, PT.e1, PT.e2, aNil, aCons, eCall, tupR, lstR, eTup, eLst, eIte, eLenO, eIxO, cT, cAnd, cOr, cNot, andV, orV, notD, truR, truD, bindR, bindRB, bindRL, bindL, bindB, bindBB, bindLL, toD, okD, okI, okB, itA, itD, items_tup, items_lst, items_scr, len_tup, len_lst, len_scr, List.getElem?_cons_zero, List.getElem?_cons_succ, List.length_cons, List.length_nil, List.length_map, List.cons_append, List.nil_append, List.append_nil, Nat.zero_add, Nat.reduceAdd, Nat.reduceSub, Nat.reduceLeDiff, if_true, if_false, ite_true, ite_false, Bool.false_eq_true, reduceIte, Bool.not_true, Bool.not_false, Int.reducePow, Int.reduceToNat, Int.reduceMul, Int.reduceAdd, Int.reduceSub, addD, subD, negD, ltR, leR, gtR, geR, eqR_int, neR_int, eqR_bl, neR_bl, absR, max2R, min2R, intR, mulRi, divRi, powRi, modR, absI, len_fr, len_tb, isiT_fr, isiT_tb, isiI_int, isiB_int, isiB_bl, isiL_lst, isiT_tup, items_tb, items_fr, zip_tb, all4, addD_tup2, addD_lst2, eLc, lcL, cYes, wipeE, gN, gTup_tup, gTup_tb, gTup_fr, gLs_lst, gCons, gNil, tuple_lst, List.set_cons_zero, List.set_cons_succ, List.set_nil, ix_fr0, ix_fr1, ix_tb0, ix_tb1, ix_tb2, ix_tb3, eqR_fr, neR_fr, eqR_tb, neR_tb, md]; try rfl)) (by rw [List.length_map]; omega) ?_
      try simp only [List.set_cons_zero, List.set_cons_succ, startE, List.map_cons, List.map_nil, List.replicate, List.cons_append, List.nil_append, List.append_nil, List.length_cons, List.length_nil, Nat.zero_add, Nat.reduceAdd, Nat.reduceSub]
      refine z_set (v := .int (y / p)) (by (simp (disch := first | decide | assumption | omega) only [startE, List.map_cons, List.map_nil, List.replicate, eVar, eC, PT.e1, PT.e2, aNil, aCons, eCall, tupR, lstR, eTup, eLst, eIte, eLenO, eIxO, cT, cAnd, cOr, cNot, andV, orV, notD, truR, truD, bindR, bindRB, bindRL, bindL, bindB, bindBB, bindLL, toD, okD, okI, okB, itA, itD, items_tup, items_lst, items_scr, len_tup, len_lst, len_scr, List.getElem?_cons_zero, List.getElem?_cons_succ, List.length_cons, List.length_nil, List.length_map, List.cons_append, List.nil_append, List.append_nil, Nat.zero_add, Nat.reduceAdd, Nat.reduceSub, Nat.reduceLeDiff, if_true, if_false, ite_true, ite_false, Bool.false_eq_true, reduceIte, Bool.not_true, Bool.not_false, Int.reducePow, Int.reduceToNat, Int.reduceMul, Int.reduceAdd, Int.reduceSub, addD, subD, negD, ltR, leR, gtR, geR, eqR_int, neR_int, eqR_bl, neR_bl, absR, max2R, min2R, intR, mulRi, divRi, powRi, modR, absI, len_fr, len_tb, isiT_fr, isiT_tb, isiI_int, isiB_int, isiB_bl, isiL_lst, isiT_tup, items_tb, items_fr, zip_tb, all4, addD_tup2, addD_lst2, eLc, lcL, cYes, wipeE, gN, gTup_tup, gTup_tb, gTup_fr, gLs_lst, gCons, gNil, tuple_lst, List.set_cons_zero, List.set_cons_succ, List.set_nil, ix_fr0, ix_fr1, ix_tb0, ix_tb1, ix_tb2, ix_tb3, eqR_fr, neR_fr, eqR_tb, neR_tb, dv]; try rfl)) (hK _ ⟨gs ++ [y % p], y / p, _, ⟨fun g hg => ?_, by rw [List.length_append, h2]; rfl⟩, ⟨yq, by_.le (by omega)⟩, by rw [List.map_append]; rfl⟩)
      rcases List.mem_append.mp hg with z | z
      · exact h1 g z
      · have : g = y % p := by simpa using z
        subst this; exact ⟨m0, m1⟩)
  exact ⟨gs, ⟨h1, h2⟩, e⟩

/-! ### the same worth -/
theorem pow_pos' {p : Int} (hp : Pr p) (n : Nat) : (p ^ n : Int) ≠ 0 := by have := hp.pow_pos n; omega
theorem figV_twice {p first : Int} {hs gs : List Int} (hp : Pr p) (g0 : 0 < gs.length) : figV p first hs (gs ++ gs) = figV p first hs gs := by
  have c0 : ((1 - p ^ gs.length : Int) : Rat) ≠ 0 := cast_ne (one_sub_pow hp g0)
  have l2 : (gs ++ gs).length = gs.length + gs.length := List.length_append
  have d0 : ((1 - p ^ (gs.length + gs.length) : Int) : Rat) ≠ 0 := cast_ne (one_sub_pow hp (by omega))
  have e : Rat.divInt (wrt p (gs ++ gs)) (1 - p ^ (gs ++ gs).length) = Rat.divInt (wrt p gs) (1 - p ^ gs.length) := by
    rw [l2, wrt_app, Rat.divInt_eq_div, Rat.divInt_eq_div]
    have ep : p ^ (gs.length + gs.length) = p ^ gs.length * p ^ gs.length := Int.pow_add ..
    rw [ep] at d0 ⊢
    generalize p ^ gs.length = R at *
    generalize wrt p gs = G at *
    have h1 : ((G + R * G : Int) : Rat) * ((1 - R : Int) : Rat) = (G : Rat) * ((1 - R * R : Int) : Rat) := by
      rw [← Rat.intCast_mul, ← Rat.intCast_mul]
      congr 1; grind
    grind
  unfold figV
  rw [e]
theorem figV_turn {p first : Int} {hs gs : List Int} {g : Int} (hp : Pr p) : figV p first (hs ++ [g]) (gs ++ [g]) = figV p first hs (g :: gs) := by
  have l1 : (gs ++ [g]).length = gs.length + 1 := by simp
  have l2 : (g :: gs).length = gs.length + 1 := rfl
  have l3 : (hs ++ [g]).length = hs.length + 1 := by simp
  have c0 : ((1 - p ^ (gs.length + 1) : Int) : Rat) ≠ 0 := cast_ne (one_sub_pow hp (by omega))
  have e0 : wrt p (g :: gs) = g + p * wrt p gs := rfl
  have e1 : wrt p [g] = g := by show g + p * 0 = g; omega
  unfold figV
  rw [l1, l2, l3, wrt_app, wrt_app, e0, e1, pz_nat, pz_nat, Rat.divInt_eq_div, Rat.divInt_eq_div]
  have ep : p ^ (gs.length + 1) = p * p ^ gs.length := by rw [Int.pow_succ, Int.mul_comm]
  have eh : p ^ (hs.length + 1) = p * p ^ hs.length := by rw [Int.pow_succ, Int.mul_comm]
  rw [ep] at c0 ⊢
  rw [eh]
  generalize p ^ gs.length = R at *
  generalize p ^ hs.length = S at *
  generalize wrt p gs = G at *
  generalize wrt p hs = W at *
  congr 1
  simp only [Rat.intCast_add, Rat.intCast_mul, Rat.intCast_sub] at c0 ⊢
  generalize (p : Rat) = q at *
  generalize (R : Rat) = r at *
  generalize (G : Rat) = x at *
  generalize (W : Rat) = w at *
  generalize (g : Rat) = y at *
  generalize (S : Rat) = s at *
  have h1 : ((1 : Int) : Rat) = 1 := rfl
  rw [h1] at *
  grind
/-- how great the top of the worth is -/
theorem figV_num {p first : Int} {hs gs : List Int} {n m : Nat} (hp : Pr p) (hh : Figs p hs) (hg : Figs p gs) (g0 : 0 < gs.length) (l1 : hs.length ≤ n) (l2 : gs.length ≤ n) (l3 : first.natAbs ≤ m) : ((figV p first hs gs).num.natAbs : Int) < p ^ (n + n + 1 + m) := by
  obtain ⟨w0, w1⟩ := wrt_bd hp hs hh
  obtain ⟨v0, v1⟩ := wrt_bd hp gs hg
  have p2 := hp.two
  have c0 := one_sub_pow hp g0
  have pg := hp.pow_pos gs.length
  have ph := hp.pow_pos hs.length
  have mono : ∀ {i j : Nat}, i ≤ j → p ^ i ≤ p ^ j := fun {i j} h => by
    obtain ⟨k, rfl⟩ : ∃ k, j = i + k := ⟨j - i, by omega⟩
    rw [Int.pow_add]
    have q1 := hp.pow_pos i
    have q2 := hp.pow_pos k
    have := Int.mul_le_mul_of_nonneg_left (show 1 ≤ p ^ k by omega) (Int.le_of_lt q1)
    omega
  -- the unreduced top
  have top : ∀ (P1 P2 : Int), 0 < P1 → 0 < P2 → P1 ≤ p ^ m → pz p first = (P1 : Rat) / (P2 : Rat) → ((figV p first hs gs).num.natAbs : Int) < p ^ (n + n + 1 + m) := by
    intro P1 P2 a1 a2 a3 a4
    have ev : figV p first hs gs = Rat.divInt ((wrt p hs * (1 - p ^ gs.length) + wrt p gs * p ^ hs.length) * P1) ((1 - p ^ gs.length) * P2) := by
      unfold figV
      have cr : ((1 - p ^ gs.length : Int) : Rat) ≠ 0 := cast_ne c0
      have c2 : (P2 : Rat) ≠ 0 := cast_ne (by omega)
      rw [a4, pz_nat, Rat.divInt_eq_div, Rat.divInt_eq_div, Rat.intCast_mul, Rat.intCast_mul, Rat.intCast_add, Rat.intCast_mul, Rat.intCast_mul]
      generalize ((1 - p ^ gs.length : Int) : Rat) = c at *
      generalize ((p ^ hs.length : Int) : Rat) = s at *
      grind
    rw [ev]
    have nl := (num_le (t := (wrt p hs * (1 - p ^ gs.length) + wrt p gs * p ^ hs.length) * P1) (b := (1 - p ^ gs.length) * P2) (Int.mul_ne_zero c0 (by omega))).1
    have hR : wrt p hs * p ^ gs.length < p ^ hs.length * p ^ gs.length := Int.mul_lt_mul_of_pos_right w1 pg
    have hS : wrt p gs * p ^ hs.length < p ^ gs.length * p ^ hs.length := Int.mul_lt_mul_of_pos_right v1 ph
    have hS0 := Int.mul_nonneg v0 (Int.le_of_lt ph)
    have hR0 := Int.mul_nonneg w0 (Int.le_of_lt pg)
    have hw : wrt p hs ≤ wrt p hs * p ^ gs.length := by
      have := Int.mul_le_mul_of_nonneg_left (show 1 ≤ p ^ gs.length by omega) w0
      omega
    rw [← Int.pow_add] at hR hS
    rw [Nat.add_comm gs.length] at hS
    have hb : (wrt p hs * (1 - p ^ gs.length) + wrt p gs * p ^ hs.length).natAbs < p ^ (hs.length + gs.length) := by
      rw [Int.mul_sub, Int.mul_one]
      generalize wrt p hs * p ^ gs.length = x at *
      generalize wrt p gs * p ^ hs.length = y at *
      omega
    have h1 : p ^ (hs.length + gs.length) ≤ p ^ (n + n) := mono (by omega)
    have h2 : (((wrt p hs * (1 - p ^ gs.length) + wrt p gs * p ^ hs.length) * P1).natAbs : Int) < p ^ (n + n) * p ^ m := by
      rw [Int.natAbs_mul, Int.natCast_mul, Int.natAbs_of_nonneg (Int.le_of_lt a1)]
      have q1 := Int.mul_lt_mul_of_pos_right hb a1
      have q2 := Int.mul_le_mul_of_nonneg_right h1 (Int.le_of_lt a1)
      have q3 := Int.mul_le_mul_of_nonneg_left a3 (Int.le_of_lt (hp.pow_pos (n + n)))
      omega
    rw [← Int.pow_add] at h2
    have h3 := mono (show n + n + m ≤ n + n + 1 + m by omega)
    omega
  by_cases hf : 0 ≤ first
  · obtain ⟨i, rfl⟩ : ∃ i : Nat, first = i := ⟨first.toNat, by omega⟩
    refine top (p ^ i) 1 (hp.pow_pos i) (by decide) (mono (by omega)) ?_
    rw [pz_nat]
    have : ((1 : Int) : Rat) = 1 := rfl
    rw [this]; grind
  · obtain ⟨i, rfl⟩ : ∃ i : Nat, first = -(i : Int) := ⟨(-first).toNat, by omega⟩
    refine top 1 (p ^ i) (by decide) (hp.pow_pos i) (by have := mono (Nat.zero_le m); rwa [Int.pow_zero] at this) ?_
    rw [pz_neg, pz_nat]
    have : ((1 : Int) : Rat) = 1 := rfl
    rw [this, Rat.div_def, Rat.one_mul]

theorem figV_den {p first : Int} {hs gs : List Int} {m : Nat} (hp : Pr p) (g0 : 0 < gs.length) (l3 : first.natAbs ≤ m) : vp p ((figV p first hs gs).den : Int) ≤ m := by
  have c0 := one_sub_pow hp g0
  -- p to the m times the worth is whole by p
  have a1 : Al p 0 ((wrt p hs : Int) : Rat) := by
    by_cases h : ((wrt p hs : Int) : Rat) = 0
    · exact .inl h
    · exact .inr (by rw [vq_int hp]; omega)
  have nd : ¬ p ∣ 1 - p ^ gs.length := fun h => by
    obtain ⟨k, hk⟩ : ∃ k, gs.length = k + 1 := ⟨gs.length - 1, by omega⟩
    have h2 : p ∣ p ^ gs.length := by rw [hk]; exact ⟨p ^ k, by rw [Int.pow_succ, Int.mul_comm]⟩
    have h3 : p ∣ 1 := by
      have := Int.dvd_add h h2
      rwa [show 1 - p ^ gs.length + p ^ gs.length = 1 by omega] at this
    have := Int.le_of_dvd (by decide) h3
    have := hp.two
    omega
  have cr : ((1 - p ^ gs.length : Int) : Rat) ≠ 0 := cast_ne c0
  have a2 : Al p 0 (Rat.divInt (wrt p gs) (1 - p ^ gs.length)) := by
    rw [Rat.divInt_eq_div]
    by_cases h : ((wrt p gs : Int) : Rat) = 0
    · left; rw [h]; grind
    · right
      rw [vq_dv hp h cr, vq_int hp, vq_int hp, vp_zero hp nd]; omega
  have a3 : Al p 0 (pz p hs.length) := .inr (by rw [vq_pz hp]; omega)
  have a4 : Al p (-(m : Int)) (pz p first) := .inr (by rw [vq_pz hp]; omega)
  have a5 : Al p (-(m : Int)) (figV p first hs gs) := by
    have := (a1.add hp (a2.mul hp a3)).mul hp a4
    exact this.le (by omega)
  generalize figV p first hs gs = a at *
  rcases a5 with z | z
  · rw [z]
    have : ((0 : Rat).den : Int) = 1 := rfl
    rw [this, vp_zero hp (fun h => by have := Int.le_of_dvd (by decide) h; have := hp.two; omega)]
    exact Nat.zero_le _
  · have e : vq p a = (vp p a.num : Int) - vp p (a.den : Int) := rfl
    rcases Nat.eq_zero_or_pos (vp p (a.den : Int)) with y | y
    · omega
    · -- lowest terms: the top is off the prime
      have h1 : p ∣ (a.den : Int) := by
        obtain ⟨c, hc, -⟩ := vp_spec hp.two (den_ne a)
        obtain ⟨k, hk⟩ : ∃ k, vp p (a.den : Int) = k + 1 := ⟨vp p (a.den : Int) - 1, by omega⟩
        rw [hk] at hc
        rw [hc]
        exact ⟨p ^ k * c, by rw [Int.pow_succ, Int.mul_comm (p ^ k), Int.mul_assoc]⟩
      have h2 : ¬ p ∣ a.num := fun h => by
        have g : Int.gcd a.num (a.den : Int) = 1 := by
          have := a.reduced
          rwa [Nat.Coprime, ← Int.natAbs_natCast a.den] at this
        have := Int.dvd_coe_gcd h h1
        rw [g] at this
        have := Int.le_of_dvd (by decide) this
        have := hp.two
        omega
      rw [e, vp_zero hp h2] at z
      omega
theorem ne_lists (hs gs : List Int) : neR (.tup [.lst (hs.map D.int), .lst (gs.map D.int)]) (.tup [.lst (hs.map D.int), .lst (gs.map D.int)]) = okB false := by
  have s : ∀ gs : List Int, eqD (.lst (gs.map D.int)) (.lst (gs.map D.int)) = true := fun gs => by
    have := eqvAll_self (gs.map D.int) fun d hd => by
      obtain ⟨x, -, rfl⟩ := List.mem_map.mp hd
      rw [eqD_int]; simp
    simpa [eqD, toP, PySem.PyData.eqv] using this
  have f : ∀ gs : List Int, fine 59 (.lst (gs.map D.int)) = true := fun gs => by
    rw [fine_lst]
    exact List.all_eq_true.mpr fun d hd => by
      obtain ⟨x, -, rfl⟩ := List.mem_map.mp hd
      rfl
  have t2 : ∀ a b : D, eqD (.tup [a, b]) (.tup [a, b]) = (eqD a a && eqD b b) := fun a b => by
    simp [eqD, toP, toPs, PySem.PyData.eqv, PySem.PyData.eqvAll]
  unfold neR
  rw [fine_tup, t2, s, s]
  simp [f]
theorem by_five {n : Nat} (hn : n ≤ 63) : ∃ m : Nat, m < 64 ∧ (if (if (40 : Int) < n then 40 else (n : Int)) > 5 then (if (40 : Int) < n then 40 else (n : Int)) else 5) = (m : Int) := by
  refine ⟨(if (if (40 : Int) < n then 40 else (n : Int)) > 5 then (if (40 : Int) < n then 40 else (n : Int)) else 5).toNat, ?_, ?_⟩ <;> (split <;> (try split) <;> omega)
theorem r3_5 : ∀ m : Nat, m < 64 → rng3 0 m 5 = true ∧ (PySem.Builtin.Range.rangeSize 0 m 5).toNat ≤ 13 := by decide +kernel

theorem cut1 (g : Int) (gs : List Int) : cutD ((g :: gs).map D.int) none (some 1) = [D.int g] ∧ cutD ((g :: gs).map D.int) (some 1) none = gs.map D.int := by
  have h1 := cut_head ((g :: gs).map D.int) (m := 1) (by simp)
  have h2 := cut_rest ((g :: gs).map D.int) (m := 1) (by simp)
  exact ⟨h1, h2⟩
theorem law_true (ns : List Int) (h : ns.length ≤ 63) : f_law [.scr (ns.map D.int)] = some (.ok (.d (.bl true))) := by
  refine outF_ev rfl ?_
  try simp only [List.set_cons_zero, List.set_cons_succ, startE, List.map_cons, List.map_nil, List.replicate, List.cons_append, List.nil_append, List.append_nil, List.length_cons, List.length_nil, Nat.zero_add, Nat.reduceAdd, Nat.reduceSub]
  obtain ⟨m, hm, em⟩ := by_five h
  refine q_forL (ds := rangeC 0 5 (PySem.Builtin.Range.rangeSize 0 m 5).toNat) (fun ρ => ∃ x1 x2 x3 x4 x5 x6 x7 x8 x9 x10 x11 x12 x13 x14, ρ = [some (.d (.scr (ns.map D.int))), x1, x2, x3, x4, x5, x6, x7, x8, x9, x10, x11, x12, x13, x14]) (by (simp (disch := first | decide | assumption | omega) only [startE, List.map_cons, List.map_nil, List.replicate, eVar, eC, PT.e1, PT.e2, aNil, aCons, eCall, tupR, lstR, eTup, eLst, eIte, eLenO, eIxO, cT, cAnd, cOr, cNot, andV, orV, notD, truR, truD, bindR, bindRB, bindRL, bindL, bindB, bindBB, bindLL, toD, okD, okI, okB, itA, itD, items_tup, items_lst, items_scr, len_tup, len_lst, len_scr, List.getElem?_cons_zero, List.getElem?_cons_succ, List.length_cons, List.length_nil, List.length_map, List.cons_append, List.nil_append, List.append_nil, Nat.zero_add, Nat.reduceAdd, Nat.reduceSub, Nat.reduceLeDiff, if_true, if_false, ite_true, ite_false, Bool.false_eq_true, reduceIte, Bool.not_true, Bool.not_false, Int.reducePow, Int.reduceToNat, Int.reduceMul, Int.reduceAdd, Int.reduceSub, addD, subD, negD, ltR, leR, gtR, geR, eqR_int, neR_int, eqR_bl, neR_bl, absR, max2R, min2R, intR, mulRi, divRi, powRi, modR, absI, len_fr, len_tb, isiT_fr, isiT_tb, isiI_int, isiB_int, isiB_bl, isiL_lst, isiT_tup, items_tb, items_fr, zip_tb, all4, addD_tup2, addD_lst2, eLc, lcL, cYes, wipeE, gN, gTup_tup, gTup_tb, gTup_fr, gLs_lst, gCons, gNil, tuple_lst, List.set_cons_zero, List.set_cons_succ, List.set_nil, ix_fr0, ix_fr1, ix_tb0, ix_tb1, ix_tb2, ix_tb3, eqR_fr, neR_fr, eqR_tb, neR_tb, len_map, em]); exact range3_step (r3_5 m hm).1) ⟨_, _, _, _, _, _, _, _, _, _, _, _, _, _, rfl⟩ ?_ ?_
  · rintro ρ ⟨x1, x2, x3, x4, x5, x6, x7, x8, x9, x10, x11, x12, x13, x14, rfl⟩
    exact z_ret (by (simp (disch := first | decide | assumption | omega) only [startE, List.map_cons, List.map_nil, List.replicate, eVar, eC, PT.e1, PT.e2, aNil, aCons, eCall, tupR, lstR, eTup, eLst, eIte, eLenO, eIxO, cT, cAnd, cOr, cNot, andV, orV, notD, truR, truD, bindR, bindRB, bindRL, bindL, bindB, bindBB, bindLL, toD, okD, okI, okB, itA, itD, items_tup, items_lst, items_scr, len_tup, len_lst, len_scr, List.getElem?_cons_zero, List.getElem?_cons_succ, List.length_cons, List.length_nil, List.length_map, List.cons_append, List.nil_append, List.append_nil, Nat.zero_add, Nat.reduceAdd, Nat.reduceSub, Nat.reduceLeDiff, if_true, if_false, ite_true, ite_false, Bool.false_eq_true, reduceIte, Bool.not_true, Bool.not_false, Int.reducePow, Int.reduceToNat, Int.reduceMul, Int.reduceAdd, Int.reduceSub, addD, subD, negD, ltR, leR, gtR, geR, eqR_int, neR_int, eqR_bl, neR_bl, absR, max2R, min2R, intR, mulRi, divRi, powRi, modR, absI, len_fr, len_tb, isiT_fr, isiT_tb, isiI_int, isiB_int, isiB_bl, isiL_lst, isiT_tup, items_tb, items_fr, zip_tb, all4, addD_tup2, addD_lst2, eLc, lcL, cYes, wipeE, gN, gTup_tup, gTup_tb, gTup_fr, gLs_lst, gCons, gNil, tuple_lst, List.set_cons_zero, List.set_cons_succ, List.set_nil, ix_fr0, ix_fr1, ix_tb0, ix_tb1, ix_tb2, ix_tb3, eqR_fr, neR_fr, eqR_tb, neR_tb]; try rfl)) rfl
  · rintro d ρ K hd ⟨x1, x2, x3, x4, x5, x6, x7, x8, x9, x10, x11, x12, x13, x14, rfl⟩ hK
    obtain ⟨j, hj, rfl⟩ := mem_rangeC hd
    have hj2 : j < 13 := Nat.lt_of_lt_of_le hj (r3_5 m hm).2
    obtain ⟨i, hi, ek⟩ : ∃ k : Nat, k < 66 ∧ (0 : Int) + (j : Int) * 5 = (k : Int) := ⟨5 * j, by omega, by omega⟩
    rw [ek]
    refine ⟨_, rfl, ?_⟩
    have bk : Bd (i : Int) 10 := ⟨B.of (by omega) (by omega)⟩
    obtain ⟨n, ⟨n0, nb⟩, ne⟩ := ev__law_drawn ns i (by omega)
    obtain ⟨c1, ⟨z1, w1⟩, v1⟩ := ev__law_drawn ns (i + 1) (by omega)
    have v1 : f__law_drawn [.scr (ns.map D.int), .int (i + 1)] = okI c1 := by rw [← v1]; rfl
    obtain ⟨c2, ⟨z2, w2⟩, v2⟩ := ev__law_drawn ns (i + 2) (by omega)
    have v2 : f__law_drawn [.scr (ns.map D.int), .int (i + 2)] = okI c2 := by rw [← v2]; rfl
    obtain ⟨c3, ⟨z3, w3⟩, v3⟩ := ev__law_drawn ns (i + 3) (by omega)
    have v3 : f__law_drawn [.scr (ns.map D.int), .int (i + 3)] = okI c3 := by rw [← v3]; rfl
    obtain ⟨c4, ⟨z4, w4⟩, v4⟩ := ev__law_drawn ns (i + 4) (by omega)
    have v4 : f__law_drawn [.scr (ns.map D.int), .int (i + 4)] = okI c4 := by rw [← v4]; rfl
    obtain ⟨p, hp, pe⟩ := ev__law_prime n
    have bc4 : Bd c4 300 := ⟨w4⟩
    have bc2 : Bd c2 300 := ⟨w2⟩
    try simp only [List.set_cons_zero, List.set_cons_succ, startE, List.map_cons, List.map_nil, List.replicate, List.cons_append, List.nil_append, List.append_nil, List.length_cons, List.length_nil, Nat.zero_add, Nat.reduceAdd, Nat.reduceSub]
    refine q_set (v := .int n) (by (simp (disch := first | decide | assumption | omega) only [startE, List.map_cons, List.map_nil, List.replicate, eVar, eC, PT.e1, PT.e2, aNil, aCons, eCall, tupR, lstR, eTup, eLst, eIte, eLenO, eIxO, cT, cAnd, cOr, cNot, andV, orV, notD, truR, truD, bindR, bindRB, bindRL, bindL, bindB, bindBB, bindLL, toD, okD, okI, okB, itA, itD, items_tup, items_lst, items_scr, len_tup, len_lst, len_scr, List.getElem?_cons_zero, List.getElem?_cons_succ, List.length_cons, List.length_nil, List.length_map, List.cons_append, List.nil_append, List.append_nil, Nat.zero_add, Nat.reduceAdd, Nat.reduceSub, Nat.reduceLeDiff, if_true, if_false, ite_true, ite_false, Bool.false_eq_true, reduceIte, Bool.not_true, Bool.not_false, Int.reducePow, Int.reduceToNat, Int.reduceMul, Int.reduceAdd, Int.reduceSub, addD, subD, negD, ltR, leR, gtR, geR, eqR_int, neR_int, eqR_bl, neR_bl, absR, max2R, min2R, intR, mulRi, divRi, powRi, modR, absI, len_fr, len_tb, isiT_fr, isiT_tb, isiI_int, isiB_int, isiB_bl, isiL_lst, isiT_tup, items_tb, items_fr, zip_tb, all4, addD_tup2, addD_lst2, eLc, lcL, cYes, wipeE, gN, gTup_tup, gTup_tb, gTup_fr, gLs_lst, gCons, gNil, tuple_lst, List.set_cons_zero, List.set_cons_succ, List.set_nil, ix_fr0, ix_fr1, ix_tb0, ix_tb1, ix_tb2, ix_tb3, eqR_fr, neR_fr, eqR_tb, neR_tb, ne]; try rfl)) ?_
    try simp only [List.set_cons_zero, List.set_cons_succ, startE, List.map_cons, List.map_nil, List.replicate, List.cons_append, List.nil_append, List.append_nil, List.length_cons, List.length_nil, Nat.zero_add, Nat.reduceAdd, Nat.reduceSub]
    refine q_set (v := .int p) (by (simp (disch := first | decide | assumption | omega) only [startE, List.map_cons, List.map_nil, List.replicate, eVar, eC, PT.e1, PT.e2, aNil, aCons, eCall, tupR, lstR, eTup, eLst, eIte, eLenO, eIxO, cT, cAnd, cOr, cNot, andV, orV, notD, truR, truD, bindR, bindRB, bindRL, bindL, bindB, bindBB, bindLL, toD, okD, okI, okB, itA, itD, items_tup, items_lst, items_scr, len_tup, len_lst, len_scr, List.getElem?_cons_zero, List.getElem?_cons_succ, List.length_cons, List.length_nil, List.length_map, List.cons_append, List.nil_append, List.append_nil, Nat.zero_add, Nat.reduceAdd, Nat.reduceSub, Nat.reduceLeDiff, if_true, if_false, ite_true, ite_false, Bool.false_eq_true, reduceIte, Bool.not_true, Bool.not_false, Int.reducePow, Int.reduceToNat, Int.reduceMul, Int.reduceAdd, Int.reduceSub, addD, subD, negD, ltR, leR, gtR, geR, eqR_int, neR_int, eqR_bl, neR_bl, absR, max2R, min2R, intR, mulRi, divRi, powRi, modR, absI, len_fr, len_tb, isiT_fr, isiT_tb, isiI_int, isiB_int, isiB_bl, isiL_lst, isiT_tup, items_tb, items_fr, zip_tb, all4, addD_tup2, addD_lst2, eLc, lcL, cYes, wipeE, gN, gTup_tup, gTup_tb, gTup_fr, gLs_lst, gCons, gNil, tuple_lst, List.set_cons_zero, List.set_cons_succ, List.set_nil, ix_fr0, ix_fr1, ix_tb0, ix_tb1, ix_tb2, ix_tb3, eqR_fr, neR_fr, eqR_tb, neR_tb, pe]; try rfl)) ?_
    try simp only [List.set_cons_zero, List.set_cons_succ, startE, List.map_cons, List.map_nil, List.replicate, List.cons_append, List.nil_append, List.append_nil, List.length_cons, List.length_nil, Nat.zero_add, Nat.reduceAdd, Nat.reduceSub]
    refine q_set (v := .int (n / 4 % 25 - 12)) (by (simp (disch := first | decide | assumption | omega) only [startE, List.map_cons, List.map_nil, List.replicate, eVar, eC, PT.e1, PT.e2, aNil, aCons, eCall, tupR, lstR, eTup, eLst, eIte, eLenO, eIxO, cT, cAnd, cOr, cNot, andV, orV, notD, truR, truD, bindR, bindRB, bindRL, bindL, bindB, bindBB, bindLL, toD, okD, okI, okB, itA, itD, items_tup, items_lst, items_scr, len_tup, len_lst, len_scr, List.getElem?_cons_zero, List.getElem?_cons_succ, List.length_cons, List.length_nil, List.length_map, List.cons_append, List.nil_append, List.append_nil, Nat.zero_add, Nat.reduceAdd, Nat.reduceSub, Nat.reduceLeDiff, if_true, if_false, ite_true, ite_false, Bool.false_eq_true, reduceIte, Bool.not_true, Bool.not_false, Int.reducePow, Int.reduceToNat, Int.reduceMul, Int.reduceAdd, Int.reduceSub, addD, subD, negD, ltR, leR, gtR, geR, eqR_int, neR_int, eqR_bl, neR_bl, absR, max2R, min2R, intR, mulRi, divRi, powRi, modR, absI, len_fr, len_tb, isiT_fr, isiT_tb, isiI_int, isiB_int, isiB_bl, isiL_lst, isiT_tup, items_tb, items_fr, zip_tb, all4, addD_tup2, addD_lst2, eLc, lcL, cYes, wipeE, gN, gTup_tup, gTup_tb, gTup_fr, gLs_lst, gCons, gNil, tuple_lst, List.set_cons_zero, List.set_cons_succ, List.set_nil, ix_fr0, ix_fr1, ix_tb0, ix_tb1, ix_tb2, ix_tb3, eqR_fr, neR_fr, eqR_tb, neR_tb]; try rfl)) ?_
    try simp only [List.set_cons_zero, List.set_cons_succ, startE, List.map_cons, List.map_nil, List.replicate, List.cons_append, List.nil_append, List.append_nil, List.length_cons, List.length_nil, Nat.zero_add, Nat.reduceAdd, Nat.reduceSub]
    refine q_ifJ (fun ρ => ∃ f : Int, f.natAbs ≤ 300 ∧ ρ = [some (.d (.scr (ns.map D.int))), some (.d (.int i)), some (.d (.int n)), some (.d (.int p)), some (.d (.int f)), x5, x6, x7, x8, x9, x10, x11, x12, x13, x14]) (t := decide (n / 100 % 8 = 1)) (by (simp (disch := first | decide | assumption | omega) only [startE, List.map_cons, List.map_nil, List.replicate, eVar, eC, PT.e1, PT.e2, aNil, aCons, eCall, tupR, lstR, eTup, eLst, eIte, eLenO, eIxO, cT, cAnd, cOr, cNot, andV, orV, notD, truR, truD, bindR, bindRB, bindRL, bindL, bindB, bindBB, bindLL, toD, okD, okI, okB, itA, itD, items_tup, items_lst, items_scr, len_tup, len_lst, len_scr, List.getElem?_cons_zero, List.getElem?_cons_succ, List.length_cons, List.length_nil, List.length_map, List.cons_append, List.nil_append, List.append_nil, Nat.zero_add, Nat.reduceAdd, Nat.reduceSub, Nat.reduceLeDiff, if_true, if_false, ite_true, ite_false, Bool.false_eq_true, reduceIte, Bool.not_true, Bool.not_false, Int.reducePow, Int.reduceToNat, Int.reduceMul, Int.reduceAdd, Int.reduceSub, addD, subD, negD, ltR, leR, gtR, geR, eqR_int, neR_int, eqR_bl, neR_bl, absR, max2R, min2R, intR, mulRi, divRi, powRi, modR, absI, len_fr, len_tb, isiT_fr, isiT_tb, isiI_int, isiB_int, isiB_bl, isiL_lst, isiT_tup, items_tb, items_fr, zip_tb, all4, addD_tup2, addD_lst2, eLc, lcL, cYes, wipeE, gN, gTup_tup, gTup_tb, gTup_fr, gLs_lst, gCons, gNil, tuple_lst, List.set_cons_zero, List.set_cons_succ, List.set_nil, ix_fr0, ix_fr1, ix_tb0, ix_tb1, ix_tb2, ix_tb3, eqR_fr, neR_fr, eqR_tb, neR_tb]; try rfl)) ?_ (fun K hK _ => z_set (v := .int (n / 800 % 601 - 300)) (by (simp (disch := first | decide | assumption | omega) only [startE, List.map_cons, List.map_nil, List.replicate, eVar, eC, PT.e1, PT.e2, aNil, aCons, eCall, tupR, lstR, eTup, eLst, eIte, eLenO, eIxO, cT, cAnd, cOr, cNot, andV, orV, notD, truR, truD, bindR, bindRB, bindRL, bindL, bindB, bindBB, bindLL, toD, okD, okI, okB, itA, itD, items_tup, items_lst, items_scr, len_tup, len_lst, len_scr, List.getElem?_cons_zero, List.getElem?_cons_succ, List.length_cons, List.length_nil, List.length_map, List.cons_append, List.nil_append, List.append_nil, Nat.zero_add, Nat.reduceAdd, Nat.reduceSub, Nat.reduceLeDiff, if_true, if_false, ite_true, ite_false, Bool.false_eq_true, reduceIte, Bool.not_true, Bool.not_false, Int.reducePow, Int.reduceToNat, Int.reduceMul, Int.reduceAdd, Int.reduceSub, addD, subD, negD, ltR, leR, gtR, geR, eqR_int, neR_int, eqR_bl, neR_bl, absR, max2R, min2R, intR, mulRi, divRi, powRi, modR, absI, len_fr, len_tb, isiT_fr, isiT_tb, isiI_int, isiB_int, isiB_bl, isiL_lst, isiT_tup, items_tb, items_fr, zip_tb, all4, addD_tup2, addD_lst2, eLc, lcL, cYes, wipeE, gN, gTup_tup, gTup_tb, gTup_fr, gLs_lst, gCons, gNil, tuple_lst, List.set_cons_zero, List.set_cons_succ, List.set_nil, ix_fr0, ix_fr1, ix_tb0, ix_tb1, ix_tb2, ix_tb3, eqR_fr, neR_fr, eqR_tb, neR_tb]; try rfl)) (hK _ ⟨_, by omega, rfl⟩)) (fun K hK _ => hK _ ⟨_, by omega, rfl⟩)
    rintro ρ ⟨f, hf, rfl⟩
    refine q_set (v := .int c1) (by (simp (disch := first | decide | assumption | omega) only [startE, List.map_cons, List.map_nil, List.replicate, eVar, eC, PT.e1, PT.e2, aNil, aCons, eCall, tupR, lstR, eTup, eLst, eIte, eLenO, eIxO, cT, cAnd, cOr, cNot, andV, orV, notD, truR, truD, bindR, bindRB, bindRL, bindL, bindB, bindBB, bindLL, toD, okD, okI, okB, itA, itD, items_tup, items_lst, items_scr, len_tup, len_lst, len_scr, List.getElem?_cons_zero, List.getElem?_cons_succ, List.length_cons, List.length_nil, List.length_map, List.cons_append, List.nil_append, List.append_nil, Nat.zero_add, Nat.reduceAdd, Nat.reduceSub, Nat.reduceLeDiff, if_true, if_false, ite_true, ite_false, Bool.false_eq_true, reduceIte, Bool.not_true, Bool.not_false, Int.reducePow, Int.reduceToNat, Int.reduceMul, Int.reduceAdd, Int.reduceSub, addD, subD, negD, ltR, leR, gtR, geR, eqR_int, neR_int, eqR_bl, neR_bl, absR, max2R, min2R, intR, mulRi, divRi, powRi, modR, absI, len_fr, len_tb, isiT_fr, isiT_tb, isiI_int, isiB_int, isiB_bl, isiL_lst, isiT_tup, items_tb, items_fr, zip_tb, all4, addD_tup2, addD_lst2, eLc, lcL, cYes, wipeE, gN, gTup_tup, gTup_tb, gTup_fr, gLs_lst, gCons, gNil, tuple_lst, List.set_cons_zero, List.set_cons_succ, List.set_nil, ix_fr0, ix_fr1, ix_tb0, ix_tb1, ix_tb2, ix_tb3, eqR_fr, neR_fr, eqR_tb, neR_tb, v1]; try rfl)) ?_
    try simp only [List.set_cons_zero, List.set_cons_succ, startE, List.map_cons, List.map_nil, List.replicate, List.cons_append, List.nil_append, List.append_nil, List.length_cons, List.length_nil, Nat.zero_add, Nat.reduceAdd, Nat.reduceSub]
    refine q_set (v := .tup [.int (c1 % 9), .int (1 + c1 / 9 % 6)]) (by (simp (disch := first | decide | assumption | omega) only [startE, List.map_cons, List.map_nil, List.replicate, eVar, eC, PT.e1, PT.e2, aNil, aCons, eCall, tupR, lstR, eTup, eLst, eIte, eLenO, eIxO, cT, cAnd, cOr, cNot, andV, orV, notD, truR, truD, bindR, bindRB, bindRL, bindL, bindB, bindBB, bindLL, toD, okD, okI, okB, itA, itD, items_tup, items_lst, items_scr, len_tup, len_lst, len_scr, List.getElem?_cons_zero, List.getElem?_cons_succ, List.length_cons, List.length_nil, List.length_map, List.cons_append, List.nil_append, List.append_nil, Nat.zero_add, Nat.reduceAdd, Nat.reduceSub, Nat.reduceLeDiff, if_true, if_false, ite_true, ite_false, Bool.false_eq_true, reduceIte, Bool.not_true, Bool.not_false, Int.reducePow, Int.reduceToNat, Int.reduceMul, Int.reduceAdd, Int.reduceSub, addD, subD, negD, ltR, leR, gtR, geR, eqR_int, neR_int, eqR_bl, neR_bl, absR, max2R, min2R, intR, mulRi, divRi, powRi, modR, absI, len_fr, len_tb, isiT_fr, isiT_tb, isiI_int, isiB_int, isiB_bl, isiL_lst, isiT_tup, items_tb, items_fr, zip_tb, all4, addD_tup2, addD_lst2, eLc, lcL, cYes, wipeE, gN, gTup_tup, gTup_tb, gTup_fr, gLs_lst, gCons, gNil, tuple_lst, List.set_cons_zero, List.set_cons_succ, List.set_nil, ix_fr0, ix_fr1, ix_tb0, ix_tb1, ix_tb2, ix_tb3, eqR_fr, neR_fr, eqR_tb, neR_tb]; try rfl)) ?_
    try simp only [List.set_cons_zero, List.set_cons_succ, startE, List.map_cons, List.map_nil, List.replicate, List.cons_append, List.nil_append, List.append_nil, List.length_cons, List.length_nil, Nat.zero_add, Nat.reduceAdd, Nat.reduceSub]
    refine q_ifJ (fun ρ => ∃ a b : Nat, (a ≤ 101 ∧ 1 ≤ b ∧ b ≤ 101) ∧ ρ = [some (.d (.scr (ns.map D.int))), some (.d (.int i)), some (.d (.int n)), some (.d (.int p)), some (.d (.int f)), some (.d (.int c1)), some (.d (.tup [.int a, .int b])), x7, x8, x9, x10, x11, x12, x13, x14]) (t := decide (n / 8000 % 4 = 1)) (by (simp (disch := first | decide | assumption | omega) only [startE, List.map_cons, List.map_nil, List.replicate, eVar, eC, PT.e1, PT.e2, aNil, aCons, eCall, tupR, lstR, eTup, eLst, eIte, eLenO, eIxO, cT, cAnd, cOr, cNot, andV, orV, notD, truR, truD, bindR, bindRB, bindRL, bindL, bindB, bindBB, bindLL, toD, okD, okI, okB, itA, itD, items_tup, items_lst, items_scr, len_tup, len_lst, len_scr, List.getElem?_cons_zero, List.getElem?_cons_succ, List.length_cons, List.length_nil, List.length_map, List.cons_append, List.nil_append, List.append_nil, Nat.zero_add, Nat.reduceAdd, Nat.reduceSub, Nat.reduceLeDiff, if_true, if_false, ite_true, ite_false, Bool.false_eq_true, reduceIte, Bool.not_true, Bool.not_false, Int.reducePow, Int.reduceToNat, Int.reduceMul, Int.reduceAdd, Int.reduceSub, addD, subD, negD, ltR, leR, gtR, geR, eqR_int, neR_int, eqR_bl, neR_bl, absR, max2R, min2R, intR, mulRi, divRi, powRi, modR, absI, len_fr, len_tb, isiT_fr, isiT_tb, isiI_int, isiB_int, isiB_bl, isiL_lst, isiT_tup, items_tb, items_fr, zip_tb, all4, addD_tup2, addD_lst2, eLc, lcL, cYes, wipeE, gN, gTup_tup, gTup_tb, gTup_fr, gLs_lst, gCons, gNil, tuple_lst, List.set_cons_zero, List.set_cons_succ, List.set_nil, ix_fr0, ix_fr1, ix_tb0, ix_tb1, ix_tb2, ix_tb3, eqR_fr, neR_fr, eqR_tb, neR_tb]; try rfl)) ?_ (fun K hK _ => z_set (v := .tup [.int (c1 % 101), .int (1 + c1 / 101 % 100)]) (by (simp (disch := first | decide | assumption | omega) only [startE, List.map_cons, List.map_nil, List.replicate, eVar, eC, PT.e1, PT.e2, aNil, aCons, eCall, tupR, lstR, eTup, eLst, eIte, eLenO, eIxO, cT, cAnd, cOr, cNot, andV, orV, notD, truR, truD, bindR, bindRB, bindRL, bindL, bindB, bindBB, bindLL, toD, okD, okI, okB, itA, itD, items_tup, items_lst, items_scr, len_tup, len_lst, len_scr, List.getElem?_cons_zero, List.getElem?_cons_succ, List.length_cons, List.length_nil, List.length_map, List.cons_append, List.nil_append, List.append_nil, Nat.zero_add, Nat.reduceAdd, Nat.reduceSub, Nat.reduceLeDiff, if_true, if_false, ite_true, ite_false, Bool.false_eq_true, reduceIte, Bool.not_true, Bool.not_false, Int.reducePow, Int.reduceToNat, Int.reduceMul, Int.reduceAdd, Int.reduceSub, addD, subD, negD, ltR, leR, gtR, geR, eqR_int, neR_int, eqR_bl, neR_bl, absR, max2R, min2R, intR, mulRi, divRi, powRi, modR, absI, len_fr, len_tb, isiT_fr, isiT_tb, isiI_int, isiB_int, isiB_bl, isiL_lst, isiT_tup, items_tb, items_fr, zip_tb, all4, addD_tup2, addD_lst2, eLc, lcL, cYes, wipeE, gN, gTup_tup, gTup_tb, gTup_fr, gLs_lst, gCons, gNil, tuple_lst, List.set_cons_zero, List.set_cons_succ, List.set_nil, ix_fr0, ix_fr1, ix_tb0, ix_tb1, ix_tb2, ix_tb3, eqR_fr, neR_fr, eqR_tb, neR_tb]; try rfl)) (hK _ ⟨(c1 % 101).toNat, (1 + c1 / 101 % 100).toNat, by omega, by rw [Int.toNat_of_nonneg (by omega), Int.toNat_of_nonneg (by omega)]; rfl⟩)) (fun K hK _ => hK _ ⟨(c1 % 9).toNat, (1 + c1 / 9 % 6).toNat, by omega, by rw [Int.toNat_of_nonneg (by omega), Int.toNat_of_nonneg (by omega)]⟩)
    rintro ρ ⟨la, lb, ⟨ha, hb1, hb⟩, rfl⟩
    have bg : B 600 (c4 * 1000000000000000000000000000000000000000000000000000000000000 + c2) := by
      have q1 : Bd (c4 * 1000000000000000000000000000000000000000000000000000000000000) (300 + 200) := ⟨w4.mul (show B 200 1000000000000000000000000000000000000000000000000000000000000 by decide) (Nat.le_refl _)⟩
      have q2 : Bd (c4 * 1000000000000000000000000000000000000000000000000000000000000 + c2) _ := inferInstance
      exact q2.b.mono (by decide)
    obtain ⟨hs, ⟨fh, lh⟩, eh⟩ := ev__law_drawn_figures (m := la) hp (show 0 ≤ c4 * 1000000000000000000000000000000000000000000000000000000000000 + c2 by omega) bg (by decide) (by omega)
    obtain ⟨gs, ⟨fg, lg⟩, eg⟩ := ev__law_drawn_figures (m := lb) hp z3 w3 (by decide) (by omega)
    have i0 : ixR (.tup [.int (la : Int), .int (lb : Int)]) (.int 0) = okD (.int la) := rfl
    have i1 : ixR (.tup [.int (la : Int), .int (lb : Int)]) (.int 1) = okD (.int lb) := rfl
    have g0 : 0 < gs.length := by omega
    have val := ev__law_value (first := f) (n := 101) (m := 300) hp fh fg g0 (by omega) (by omega) (by decide) hf (by decide)
    have byf := ev_by_figures (first := f) (n := 101) (m := 300) hp fh fg g0 (by omega) (by omega) (by decide) hf (by decide)
    have lr : ∀ ds : List D, listR [.lst ds] = some (.ok (.own ds)) := fun _ => rfl
    have j0 : ixR (.tup [.lst (hs.map D.int), .lst (gs.map D.int)]) (.int 0) = okD (.lst (hs.map D.int)) := rfl
    have j1 : ixR (.tup [.lst (hs.map D.int), .lst (gs.map D.int)]) (.int 1) = okD (.lst (gs.map D.int)) := rfl
    have nl := ne_lists hs gs
    have nh : lenR [.lst (hs.map D.int)] = okI (hs.length : Int) := by rw [len_lst, List.length_map]
    have ng : lenR [.lst (gs.map D.int)] = okI (gs.length : Int) := by rw [len_lst, List.length_map]
    have qv : Qd (figV p f hs gs) 1815 := by
      obtain ⟨q1, q2, q3, q4⟩ := figV_qd (first := f) (n := 101) (m := 300) hp fh fg g0 (by omega) (by omega) hf
      unfold figV
      exact (inferInstance : Qd _ _).mono (by decide)
    have nf : neR (fr (figV p f hs gs)) (fr (figV p f hs gs)) = okB false := by rw [neR_fr]; simp
    have isf := ev__law_is_fraction (figV p f hs gs)
    refine q_set (v := .int (c4 * 1000000000000000000000000000000000000000000000000000000000000 + c2)) (by (simp (disch := first | decide | assumption | omega) only [startE, List.map_cons, List.map_nil, List.replicate, eVar, eC, PT.e1, PT.e2, aNil, aCons, eCall, tupR, lstR, eTup, eLst, eIte, eLenO, eIxO, cT, cAnd, cOr, cNot, andV, orV, notD, truR, truD, bindR, bindRB, bindRL, bindL, bindB, bindBB, bindLL, toD, okD, okI, okB, itA, itD, items_tup, items_lst, items_scr, len_tup, len_lst, len_scr, List.getElem?_cons_zero, List.getElem?_cons_succ, List.length_cons, List.length_nil, List.length_map, List.cons_append, List.nil_append, List.append_nil, Nat.zero_add, Nat.reduceAdd, Nat.reduceSub, Nat.reduceLeDiff, if_true, if_false, ite_true, ite_false, Bool.false_eq_true, reduceIte, Bool.not_true, Bool.not_false, Int.reducePow, Int.reduceToNat, Int.reduceMul, Int.reduceAdd, Int.reduceSub, addD, subD, negD, ltR, leR, gtR, geR, eqR_int, neR_int, eqR_bl, neR_bl, absR, max2R, min2R, intR, mulRi, divRi, powRi, modR, absI, len_fr, len_tb, isiT_fr, isiT_tb, isiI_int, isiB_int, isiB_bl, isiL_lst, isiT_tup, items_tb, items_fr, zip_tb, all4, addD_tup2, addD_lst2, eLc, lcL, cYes, wipeE, gN, gTup_tup, gTup_tb, gTup_fr, gLs_lst, gCons, gNil, tuple_lst, List.set_cons_zero, List.set_cons_succ, List.set_nil, ix_fr0, ix_fr1, ix_tb0, ix_tb1, ix_tb2, ix_tb3, eqR_fr, neR_fr, eqR_tb, neR_tb, v4, v2]; try rfl)) ?_
    try simp only [List.set_cons_zero, List.set_cons_succ, startE, List.map_cons, List.map_nil, List.replicate, List.cons_append, List.nil_append, List.append_nil, List.length_cons, List.length_nil, Nat.zero_add, Nat.reduceAdd, Nat.reduceSub]
    refine q_setL (ds := hs.map D.int) (by (simp (disch := first | decide | assumption | omega) only [startE, List.map_cons, List.map_nil, List.replicate, eVar, eC, PT.e1, PT.e2, aNil, aCons, eCall, tupR, lstR, eTup, eLst, eIte, eLenO, eIxO, cT, cAnd, cOr, cNot, andV, orV, notD, truR, truD, bindR, bindRB, bindRL, bindL, bindB, bindBB, bindLL, toD, okD, okI, okB, itA, itD, items_tup, items_lst, items_scr, len_tup, len_lst, len_scr, List.getElem?_cons_zero, List.getElem?_cons_succ, List.length_cons, List.length_nil, List.length_map, List.cons_append, List.nil_append, List.append_nil, Nat.zero_add, Nat.reduceAdd, Nat.reduceSub, Nat.reduceLeDiff, if_true, if_false, ite_true, ite_false, Bool.false_eq_true, reduceIte, Bool.not_true, Bool.not_false, Int.reducePow, Int.reduceToNat, Int.reduceMul, Int.reduceAdd, Int.reduceSub, addD, subD, negD, ltR, leR, gtR, geR, eqR_int, neR_int, eqR_bl, neR_bl, absR, max2R, min2R, intR, mulRi, divRi, powRi, modR, absI, len_fr, len_tb, isiT_fr, isiT_tb, isiI_int, isiB_int, isiB_bl, isiL_lst, isiT_tup, items_tb, items_fr, zip_tb, all4, addD_tup2, addD_lst2, eLc, lcL, cYes, wipeE, gN, gTup_tup, gTup_tb, gTup_fr, gLs_lst, gCons, gNil, tuple_lst, List.set_cons_zero, List.set_cons_succ, List.set_nil, ix_fr0, ix_fr1, ix_tb0, ix_tb1, ix_tb2, ix_tb3, eqR_fr, neR_fr, eqR_tb, neR_tb, i0, eh]; try rfl)) ?_
    try simp only [List.set_cons_zero, List.set_cons_succ, startE, List.map_cons, List.map_nil, List.replicate, List.cons_append, List.nil_append, List.append_nil, List.length_cons, List.length_nil, Nat.zero_add, Nat.reduceAdd, Nat.reduceSub]
    refine q_setL (ds := gs.map D.int) (by (simp (disch := first | decide | assumption | omega) only [startE, List.map_cons, List.map_nil, List.replicate, eVar, eC, PT.e1, PT.e2, aNil, aCons, eCall, tupR, lstR, eTup, eLst, eIte, eLenO, eIxO, cT, cAnd, cOr, cNot, andV, orV, notD, truR, truD, bindR, bindRB, bindRL, bindL, bindB, bindBB, bindLL, toD, okD, okI, okB, itA, itD, items_tup, items_lst, items_scr, len_tup, len_lst, len_scr, List.getElem?_cons_zero, List.getElem?_cons_succ, List.length_cons, List.length_nil, List.length_map, List.cons_append, List.nil_append, List.append_nil, Nat.zero_add, Nat.reduceAdd, Nat.reduceSub, Nat.reduceLeDiff, if_true, if_false, ite_true, ite_false, Bool.false_eq_true, reduceIte, Bool.not_true, Bool.not_false, Int.reducePow, Int.reduceToNat, Int.reduceMul, Int.reduceAdd, Int.reduceSub, addD, subD, negD, ltR, leR, gtR, geR, eqR_int, neR_int, eqR_bl, neR_bl, absR, max2R, min2R, intR, mulRi, divRi, powRi, modR, absI, len_fr, len_tb, isiT_fr, isiT_tb, isiI_int, isiB_int, isiB_bl, isiL_lst, isiT_tup, items_tb, items_fr, zip_tb, all4, addD_tup2, addD_lst2, eLc, lcL, cYes, wipeE, gN, gTup_tup, gTup_tb, gTup_fr, gLs_lst, gCons, gNil, tuple_lst, List.set_cons_zero, List.set_cons_succ, List.set_nil, ix_fr0, ix_fr1, ix_tb0, ix_tb1, ix_tb2, ix_tb3, eqR_fr, neR_fr, eqR_tb, neR_tb, v3, i1, eg]; try rfl)) ?_
    try simp only [List.set_cons_zero, List.set_cons_succ, startE, List.map_cons, List.map_nil, List.replicate, List.cons_append, List.nil_append, List.append_nil, List.length_cons, List.length_nil, Nat.zero_add, Nat.reduceAdd, Nat.reduceSub]
    refine q_set (v := fr (figV p f hs gs)) (by (simp (disch := first | decide | assumption | omega) only [startE, List.map_cons, List.map_nil, List.replicate, eVar, eC, PT.e1, PT.e2, aNil, aCons, eCall, tupR, lstR, eTup, eLst, eIte, eLenO, eIxO, cT, cAnd, cOr, cNot, andV, orV, notD, truR, truD, bindR, bindRB, bindRL, bindL, bindB, bindBB, bindLL, toD, okD, okI, okB, itA, itD, items_tup, items_lst, items_scr, len_tup, len_lst, len_scr, List.getElem?_cons_zero, List.getElem?_cons_succ, List.length_cons, List.length_nil, List.length_map, List.cons_append, List.nil_append, List.append_nil, Nat.zero_add, Nat.reduceAdd, Nat.reduceSub, Nat.reduceLeDiff, if_true, if_false, ite_true, ite_false, Bool.false_eq_true, reduceIte, Bool.not_true, Bool.not_false, Int.reducePow, Int.reduceToNat, Int.reduceMul, Int.reduceAdd, Int.reduceSub, addD, subD, negD, ltR, leR, gtR, geR, eqR_int, neR_int, eqR_bl, neR_bl, absR, max2R, min2R, intR, mulRi, divRi, powRi, modR, absI, len_fr, len_tb, isiT_fr, isiT_tb, isiI_int, isiB_int, isiB_bl, isiL_lst, isiT_tup, items_tb, items_fr, zip_tb, all4, addD_tup2, addD_lst2, eLc, lcL, cYes, wipeE, gN, gTup_tup, gTup_tb, gTup_fr, gLs_lst, gCons, gNil, tuple_lst, List.set_cons_zero, List.set_cons_succ, List.set_nil, ix_fr0, ix_fr1, ix_tb0, ix_tb1, ix_tb2, ix_tb3, eqR_fr, neR_fr, eqR_tb, neR_tb, val]; try rfl)) ?_
    try simp only [List.set_cons_zero, List.set_cons_succ, startE, List.map_cons, List.map_nil, List.replicate, List.cons_append, List.nil_append, List.append_nil, List.length_cons, List.length_nil, Nat.zero_add, Nat.reduceAdd, Nat.reduceSub]
    refine q_set (v := .tup [.lst (hs.map D.int), .lst (gs.map D.int)]) (by (simp (disch := first | decide | assumption | omega) only [startE, List.map_cons, List.map_nil, List.replicate, eVar, eC, PT.e1, PT.e2, aNil, aCons, eCall, tupR, lstR, eTup, eLst, eIte, eLenO, eIxO, cT, cAnd, cOr, cNot, andV, orV, notD, truR, truD, bindR, bindRB, bindRL, bindL, bindB, bindBB, bindLL, toD, okD, okI, okB, itA, itD, items_tup, items_lst, items_scr, len_tup, len_lst, len_scr, List.getElem?_cons_zero, List.getElem?_cons_succ, List.length_cons, List.length_nil, List.length_map, List.cons_append, List.nil_append, List.append_nil, Nat.zero_add, Nat.reduceAdd, Nat.reduceSub, Nat.reduceLeDiff, if_true, if_false, ite_true, ite_false, Bool.false_eq_true, reduceIte, Bool.not_true, Bool.not_false, Int.reducePow, Int.reduceToNat, Int.reduceMul, Int.reduceAdd, Int.reduceSub, addD, subD, negD, ltR, leR, gtR, geR, eqR_int, neR_int, eqR_bl, neR_bl, absR, max2R, min2R, intR, mulRi, divRi, powRi, modR, absI, len_fr, len_tb, isiT_fr, isiT_tb, isiI_int, isiB_int, isiB_bl, isiL_lst, isiT_tup, items_tb, items_fr, zip_tb, all4, addD_tup2, addD_lst2, eLc, lcL, cYes, wipeE, gN, gTup_tup, gTup_tb, gTup_fr, gLs_lst, gCons, gNil, tuple_lst, List.set_cons_zero, List.set_cons_succ, List.set_nil, ix_fr0, ix_fr1, ix_tb0, ix_tb1, ix_tb2, ix_tb3, eqR_fr, neR_fr, eqR_tb, neR_tb, lr]; try rfl)) ?_
    try simp only [List.set_cons_zero, List.set_cons_succ, startE, List.map_cons, List.map_nil, List.replicate, List.cons_append, List.nil_append, List.append_nil, List.length_cons, List.length_nil, Nat.zero_add, Nat.reduceAdd, Nat.reduceSub]
    refine q_set (v := fr (figV p f hs gs)) (by (simp (disch := first | decide | assumption | omega) only [startE, List.map_cons, List.map_nil, List.replicate, eVar, eC, PT.e1, PT.e2, aNil, aCons, eCall, tupR, lstR, eTup, eLst, eIte, eLenO, eIxO, cT, cAnd, cOr, cNot, andV, orV, notD, truR, truD, bindR, bindRB, bindRL, bindL, bindB, bindBB, bindLL, toD, okD, okI, okB, itA, itD, items_tup, items_lst, items_scr, len_tup, len_lst, len_scr, List.getElem?_cons_zero, List.getElem?_cons_succ, List.length_cons, List.length_nil, List.length_map, List.cons_append, List.nil_append, List.append_nil, Nat.zero_add, Nat.reduceAdd, Nat.reduceSub, Nat.reduceLeDiff, if_true, if_false, ite_true, ite_false, Bool.false_eq_true, reduceIte, Bool.not_true, Bool.not_false, Int.reducePow, Int.reduceToNat, Int.reduceMul, Int.reduceAdd, Int.reduceSub, addD, subD, negD, ltR, leR, gtR, geR, eqR_int, neR_int, eqR_bl, neR_bl, absR, max2R, min2R, intR, mulRi, divRi, powRi, modR, absI, len_fr, len_tb, isiT_fr, isiT_tb, isiI_int, isiB_int, isiB_bl, isiL_lst, isiT_tup, items_tb, items_fr, zip_tb, all4, addD_tup2, addD_lst2, eLc, lcL, cYes, wipeE, gN, gTup_tup, gTup_tb, gTup_fr, gLs_lst, gCons, gNil, tuple_lst, List.set_cons_zero, List.set_cons_succ, List.set_nil, ix_fr0, ix_fr1, ix_tb0, ix_tb1, ix_tb2, ix_tb3, eqR_fr, neR_fr, eqR_tb, neR_tb, j0, j1, byf]; try rfl)) ?_
    try simp only [List.set_cons_zero, List.set_cons_succ, startE, List.map_cons, List.map_nil, List.replicate, List.cons_append, List.nil_append, List.append_nil, List.length_cons, List.length_nil, Nat.zero_add, Nat.reduceAdd, Nat.reduceSub]
    refine q_ifN (t := false) (by (simp (disch := first | decide | assumption | omega) only [startE, List.map_cons, List.map_nil, List.replicate, eVar, eC, PT.e1, PT.e2, aNil, aCons, eCall, tupR, lstR, eTup, eLst, eIte, eLenO, eIxO, cT, cAnd, cOr, cNot, andV, orV, notD, truR, truD, bindR, bindRB, bindRL, bindL, bindB, bindBB, bindLL, toD, okD, okI, okB, itA, itD, items_tup, items_lst, items_scr, len_tup, len_lst, len_scr, List.getElem?_cons_zero, List.getElem?_cons_succ, List.length_cons, List.length_nil, List.length_map, List.cons_append, List.nil_append, List.append_nil, Nat.zero_add, Nat.reduceAdd, Nat.reduceSub, Nat.reduceLeDiff, if_true, if_false, ite_true, ite_false, Bool.false_eq_true, reduceIte, Bool.not_true, Bool.not_false, Int.reducePow, Int.reduceToNat, Int.reduceMul, Int.reduceAdd, Int.reduceSub, addD, subD, negD, ltR, leR, gtR, geR, eqR_int, neR_int, eqR_bl, neR_bl, absR, max2R, min2R, intR, mulRi, divRi, powRi, modR, absI, len_fr, len_tb, isiT_fr, isiT_tb, isiI_int, isiB_int, isiB_bl, isiL_lst, isiT_tup, items_tb, items_fr, zip_tb, all4, addD_tup2, addD_lst2, eLc, lcL, cYes, wipeE, gN, gTup_tup, gTup_tb, gTup_fr, gLs_lst, gCons, gNil, tuple_lst, List.set_cons_zero, List.set_cons_succ, List.set_nil, ix_fr0, ix_fr1, ix_tb0, ix_tb1, ix_tb2, ix_tb3, eqR_fr, neR_fr, eqR_tb, neR_tb, isf, nf, nl]; try rfl)) (fun z => by cases z) fun _ => ?_
    -- twice
    have fgg : Figs p (gs ++ gs) := fun x hx => (List.mem_append.mp hx).elim (fg x) (fg x)
    have adg : addD (.lst (gs.map D.int)) (.lst (gs.map D.int)) = some (.ok (.own ((gs ++ gs).map D.int))) := by
      rw [List.map_append]
      exact if_pos (by rw [List.length_map]; omega)
    refine q_ifN (t := false) ?_ (fun z => by cases z) fun _ => ?_
    · by_cases l51 : (gs.length : Int) < 51
      · have by2 := ev_by_figures (first := f) (gs := gs ++ gs) (n := 101) (m := 300) hp fh fgg (by rw [List.length_append]; omega) (by omega) (by rw [List.length_append]; omega) (by decide) hf (by decide)
        rw [figV_twice hp g0] at by2
        have d1 : decide ((gs.length : Int) < 51) = true := decide_eq_true l51
        have d1' : ltR (.int (gs.length : Int)) (.int 51) = okB true := by show okB (decide ((gs.length : Int) < 51)) = _; rw [d1]
        simp only [cAnd, cT, PT.e2, eCall, aCons, aNil, eVar, eC, bindR, bindRL, bindL, bindRB, List.getElem?_cons_succ, List.getElem?_cons_zero, okD, toD, ng, okI, okB, d1', adg, by2, nf, truR, truD]
        rfl
      · have d1' : ltR (.int (gs.length : Int)) (.int 51) = okB false := by show okB (decide ((gs.length : Int) < 51)) = _; rw [decide_eq_false l51]
        simp only [cAnd, cT, PT.e2, eCall, aCons, aNil, eVar, eC, bindR, bindRL, bindL, bindRB, List.getElem?_cons_succ, List.getElem?_cons_zero, okD, toD, ng, okI, okB, d1', truR, truD]
        rfl
    -- turned on
    obtain ⟨g, gs', rfl⟩ : ∃ g gs', gs = g :: gs' := by
      cases gs with
      | nil => simp at g0
      | cons g gs' => exact ⟨g, gs', rfl⟩
    obtain ⟨cA, cB⟩ := cut1 g gs'
    have lg' : gs'.length + 1 = lb := lg
    have sA : slR (.lst ((g :: gs').map D.int)) none (some 1) = some (.ok (.own [D.int g])) := by
      show some (R.ok (.own (cutD ((g :: gs').map D.int) none (some 1)))) = _
      rw [cA]
    have sB : slR (.lst ((g :: gs').map D.int)) (some 1) none = some (.ok (.own (gs'.map D.int))) := by
      show some (R.ok (.own (cutD ((g :: gs').map D.int) (some 1) none))) = _
      rw [cB]
    have adh : addD (.lst (hs.map D.int)) (.lst [D.int g]) = some (.ok (.own ((hs ++ [g]).map D.int))) := by
      rw [List.map_append]
      exact if_pos (by rw [List.length_map]; show hs.length + 1 ≤ _; omega)
    have adt : addD (.lst (gs'.map D.int)) (.lst [D.int g]) = some (.ok (.own ((gs' ++ [g]).map D.int))) := by
      rw [List.map_append]
      exact if_pos (by rw [List.length_map]; show gs'.length + 1 ≤ _; omega)
    refine q_ifJ (fun ρ => ∃ x13, ρ = [some (.d (.scr (ns.map D.int))), some (.d (.int i)), some (.d (.int n)), some (.d (.int p)), some (.d (.int f)), some (.d (.int c1)), some (.d (.tup [.int la, .int lb])), some (.d (.int (c4 * 1000000000000000000000000000000000000000000000000000000000000 + c2))), some (.d (.lst (hs.map D.int))), some (.d (.lst ((g :: gs').map D.int))), some (.d (fr (figV p f hs (g :: gs')))), some (.d (.tup [.lst (hs.map D.int), .lst ((g :: gs').map D.int)])), some (.d (fr (figV p f hs (g :: gs')))), x13, x14]) (t := decide ((hs.length : Int) < 100)) (by (simp (disch := first | decide | assumption | omega) only [startE, List.map_cons, List.map_nil, List.replicate, eVar, eC, PT.e1, PT.e2, aNil, aCons, eCall, tupR, lstR, eTup, eLst, eIte, eLenO, eIxO, cT, cAnd, cOr, cNot, andV, orV, notD, truR, truD, bindR, bindRB, bindRL, bindL, bindB, bindBB, bindLL, toD, okD, okI, okB, itA, itD, items_tup, items_lst, items_scr, len_tup, len_lst, len_scr, List.getElem?_cons_zero, List.getElem?_cons_succ, List.length_cons, List.length_nil, List.length_map, List.cons_append, List.nil_append, List.append_nil, Nat.zero_add, Nat.reduceAdd, Nat.reduceSub, Nat.reduceLeDiff, if_true, if_false, ite_true, ite_false, Bool.false_eq_true, reduceIte, Bool.not_true, Bool.not_false, Int.reducePow, Int.reduceToNat, Int.reduceMul, Int.reduceAdd, Int.reduceSub, addD, subD, negD, ltR, leR, gtR, geR, eqR_int, neR_int, eqR_bl, neR_bl, absR, max2R, min2R, intR, mulRi, divRi, powRi, modR, absI, len_fr, len_tb, isiT_fr, isiT_tb, isiI_int, isiB_int, isiB_bl, isiL_lst, isiT_tup, items_tb, items_fr, zip_tb, all4, addD_tup2, addD_lst2, eLc, lcL, cYes, wipeE, gN, gTup_tup, gTup_tb, gTup_fr, gLs_lst, gCons, gNil, tuple_lst, List.set_cons_zero, List.set_cons_succ, List.set_nil, ix_fr0, ix_fr1, ix_tb0, ix_tb1, ix_tb2, ix_tb3, eqR_fr, neR_fr, eqR_tb, neR_tb, nh]; try rfl)) ?_ (fun K hK ht => ?_) (fun K hK _ => hK _ ⟨_, rfl⟩)
    rotate_left
    · have l100 := of_decide_eq_true ht
      have fh1 : Figs p (hs ++ [g]) := fun x hx => by
        rcases List.mem_append.mp hx with z | z
        · exact fh x z
        · exact fg x (by have : x = g := by simpa using z
                         subst this; simp)
      have fg1 : Figs p (gs' ++ [g]) := fun x hx => by
        rcases List.mem_append.mp hx with z | z
        · exact fg x (by simp [z])
        · exact fg x (by have : x = g := by simpa using z
                         subst this; simp)
      have by3 := ev_by_figures (first := f) (hs := hs ++ [g]) (gs := gs' ++ [g]) (n := 101) (m := 300) hp fh1 fg1 (by simp) (by simp; omega) (by simp; omega) (by decide) hf (by decide)
      rw [figV_turn hp] at by3
      refine q_set (v := fr (figV p f hs (g :: gs'))) ?_ ?_
      · simp only [PT.e2, eCall, aCons, aNil, eVar, eC, eSl, optB, bindR, bindRL, bindL, List.getElem?_cons_succ, List.getElem?_cons_zero, okD, toD, sA, sB, adh, adt, by3]
      try simp only [List.set_cons_zero, List.set_cons_succ, startE, List.map_cons, List.map_nil, List.replicate, List.cons_append, List.nil_append, List.append_nil, List.length_cons, List.length_nil, Nat.zero_add, Nat.reduceAdd, Nat.reduceSub]
      exact z_if (t := false) (by (simp (disch := first | decide | assumption | omega) only [startE, List.map_cons, List.map_nil, List.replicate, eVar, eC, PT.e1, PT.e2, aNil, aCons, eCall, tupR, lstR, eTup, eLst, eIte, eLenO, eIxO, cT, cAnd, cOr, cNot, andV, orV, notD, truR, truD, bindR, bindRB, bindRL, bindL, bindB, bindBB, bindLL, toD, okD, okI, okB, itA, itD, items_tup, items_lst, items_scr, len_tup, len_lst, len_scr, List.getElem?_cons_zero, List.getElem?_cons_succ, List.length_cons, List.length_nil, List.length_map, List.cons_append, List.nil_append, List.append_nil, Nat.zero_add, Nat.reduceAdd, Nat.reduceSub, Nat.reduceLeDiff, if_true, if_false, ite_true, ite_false, Bool.false_eq_true, reduceIte, Bool.not_true, Bool.not_false, Int.reducePow, Int.reduceToNat, Int.reduceMul, Int.reduceAdd, Int.reduceSub, addD, subD, negD, ltR, leR, gtR, geR, eqR_int, neR_int, eqR_bl, neR_bl, absR, max2R, min2R, intR, mulRi, divRi, powRi, modR, absI, len_fr, len_tb, isiT_fr, isiT_tb, isiI_int, isiB_int, isiB_bl, isiL_lst, isiT_tup, items_tb, items_fr, zip_tb, all4, addD_tup2, addD_lst2, eLc, lcL, cYes, wipeE, gN, gTup_tup, gTup_tb, gTup_fr, gLs_lst, gCons, gNil, tuple_lst, List.set_cons_zero, List.set_cons_succ, List.set_nil, ix_fr0, ix_fr1, ix_tb0, ix_tb1, ix_tb2, ix_tb3, eqR_fr, neR_fr, eqR_tb, neR_tb, nf]; try rfl)) (fun z => by cases z) fun _ => hK _ ⟨_, rfl⟩
    rintro ρ ⟨x13, rfl⟩
    -- the figures told
    have nm := figV_num (m := 300) hp fh fg g0 (show hs.length ≤ 101 by omega) (show (g :: gs').length ≤ 101 by omega) hf
    have dm := figV_den (hs := hs) (m := 300) hp g0 hf
    generalize figV p f hs (g :: gs') = a at *
    have d0 := den_ne a
    have po := ev__law_power hp d0
    have up := ev__law_up (k := vp p (a.den : Int)) hp.bd (by omega)
    have pd := hp.pow_pos (vp p (a.den : Int))
    have bpd : B 901 (p ^ vp p (a.den : Int)) := (hp.pow_bd _).mono (by omega)
    have dv : fdivD (.int (a.den : Int)) (.int (p ^ vp p (a.den : Int))) = okI ((a.den : Int) / p ^ vp p (a.den : Int)) := divR pd bpd (by decide)
    have x1 : ixR (fr a) (.int 1) = okD (.int (a.den : Int)) := rfl
    refine z_if (t := decide ((a.den : Int) / p ^ vp p (a.den : Int) < 301)) (by (simp (disch := first | decide | assumption | omega) only [startE, List.map_cons, List.map_nil, List.replicate, eVar, eC, PT.e1, PT.e2, aNil, aCons, eCall, tupR, lstR, eTup, eLst, eIte, eLenO, eIxO, cT, cAnd, cOr, cNot, andV, orV, notD, truR, truD, bindR, bindRB, bindRL, bindL, bindB, bindBB, bindLL, toD, okD, okI, okB, itA, itD, items_tup, items_lst, items_scr, len_tup, len_lst, len_scr, List.getElem?_cons_zero, List.getElem?_cons_succ, List.length_cons, List.length_nil, List.length_map, List.cons_append, List.nil_append, List.append_nil, Nat.zero_add, Nat.reduceAdd, Nat.reduceSub, Nat.reduceLeDiff, if_true, if_false, ite_true, ite_false, Bool.false_eq_true, reduceIte, Bool.not_true, Bool.not_false, Int.reducePow, Int.reduceToNat, Int.reduceMul, Int.reduceAdd, Int.reduceSub, addD, subD, negD, ltR, leR, gtR, geR, eqR_int, neR_int, eqR_bl, neR_bl, absR, max2R, min2R, intR, mulRi, divRi, powRi, modR, absI, len_fr, len_tb, isiT_fr, isiT_tb, isiI_int, isiB_int, isiB_bl, isiL_lst, isiT_tup, items_tb, items_fr, zip_tb, all4, addD_tup2, addD_lst2, eLc, lcL, cYes, wipeE, gN, gTup_tup, gTup_tb, gTup_fr, gLs_lst, gCons, gNil, tuple_lst, List.set_cons_zero, List.set_cons_succ, List.set_nil, ix_fr0, ix_fr1, ix_tb0, ix_tb1, ix_tb2, ix_tb3, eqR_fr, neR_fr, eqR_tb, neR_tb, x1, po, up, dv]; try rfl)) (fun ht => ?_) fun _ => hK _ ⟨_, _, _, _, _, _, _, _, _, _, _, _, _, _, rfl⟩
    have hb3 := of_decide_eq_true ht
    obtain ⟨_, ⟨hs2, gs2, rfl, f1, f2, l1, l2, ev⟩, fe⟩ := ev_figures (K := 503) hp qv (by decide) nm (by decide) (by omega)
    have by4 := ev_by_figures (first := -(vp p (a.den : Int) : Int)) (hs := hs2) (gs := gs2) (n := 804) (m := 300) hp f1 f2 l1 (by omega) (by omega) (by decide) (by omega) (by decide)
    rw [ev] at by4
    have t0 : ∀ x y z : D, ixR (.tup [x, y, z]) (.int 0) = okD x := fun _ _ _ => rfl
    have t1 : ∀ x y z : D, ixR (.tup [x, y, z]) (.int 1) = okD y := fun _ _ _ => rfl
    have t2 : ∀ x y z : D, ixR (.tup [x, y, z]) (.int 2) = okD z := fun _ _ _ => rfl
    refine q_set (v := .tup [.int (-(vp p (a.den : Int) : Int)), .lst (hs2.map D.int), .lst (gs2.map D.int)]) (by (simp (disch := first | decide | assumption | omega) only [startE, List.map_cons, List.map_nil, List.replicate, eVar, eC, PT.e1, PT.e2, aNil, aCons, eCall, tupR, lstR, eTup, eLst, eIte, eLenO, eIxO, cT, cAnd, cOr, cNot, andV, orV, notD, truR, truD, bindR, bindRB, bindRL, bindL, bindB, bindBB, bindLL, toD, okD, okI, okB, itA, itD, items_tup, items_lst, items_scr, len_tup, len_lst, len_scr, List.getElem?_cons_zero, List.getElem?_cons_succ, List.length_cons, List.length_nil, List.length_map, List.cons_append, List.nil_append, List.append_nil, Nat.zero_add, Nat.reduceAdd, Nat.reduceSub, Nat.reduceLeDiff, if_true, if_false, ite_true, ite_false, Bool.false_eq_true, reduceIte, Bool.not_true, Bool.not_false, Int.reducePow, Int.reduceToNat, Int.reduceMul, Int.reduceAdd, Int.reduceSub, addD, subD, negD, ltR, leR, gtR, geR, eqR_int, neR_int, eqR_bl, neR_bl, absR, max2R, min2R, intR, mulRi, divRi, powRi, modR, absI, len_fr, len_tb, isiT_fr, isiT_tb, isiI_int, isiB_int, isiB_bl, isiL_lst, isiT_tup, items_tb, items_fr, zip_tb, all4, addD_tup2, addD_lst2, eLc, lcL, cYes, wipeE, gN, gTup_tup, gTup_tb, gTup_fr, gLs_lst, gCons, gNil, tuple_lst, List.set_cons_zero, List.set_cons_succ, List.set_nil, ix_fr0, ix_fr1, ix_tb0, ix_tb1, ix_tb2, ix_tb3, eqR_fr, neR_fr, eqR_tb, neR_tb, fe]; try rfl)) ?_
    try simp only [List.set_cons_zero, List.set_cons_succ, startE, List.map_cons, List.map_nil, List.replicate, List.cons_append, List.nil_append, List.append_nil, List.length_cons, List.length_nil, Nat.zero_add, Nat.reduceAdd, Nat.reduceSub]
    exact z_if (t := false) (by (simp (disch := first | decide | assumption | omega) only [startE, List.map_cons, List.map_nil, List.replicate, eVar, eC, PT.e1, PT.e2, aNil, aCons, eCall, tupR, lstR, eTup, eLst, eIte, eLenO, eIxO, cT, cAnd, cOr, cNot, andV, orV, notD, truR, truD, bindR, bindRB, bindRL, bindL, bindB, bindBB, bindLL, toD, okD, okI, okB, itA, itD, items_tup, items_lst, items_scr, len_tup, len_lst, len_scr, List.getElem?_cons_zero, List.getElem?_cons_succ, List.length_cons, List.length_nil, List.length_map, List.cons_append, List.nil_append, List.append_nil, Nat.zero_add, Nat.reduceAdd, Nat.reduceSub, Nat.reduceLeDiff, if_true, if_false, ite_true, ite_false, Bool.false_eq_true, reduceIte, Bool.not_true, Bool.not_false, Int.reducePow, Int.reduceToNat, Int.reduceMul, Int.reduceAdd, Int.reduceSub, addD, subD, negD, ltR, leR, gtR, geR, eqR_int, neR_int, eqR_bl, neR_bl, absR, max2R, min2R, intR, mulRi, divRi, powRi, modR, absI, len_fr, len_tb, isiT_fr, isiT_tb, isiI_int, isiB_int, isiB_bl, isiL_lst, isiT_tup, items_tb, items_fr, zip_tb, all4, addD_tup2, addD_lst2, eLc, lcL, cYes, wipeE, gN, gTup_tup, gTup_tb, gTup_fr, gLs_lst, gCons, gNil, tuple_lst, List.set_cons_zero, List.set_cons_succ, List.set_nil, ix_fr0, ix_fr1, ix_tb0, ix_tb1, ix_tb2, ix_tb3, eqR_fr, neR_fr, eqR_tb, neR_tb, t0, t1, t2, by4, nf]; try rfl)) (fun z => by cases z) fun _ => hK _ ⟨_, _, _, _, _, _, _, _, _, _, _, _, _, _, rfl⟩
end PT
namespace PL
open PySem PySem.Spec PyProof.Rows L2 PT
/-! ### the text -/
def top (i : Nat) : Stmt := PySem.Challenge.pw_primetree_k65_fractions_by_figures.main.body.getD i (.Pass ⟨0, 0, 0, 0⟩)
abbrev s_shared : Stmt := top 5
abbrev s_power_of : Stmt := top 6
abbrev s_raised : Stmt := top 7
abbrev s_over_by : Stmt := top 8
abbrev s_fraction : Stmt := top 10
abbrev s_plus : Stmt := top 11
abbrev s_times : Stmt := top 12
abbrev s_prime_power : Stmt := top 13
abbrev s_figures : Stmt := top 16
abbrev s_worth : Stmt := top 17
abbrev s_by_figures : Stmt := top 18
abbrev s__law_up : Stmt := top 20
abbrev s__law_drawn : Stmt := top 21
abbrev s__law_whole : Stmt := top 22
abbrev s__law_divisor : Stmt := top 23
abbrev s__law_lowest : Stmt := top 24
abbrev s__law_is_fraction : Stmt := top 25
abbrev s__law_prime : Stmt := top 26
abbrev s__law_power : Stmt := top 27
abbrev s__law_sum : Stmt := top 28
abbrev s__law_product : Stmt := top 29
abbrev s__law_pp : Stmt := top 30
abbrev s__law_worth : Stmt := top 31
abbrev s__law_value : Stmt := top 32
abbrev s__law_drawn_figures : Stmt := top 33
abbrev s_law : Stmt := top 34
theorem sc_shared : FnScope ["one", "other"] ["one", "other"] (defScope s_shared) := ⟨rfl, rfl, rfl, by decide +kernel, rfl, by decide +kernel, by decide +kernel⟩
theorem sc_power_of : FnScope ["p", "n", "power"] ["p", "n"] (defScope s_power_of) := ⟨rfl, rfl, rfl, by decide +kernel, rfl, by decide +kernel, by decide +kernel⟩
theorem sc_raised : FnScope ["number", "k", "found"] ["number", "k"] (defScope s_raised) := ⟨rfl, rfl, rfl, by decide +kernel, rfl, by decide +kernel, by decide +kernel⟩
theorem sc_over_by : FnScope ["p", "n", "k", "found", "sure"] ["p", "n", "k"] (defScope s_over_by) := ⟨rfl, rfl, rfl, by decide +kernel, rfl, by decide +kernel, by decide +kernel⟩
theorem sc_fraction : FnScope ["top", "bottom", "by"] ["top", "bottom"] (defScope s_fraction) := ⟨rfl, rfl, rfl, by decide +kernel, rfl, by decide +kernel, by decide +kernel⟩
theorem sc_plus : FnScope ["a", "b"] ["a", "b"] (defScope s_plus) := ⟨rfl, rfl, rfl, by decide +kernel, rfl, by decide +kernel, by decide +kernel⟩
theorem sc_times : FnScope ["a", "b"] ["a", "b"] (defScope s_times) := ⟨rfl, rfl, rfl, by decide +kernel, rfl, by decide +kernel, by decide +kernel⟩
theorem sc_prime_power : FnScope ["p", "k"] ["p", "k"] (defScope s_prime_power) := ⟨rfl, rfl, rfl, by decide +kernel, rfl, by decide +kernel, by decide +kernel⟩
theorem sc_figures : FnScope ["p", "a", "top", "bottom", "deep", "by", "met", "found", "figure"] ["p", "a"] (defScope s_figures) := ⟨rfl, rfl, rfl, by decide +kernel, rfl, by decide +kernel, by decide +kernel⟩
theorem sc_worth : FnScope ["p", "some", "total", "figure"] ["p", "some"] (defScope s_worth) := ⟨rfl, rfl, rfl, by decide +kernel, rfl, by decide +kernel, by decide +kernel⟩
theorem sc_by_figures : FnScope ["p", "first", "head", "again", "behind", "whole"] ["p", "first", "head", "again"] (defScope s_by_figures) := ⟨rfl, rfl, rfl, by decide +kernel, rfl, by decide +kernel, by decide +kernel⟩
theorem sc__law_up : FnScope ["_law_p", "_law_k", "_law_found"] ["_law_p", "_law_k"] (defScope s__law_up) := ⟨rfl, rfl, rfl, by decide +kernel, rfl, by decide +kernel, by decide +kernel⟩
theorem sc__law_drawn : FnScope ["_law_script", "_law_k", "_law_cell", "_law_small"] ["_law_script", "_law_k"] (defScope s__law_drawn) := ⟨rfl, rfl, rfl, by decide +kernel, rfl, by decide +kernel, by decide +kernel⟩
theorem sc__law_whole : FnScope ["_law_found"] ["_law_found"] (defScope s__law_whole) := ⟨rfl, rfl, rfl, by decide +kernel, rfl, by decide +kernel, by decide +kernel⟩
theorem sc__law_divisor : FnScope ["_law_one", "_law_other", "_law_rest"] ["_law_one", "_law_other"] (defScope s__law_divisor) := ⟨rfl, rfl, rfl, by decide +kernel, rfl, by decide +kernel, by decide +kernel⟩
theorem sc__law_lowest : FnScope ["_law_top", "_law_bottom", "_law_by"] ["_law_top", "_law_bottom"] (defScope s__law_lowest) := ⟨rfl, rfl, rfl, by decide +kernel, rfl, by decide +kernel, by decide +kernel⟩
theorem sc__law_is_fraction : FnScope ["_law_found"] ["_law_found"] (defScope s__law_is_fraction) := ⟨rfl, rfl, rfl, by decide +kernel, rfl, by decide +kernel, by decide +kernel⟩
theorem sc__law_prime : FnScope ["_law_number"] ["_law_number"] (defScope s__law_prime) := ⟨rfl, rfl, rfl, by decide +kernel, rfl, by decide +kernel, by decide +kernel⟩
theorem sc__law_power : FnScope ["_law_p", "_law_number", "_law_power_here"] ["_law_p", "_law_number"] (defScope s__law_power) := ⟨rfl, rfl, rfl, by decide +kernel, rfl, by decide +kernel, by decide +kernel⟩
theorem sc__law_sum : FnScope ["_law_a", "_law_b"] ["_law_a", "_law_b"] (defScope s__law_sum) := ⟨rfl, rfl, rfl, by decide +kernel, rfl, by decide +kernel, by decide +kernel⟩
theorem sc__law_product : FnScope ["_law_a", "_law_b"] ["_law_a", "_law_b"] (defScope s__law_product) := ⟨rfl, rfl, rfl, by decide +kernel, rfl, by decide +kernel, by decide +kernel⟩
theorem sc__law_pp : FnScope ["_law_p", "_law_k"] ["_law_p", "_law_k"] (defScope s__law_pp) := ⟨rfl, rfl, rfl, by decide +kernel, rfl, by decide +kernel, by decide +kernel⟩
theorem sc__law_worth : FnScope ["_law_p", "_law_some", "_law_total", "_law_k"] ["_law_p", "_law_some"] (defScope s__law_worth) := ⟨rfl, rfl, rfl, by decide +kernel, rfl, by decide +kernel, by decide +kernel⟩
theorem sc__law_value : FnScope ["_law_p", "_law_first", "_law_head", "_law_again", "_law_behind"] ["_law_p", "_law_first", "_law_head", "_law_again"] (defScope s__law_value) := ⟨rfl, rfl, rfl, by decide +kernel, rfl, by decide +kernel, by decide +kernel⟩
theorem sc__law_drawn_figures : FnScope ["_law_p", "_law_number", "_law_many", "_law_found", "_law_k"] ["_law_p", "_law_number", "_law_many"] (defScope s__law_drawn_figures) := ⟨rfl, rfl, rfl, by decide +kernel, rfl, by decide +kernel, by decide +kernel⟩
theorem sc_law : FnScope ["_law_script", "_law_at", "_law_number", "_law_p", "_law_first", "_law_more", "_law_sizes", "_law_great", "_law_head", "_law_again", "_law_due", "_law_handed", "_law_found", "_law_turned", "_law_told"] ["_law_script"] (defScope s_law) := ⟨rfl, rfl, rfl, by decide +kernel, rfl, by decide +kernel, by decide +kernel⟩
structure Gf (K : PySem.W.Frag) (mg : Str → Option Value) : Prop where
  d_shared : ∃ fd, FunD K "shared" "shared" (defArgs s_shared) (defBody s_shared) (defScope s_shared) [] [] (He.ga K "shared") fd
  m_shared : mg "shared" = some (.ref (He.ga K "shared"))
  d_power_of : ∃ fd, FunD K "power_of" "power_of" (defArgs s_power_of) (defBody s_power_of) (defScope s_power_of) [] [] (He.ga K "power_of") fd
  m_power_of : mg "power_of" = some (.ref (He.ga K "power_of"))
  d_raised : ∃ fd, FunD K "raised" "raised" (defArgs s_raised) (defBody s_raised) (defScope s_raised) [] [] (He.ga K "raised") fd
  m_raised : mg "raised" = some (.ref (He.ga K "raised"))
  d_over_by : ∃ fd, FunD K "over_by" "over_by" (defArgs s_over_by) (defBody s_over_by) (defScope s_over_by) [] [] (He.ga K "over_by") fd
  m_over_by : mg "over_by" = some (.ref (He.ga K "over_by"))
  d_fraction : ∃ fd, FunD K "fraction" "fraction" (defArgs s_fraction) (defBody s_fraction) (defScope s_fraction) [V.int 1] [] (He.ga K "fraction") fd
  m_fraction : mg "fraction" = some (.ref (He.ga K "fraction"))
  d_plus : ∃ fd, FunD K "plus" "plus" (defArgs s_plus) (defBody s_plus) (defScope s_plus) [] [] (He.ga K "plus") fd
  m_plus : mg "plus" = some (.ref (He.ga K "plus"))
  d_times : ∃ fd, FunD K "times" "times" (defArgs s_times) (defBody s_times) (defScope s_times) [] [] (He.ga K "times") fd
  m_times : mg "times" = some (.ref (He.ga K "times"))
  d_prime_power : ∃ fd, FunD K "prime_power" "prime_power" (defArgs s_prime_power) (defBody s_prime_power) (defScope s_prime_power) [] [] (He.ga K "prime_power") fd
  m_prime_power : mg "prime_power" = some (.ref (He.ga K "prime_power"))
  d_figures : ∃ fd, FunD K "figures" "figures" (defArgs s_figures) (defBody s_figures) (defScope s_figures) [] [] (He.ga K "figures") fd
  m_figures : mg "figures" = some (.ref (He.ga K "figures"))
  d_worth : ∃ fd, FunD K "worth" "worth" (defArgs s_worth) (defBody s_worth) (defScope s_worth) [] [] (He.ga K "worth") fd
  m_worth : mg "worth" = some (.ref (He.ga K "worth"))
  d_by_figures : ∃ fd, FunD K "by_figures" "by_figures" (defArgs s_by_figures) (defBody s_by_figures) (defScope s_by_figures) [] [] (He.ga K "by_figures") fd
  m_by_figures : mg "by_figures" = some (.ref (He.ga K "by_figures"))
  d__law_up : ∃ fd, FunD K "_law_up" "_law_up" (defArgs s__law_up) (defBody s__law_up) (defScope s__law_up) [] [] (He.ga K "_law_up") fd
  m__law_up : mg "_law_up" = some (.ref (He.ga K "_law_up"))
  d__law_drawn : ∃ fd, FunD K "_law_drawn" "_law_drawn" (defArgs s__law_drawn) (defBody s__law_drawn) (defScope s__law_drawn) [] [] (He.ga K "_law_drawn") fd
  m__law_drawn : mg "_law_drawn" = some (.ref (He.ga K "_law_drawn"))
  d__law_whole : ∃ fd, FunD K "_law_whole" "_law_whole" (defArgs s__law_whole) (defBody s__law_whole) (defScope s__law_whole) [] [] (He.ga K "_law_whole") fd
  m__law_whole : mg "_law_whole" = some (.ref (He.ga K "_law_whole"))
  d__law_divisor : ∃ fd, FunD K "_law_divisor" "_law_divisor" (defArgs s__law_divisor) (defBody s__law_divisor) (defScope s__law_divisor) [] [] (He.ga K "_law_divisor") fd
  m__law_divisor : mg "_law_divisor" = some (.ref (He.ga K "_law_divisor"))
  d__law_lowest : ∃ fd, FunD K "_law_lowest" "_law_lowest" (defArgs s__law_lowest) (defBody s__law_lowest) (defScope s__law_lowest) [] [] (He.ga K "_law_lowest") fd
  m__law_lowest : mg "_law_lowest" = some (.ref (He.ga K "_law_lowest"))
  d__law_is_fraction : ∃ fd, FunD K "_law_is_fraction" "_law_is_fraction" (defArgs s__law_is_fraction) (defBody s__law_is_fraction) (defScope s__law_is_fraction) [] [] (He.ga K "_law_is_fraction") fd
  m__law_is_fraction : mg "_law_is_fraction" = some (.ref (He.ga K "_law_is_fraction"))
  d__law_prime : ∃ fd, FunD K "_law_prime" "_law_prime" (defArgs s__law_prime) (defBody s__law_prime) (defScope s__law_prime) [] [] (He.ga K "_law_prime") fd
  m__law_prime : mg "_law_prime" = some (.ref (He.ga K "_law_prime"))
  d__law_power : ∃ fd, FunD K "_law_power" "_law_power" (defArgs s__law_power) (defBody s__law_power) (defScope s__law_power) [] [] (He.ga K "_law_power") fd
  m__law_power : mg "_law_power" = some (.ref (He.ga K "_law_power"))
  d__law_sum : ∃ fd, FunD K "_law_sum" "_law_sum" (defArgs s__law_sum) (defBody s__law_sum) (defScope s__law_sum) [] [] (He.ga K "_law_sum") fd
  m__law_sum : mg "_law_sum" = some (.ref (He.ga K "_law_sum"))
  d__law_product : ∃ fd, FunD K "_law_product" "_law_product" (defArgs s__law_product) (defBody s__law_product) (defScope s__law_product) [] [] (He.ga K "_law_product") fd
  m__law_product : mg "_law_product" = some (.ref (He.ga K "_law_product"))
  d__law_pp : ∃ fd, FunD K "_law_pp" "_law_pp" (defArgs s__law_pp) (defBody s__law_pp) (defScope s__law_pp) [] [] (He.ga K "_law_pp") fd
  m__law_pp : mg "_law_pp" = some (.ref (He.ga K "_law_pp"))
  d__law_worth : ∃ fd, FunD K "_law_worth" "_law_worth" (defArgs s__law_worth) (defBody s__law_worth) (defScope s__law_worth) [] [] (He.ga K "_law_worth") fd
  m__law_worth : mg "_law_worth" = some (.ref (He.ga K "_law_worth"))
  d__law_value : ∃ fd, FunD K "_law_value" "_law_value" (defArgs s__law_value) (defBody s__law_value) (defScope s__law_value) [] [] (He.ga K "_law_value") fd
  m__law_value : mg "_law_value" = some (.ref (He.ga K "_law_value"))
  d__law_drawn_figures : ∃ fd, FunD K "_law_drawn_figures" "_law_drawn_figures" (defArgs s__law_drawn_figures) (defBody s__law_drawn_figures) (defScope s__law_drawn_figures) [] [] (He.ga K "_law_drawn_figures") fd
  m__law_drawn_figures : mg "_law_drawn_figures" = some (.ref (He.ga K "_law_drawn_figures"))
  d_law : ∃ fd, FunD K "law" "law" (defArgs s_law) (defBody s_law) (defScope s_law) [] [] (He.ga K "law") fd
  m_law : mg "law" = some (.ref (He.ga K "law"))
  n_abs : mg "abs" = none
  n_bool : mg "bool" = none
  n_int : mg "int" = none
  n_isinstance : mg "isinstance" = none
  n_len : mg "len" = none
  n_list : mg "list" = none
  n_max : mg "max" = none
  n_min : mg "min" = none
  n_range : mg "range" = none
  n_reversed : mg "reversed" = none
  n_tuple : mg "tuple" = none
  k_MOST_BOTTOM : GC K mg "MOST_BOTTOM" k_MOST_BOTTOM
  x_NoFraction : XF K mg "NoFraction"
  x_TooMany : XF K mg "TooMany"
section
variable {P : Program} {w : World} {K : PySem.W.Frag} {mg : Str → Option Value} {base : Heap}
theorem ok_shared (g : Gf K mg)  : FnOk P w K mg base (L2.CX P w) 1 (He.ga K "shared") (g.d_shared.choose) ["one", "other"] (spF K mg f_shared) := by
  refine def_ok g.d_shared.choose_spec sc_shared (fun cdv A outer s H F0 E X hX hr ft => ?_) len_shared does_shared
  subst hX
  have sc := sc_shared
  exact s_cons (s_set (i := 0) (x_blt ft b_abs (by rfl) g.n_abs bt_abs (x_cons (h1 := x_var 0) (x_nil))) sc.nd) (s_cons (s_set (i := 1) (x_blt ft b_abs (by rfl) g.n_abs bt_abs (x_cons (h1 := x_var 1) (x_nil))) sc.nd) (s_cons (s_while ft (x_tcmp (bin_ne ft hr.units) bl_ne (x_var 1) (x_int) (nomark _)) (s_one (s_par (i := 0) (j := 1) ft sc.nd (by decide) (x_cons (h1 := x_var 1) (x_cons (h1 := x_bin bin_mod (x_var 0) (x_var 1)) (x_nil)))))) (s_one (s_ret (x_var 0)))))
theorem cal_shared (g : Gf K mg) (G : FnOk P w K mg base (L2.CX P w) 1 (He.ga K "shared") (g.d_shared.choose) ["one", "other"] (spF K mg f_shared)) : Cal P w K mg base "shared" 1 [] f_shared :=
  ⟨_, _, _, [], [], G, g.m_shared, g.d_shared.choose_spec.kp, g.d_shared.choose_spec.bindsN (fun _ _ _ _ _ _ us hl => match us, hl with | [_, _], _ => rfl), .nil, fun _ => .nil⟩
theorem ok_power_of (g : Gf K mg)  : FnOk P w K mg base (L2.CX P w) 1 (He.ga K "power_of") (g.d_power_of.choose) ["p", "n"] (spF K mg f_power_of) := by
  refine def_ok g.d_power_of.choose_spec sc_power_of (fun cdv A outer s H F0 E X hX hr ft => ?_) len_power_of does_power_of
  subst hX
  have sc := sc_power_of
  exact s_cons (s_if (x_tcmp (bin_eq ft hr.units) bl_eq (x_var 1) (x_int) (nomark _)) (s_one (s_ret (x_non))) (s_nil)) (s_cons (s_set (i := 2) (x_int) sc.nd) (s_cons (s_while ft (x_tcmp (bin_eq ft hr.units) bl_eq (x_bin bin_mod (x_var 1) (x_var 0)) (x_int) (nomark _)) (s_cons (s_set (i := 1) (x_bin bin_fdiv (x_var 1) (x_var 0)) sc.nd) (s_one (s_set (i := 2) (x_bin (bin_add ft) (x_var 2) (x_int)) sc.nd)))) (s_one (s_ret (x_var 2)))))
theorem cal_power_of (g : Gf K mg) (G : FnOk P w K mg base (L2.CX P w) 1 (He.ga K "power_of") (g.d_power_of.choose) ["p", "n"] (spF K mg f_power_of)) : Cal P w K mg base "power_of" 1 [] f_power_of :=
  ⟨_, _, _, [], [], G, g.m_power_of, g.d_power_of.choose_spec.kp, g.d_power_of.choose_spec.bindsN (fun _ _ _ _ _ _ us hl => match us, hl with | [_, _], _ => rfl), .nil, fun _ => .nil⟩
theorem ok_raised (g : Gf K mg)  : FnOk P w K mg base (L2.CX P w) 1 (He.ga K "raised") (g.d_raised.choose) ["number", "k"] (spF K mg f_raised) := by
  refine def_ok g.d_raised.choose_spec sc_raised (fun cdv A outer s H F0 E X hX hr ft => ?_) len_raised does_raised
  subst hX
  have sc := sc_raised
  exact s_cons (s_set (i := 2) (x_int) sc.nd) (s_cons (s_while ft (x_tcmp bin_gt bl_gt (x_var 1) (x_int) (nomark _)) (s_cons (s_if (x_tcmp (bin_eq ft hr.units) bl_eq (x_bin bin_mod (x_var 1) (x_int)) (x_int) (nomark _)) (s_one (s_set (i := 2) (x_bin bin_mul (x_var 2) (x_var 0)) sc.nd)) (s_nil)) (s_cons (s_set (i := 0) (x_bin bin_mul (x_var 0) (x_var 0)) sc.nd) (s_one (s_set (i := 1) (x_bin bin_fdiv (x_var 1) (x_int)) sc.nd))))) (s_one (s_ret (x_var 2))))
theorem cal_raised (g : Gf K mg) (G : FnOk P w K mg base (L2.CX P w) 1 (He.ga K "raised") (g.d_raised.choose) ["number", "k"] (spF K mg f_raised)) : Cal P w K mg base "raised" 1 [] f_raised :=
  ⟨_, _, _, [], [], G, g.m_raised, g.d_raised.choose_spec.kp, g.d_raised.choose_spec.bindsN (fun _ _ _ _ _ _ us hl => match us, hl with | [_, _], _ => rfl), .nil, fun _ => .nil⟩
theorem ok_worth (g : Gf K mg)  : FnOk P w K mg base (L2.CX P w) 1 (He.ga K "worth") (g.d_worth.choose) ["p", "some"] (spF K mg f_worth) := by
  refine def_ok g.d_worth.choose_spec sc_worth (fun cdv A outer s H F0 E X hX hr ft => ?_) len_worth does_worth
  subst hX
  have sc := sc_worth
  exact s_cons (s_set (i := 2) (x_int) sc.nd) (s_cons (s_for ft (i_rev ft g.n_reversed (x_cons (h1 := x_var 1) (x_nil))) (g_name (i := 3) sc.nd) (s_one (s_set (i := 2) (x_bin (bin_add ft) (x_bin bin_mul (x_var 2) (x_var 0)) (x_var 3)) sc.nd))) (s_one (s_ret (x_var 2))))
theorem cal_worth (g : Gf K mg) (G : FnOk P w K mg base (L2.CX P w) 1 (He.ga K "worth") (g.d_worth.choose) ["p", "some"] (spF K mg f_worth)) : Cal P w K mg base "worth" 1 [] f_worth :=
  ⟨_, _, _, [], [], G, g.m_worth, g.d_worth.choose_spec.kp, g.d_worth.choose_spec.bindsN (fun _ _ _ _ _ _ us hl => match us, hl with | [_, _], _ => rfl), .nil, fun _ => .nil⟩
theorem ok__law_up (g : Gf K mg)  : FnOk P w K mg base (L2.CX P w) 1 (He.ga K "_law_up") (g.d__law_up.choose) ["_law_p", "_law_k"] (spF K mg f__law_up) := by
  refine def_ok g.d__law_up.choose_spec sc__law_up (fun cdv A outer s H F0 E X hX hr ft => ?_) len__law_up does__law_up
  subst hX
  have sc := sc__law_up
  exact s_cons (s_set (i := 2) (x_int) sc.nd) (s_cons (s_while ft (x_tcmp bin_gt bl_gt (x_var 1) (x_int) (nomark _)) (s_cons (s_if (x_tcmp (bin_eq ft hr.units) bl_eq (x_bin bin_mod (x_var 1) (x_int)) (x_int) (nomark _)) (s_one (s_set (i := 2) (x_bin bin_mul (x_var 2) (x_var 0)) sc.nd)) (s_nil)) (s_cons (s_set (i := 0) (x_bin bin_mul (x_var 0) (x_var 0)) sc.nd) (s_one (s_set (i := 1) (x_bin bin_fdiv (x_var 1) (x_int)) sc.nd))))) (s_one (s_ret (x_var 2))))
theorem cal__law_up (g : Gf K mg) (G : FnOk P w K mg base (L2.CX P w) 1 (He.ga K "_law_up") (g.d__law_up.choose) ["_law_p", "_law_k"] (spF K mg f__law_up)) : Cal P w K mg base "_law_up" 1 [] f__law_up :=
  ⟨_, _, _, [], [], G, g.m__law_up, g.d__law_up.choose_spec.kp, g.d__law_up.choose_spec.bindsN (fun _ _ _ _ _ _ us hl => match us, hl with | [_, _], _ => rfl), .nil, fun _ => .nil⟩
theorem ok__law_drawn (g : Gf K mg)  : FnOk P w K mg base (L2.CX P w) 1 (He.ga K "_law_drawn") (g.d__law_drawn.choose) ["_law_script", "_law_k"] (spF K mg f__law_drawn) := by
  refine def_ok g.d__law_drawn.choose_spec sc__law_drawn (fun cdv A outer s H F0 E X hX hr ft => ?_) len__law_drawn does__law_drawn
  subst hX
  have sc := sc__law_drawn
  exact s_cons (s_set (i := 2) (x_int) sc.nd) (s_cons (s_if (x_tcmp bin_lt bl_lt (x_var 1) (x_blt ft (b_len ft) (by rfl) g.n_len bt_len (x_cons (h1 := x_var 0) (x_nil))) (nomark _)) (s_one (s_set (i := 2) (x_bin bin_mod (x_ix ft (x_var 0) (x_var 1)) (x_bin bin_pow (x_int) (x_int))) sc.nd)) (s_nil)) (s_cons (s_if ((x_and (x_tcmp bin_gt bl_gt (x_blt ft (b_len ft) (by rfl) g.n_len bt_len (x_cons (h1 := x_var 0) (x_nil))) (x_int) (nomark _)) (x_and1 (x_tcmp (bin_eq ft hr.units) bl_eq (x_bin bin_mod (x_ix ft (x_var 0) (x_int)) (x_int)) (x_int) (nomark _)))).pt) (s_one (s_ret (x_bin bin_fdiv (x_var 2) (x_bin (bin_add ft) (x_int) (x_bty ft b_int (by rfl) g.n_int bt_int (x_cons (h1 := x_cmp (bin_eq ft hr.units) (x_var 1) (x_int) (nomark _)) (x_nil))))))) (s_nil)) (s_cons (s_set (i := 3) (x_bin bin_mod (x_bin bin_mul (x_bin bin_mod (x_bin bin_mul (x_bin (bin_add ft) (x_bin (bin_add ft) (x_var 2) (x_bin bin_mul (x_int) (x_var 1))) (x_int)) (x_int)) (x_int)) (x_int)) (x_int)) sc.nd) (s_one (s_ret (x_bin (bin_add ft) (x_bin bin_mul (x_var 2) (x_int)) (x_var 3)))))))
theorem cal__law_drawn (g : Gf K mg) (G : FnOk P w K mg base (L2.CX P w) 1 (He.ga K "_law_drawn") (g.d__law_drawn.choose) ["_law_script", "_law_k"] (spF K mg f__law_drawn)) : Cal P w K mg base "_law_drawn" 1 [] f__law_drawn :=
  ⟨_, _, _, [], [], G, g.m__law_drawn, g.d__law_drawn.choose_spec.kp, g.d__law_drawn.choose_spec.bindsN (fun _ _ _ _ _ _ us hl => match us, hl with | [_, _], _ => rfl), .nil, fun _ => .nil⟩
theorem ok__law_whole (g : Gf K mg)  : FnOk P w K mg base (L2.CX P w) 1 (He.ga K "_law_whole") (g.d__law_whole.choose) ["_law_found"] (spF K mg f__law_whole) := by
  refine def_ok g.d__law_whole.choose_spec sc__law_whole (fun cdv A outer s H F0 E X hX hr ft => ?_) len__law_whole does__law_whole
  subst hX
  have sc := sc__law_whole
  exact s_one (s_ret (x_andV (x_blt ft (b_isi ft) (by rfl) g.n_isinstance bt_isinstance (x_cons (h1 := x_var 0) (x_cons (h1 := x_ty ft (by rfl) g.n_int bt_int) (x_nil)))) (x_one (x_notV (x_blt ft (b_isi ft) (by rfl) g.n_isinstance bt_isinstance (x_cons (h1 := x_var 0) (x_cons (h1 := x_ty ft (by rfl) g.n_bool bt_bool) (x_nil))))))))
theorem cal__law_whole (g : Gf K mg) (G : FnOk P w K mg base (L2.CX P w) 1 (He.ga K "_law_whole") (g.d__law_whole.choose) ["_law_found"] (spF K mg f__law_whole)) : Cal P w K mg base "_law_whole" 1 [] f__law_whole :=
  ⟨_, _, _, [], [], G, g.m__law_whole, g.d__law_whole.choose_spec.kp, g.d__law_whole.choose_spec.bindsN (fun _ _ _ _ _ _ us hl => match us, hl with | [_], _ => rfl), .nil, fun _ => .nil⟩
theorem ok__law_divisor (g : Gf K mg)  : FnOk P w K mg base (L2.CX P w) 1 (He.ga K "_law_divisor") (g.d__law_divisor.choose) ["_law_one", "_law_other"] (spF K mg f__law_divisor) := by
  refine def_ok g.d__law_divisor.choose_spec sc__law_divisor (fun cdv A outer s H F0 E X hX hr ft => ?_) len__law_divisor does__law_divisor
  subst hX
  have sc := sc__law_divisor
  exact s_cons (s_set (i := 0) (x_blt ft b_abs (by rfl) g.n_abs bt_abs (x_cons (h1 := x_var 0) (x_nil))) sc.nd) (s_cons (s_set (i := 1) (x_blt ft b_abs (by rfl) g.n_abs bt_abs (x_cons (h1 := x_var 1) (x_nil))) sc.nd) (s_cons (s_while ft (x_tcmp bin_gt bl_gt (x_var 1) (x_int) (nomark _)) (s_cons (s_set (i := 2) (x_bin bin_mod (x_var 0) (x_var 1)) sc.nd) (s_cons (s_set (i := 0) (x_var 1) sc.nd) (s_one (s_set (i := 1) (x_var 2) sc.nd))))) (s_one (s_ret (x_var 0)))))
theorem cal__law_divisor (g : Gf K mg) (G : FnOk P w K mg base (L2.CX P w) 1 (He.ga K "_law_divisor") (g.d__law_divisor.choose) ["_law_one", "_law_other"] (spF K mg f__law_divisor)) : Cal P w K mg base "_law_divisor" 1 [] f__law_divisor :=
  ⟨_, _, _, [], [], G, g.m__law_divisor, g.d__law_divisor.choose_spec.kp, g.d__law_divisor.choose_spec.bindsN (fun _ _ _ _ _ _ us hl => match us, hl with | [_, _], _ => rfl), .nil, fun _ => .nil⟩
theorem ok__law_prime (g : Gf K mg)  : FnOk P w K mg base (L2.CX P w) 1 (He.ga K "_law_prime") (g.d__law_prime.choose) ["_law_number"] (spF K mg f__law_prime) := by
  refine def_ok g.d__law_prime.choose_spec sc__law_prime (fun cdv A outer s H F0 E X hX hr ft => ?_) len__law_prime does__law_prime
  subst hX
  have sc := sc__law_prime
  exact s_one (s_ret (x_ix ft (x_tup (x_cons (h1 := x_int) (x_cons (h1 := x_int) (x_cons (h1 := x_int) (x_cons (h1 := x_int) (x_nil)))))) (x_bin bin_mod (x_var 0) (x_int))))
theorem cal__law_prime (g : Gf K mg) (G : FnOk P w K mg base (L2.CX P w) 1 (He.ga K "_law_prime") (g.d__law_prime.choose) ["_law_number"] (spF K mg f__law_prime)) : Cal P w K mg base "_law_prime" 1 [] f__law_prime :=
  ⟨_, _, _, [], [], G, g.m__law_prime, g.d__law_prime.choose_spec.kp, g.d__law_prime.choose_spec.bindsN (fun _ _ _ _ _ _ us hl => match us, hl with | [_], _ => rfl), .nil, fun _ => .nil⟩
theorem ok__law_power (g : Gf K mg)  : FnOk P w K mg base (L2.CX P w) 1 (He.ga K "_law_power") (g.d__law_power.choose) ["_law_p", "_law_number"] (spF K mg f__law_power) := by
  refine def_ok g.d__law_power.choose_spec sc__law_power (fun cdv A outer s H F0 E X hX hr ft => ?_) len__law_power does__law_power
  subst hX
  have sc := sc__law_power
  exact s_cons (s_set (i := 2) (x_int) sc.nd) (s_cons (s_while ft (x_tcmp (bin_eq ft hr.units) bl_eq (x_bin bin_mod (x_var 1) (x_var 0)) (x_int) (nomark _)) (s_cons (s_set (i := 1) (x_bin bin_fdiv (x_var 1) (x_var 0)) sc.nd) (s_one (s_set (i := 2) (x_bin (bin_add ft) (x_var 2) (x_int)) sc.nd)))) (s_one (s_ret (x_var 2))))
theorem cal__law_power (g : Gf K mg) (G : FnOk P w K mg base (L2.CX P w) 1 (He.ga K "_law_power") (g.d__law_power.choose) ["_law_p", "_law_number"] (spF K mg f__law_power)) : Cal P w K mg base "_law_power" 1 [] f__law_power :=
  ⟨_, _, _, [], [], G, g.m__law_power, g.d__law_power.choose_spec.kp, g.d__law_power.choose_spec.bindsN (fun _ _ _ _ _ _ us hl => match us, hl with | [_, _], _ => rfl), .nil, fun _ => .nil⟩
theorem ok__law_drawn_figures (g : Gf K mg)  : FnOk P w K mg base (L2.CX P w) 1 (He.ga K "_law_drawn_figures") (g.d__law_drawn_figures.choose) ["_law_p", "_law_number", "_law_many"] (spF K mg f__law_drawn_figures) := by
  refine def_ok g.d__law_drawn_figures.choose_spec sc__law_drawn_figures (fun cdv A outer s H F0 E X hX hr ft => ?_) len__law_drawn_figures does__law_drawn_figures
  subst hX
  have sc := sc__law_drawn_figures
  exact s_cons (s_own (i := 3) (x_lst (x_nil)) sc.nd) (s_cons (s_for ft (i_range1 ft g.n_range (x_cons (h1 := x_var 2) (x_nil))) (g_name (i := 4) sc.nd) (s_cons (s_app 3 (x_bin bin_mod (x_var 1) (x_var 0))) (s_one (s_set (i := 1) (x_bin bin_fdiv (x_var 1) (x_var 0)) sc.nd)))) (s_one (s_retV 3)))
theorem cal__law_drawn_figures (g : Gf K mg) (G : FnOk P w K mg base (L2.CX P w) 1 (He.ga K "_law_drawn_figures") (g.d__law_drawn_figures.choose) ["_law_p", "_law_number", "_law_many"] (spF K mg f__law_drawn_figures)) : Cal P w K mg base "_law_drawn_figures" 1 [] f__law_drawn_figures :=
  ⟨_, _, _, [], [], G, g.m__law_drawn_figures, g.d__law_drawn_figures.choose_spec.kp, g.d__law_drawn_figures.choose_spec.bindsN (fun _ _ _ _ _ _ us hl => match us, hl with | [_, _, _], _ => rfl), .nil, fun _ => .nil⟩
theorem ok_over_by (g : Gf K mg) (c_raised : Cal P w K mg base "raised" 1 [] f_raised) : FnOk P w K mg base (L2.CX P w) 2 (He.ga K "over_by") (g.d_over_by.choose) ["p", "n", "k"] (spF K mg f_over_by) := by
  refine def_ok g.d_over_by.choose_spec sc_over_by (fun cdv A outer s H F0 E X hX hr ft => ?_) len_over_by does_over_by
  subst hX
  have sc := sc_over_by
  exact s_cons (s_if (x_tcmp (bin_eq ft hr.units) bl_eq (x_var 2) (x_int) (nomark _)) (s_one (s_ret (x_int))) (s_nil)) (s_cons (s_set (i := 3) (x_int) sc.nd) (s_cons (s_while ft (x_tcmp (bin_ne ft hr.units) bl_ne (x_bin bin_mod (x_bin bin_mul (x_var 1) (x_var 3)) (x_var 0)) (x_int) (nomark _)) (s_one (s_set (i := 3) (x_bin (bin_add ft) (x_var 3) (x_int)) sc.nd))) (s_cons (s_set (i := 4) (x_int) sc.nd) (s_cons (s_while ft (x_tcmp bin_lt bl_lt (x_var 4) (x_var 2) (nomark _)) (s_cons (s_set (i := 4) (x_blt ft (b_min2 ft) (by rfl) g.n_min bt_min (x_cons (h1 := x_bin bin_mul (x_int) (x_var 4)) (x_cons (h1 := x_var 2) (x_nil)))) sc.nd) (s_one (s_set (i := 3) (x_bin bin_mod (x_bin bin_mul (x_var 3) (x_bin bin_sub (x_int) (x_bin bin_mul (x_var 1) (x_var 3)))) (x_cal ft c_raised hr (x_cons (h1 := x_var 0) (x_cons (h1 := x_var 4) (x_nil))))) sc.nd)))) (s_one (s_ret (x_var 3)))))))
theorem cal_over_by (g : Gf K mg) (G : FnOk P w K mg base (L2.CX P w) 2 (He.ga K "over_by") (g.d_over_by.choose) ["p", "n", "k"] (spF K mg f_over_by)) : Cal P w K mg base "over_by" 2 [] f_over_by :=
  ⟨_, _, _, [], [], G, g.m_over_by, g.d_over_by.choose_spec.kp, g.d_over_by.choose_spec.bindsN (fun _ _ _ _ _ _ us hl => match us, hl with | [_, _, _], _ => rfl), .nil, fun _ => .nil⟩
theorem ok_fraction (g : Gf K mg) (c_shared : Cal P w K mg base "shared" 1 [] f_shared) : FnOk P w K mg base (L2.CX P w) 2 (He.ga K "fraction") (g.d_fraction.choose) ["top", "bottom"] (spF K mg f_fraction) := by
  refine def_ok g.d_fraction.choose_spec sc_fraction (fun cdv A outer s H F0 E X hX hr ft => ?_) len_fraction does_fraction
  subst hX
  have sc := sc_fraction
  exact s_cons (s_if (x_tcmp (bin_eq ft hr.units) bl_eq (x_var 1) (x_int) (nomark _)) (s_one (s_raise ft g.x_NoFraction)) (s_nil)) (s_cons (s_set (i := 2) (x_cal ft c_shared hr (x_cons (h1 := x_var 0) (x_cons (h1 := x_var 1) (x_nil)))) sc.nd) (s_cons (s_if (x_tcmp bin_lt bl_lt (x_var 1) (x_int) (nomark _)) (s_one (s_set (i := 2) (x_neg (x_var 2)) sc.nd)) (s_nil)) (s_one (s_ret (x_tup (x_cons (h1 := x_bin bin_fdiv (x_var 0) (x_var 2)) (x_cons (h1 := x_bin bin_fdiv (x_var 1) (x_var 2)) (x_nil))))))))
theorem cal_fraction (g : Gf K mg) (G : FnOk P w K mg base (L2.CX P w) 2 (He.ga K "fraction") (g.d_fraction.choose) ["top", "bottom"] (spF K mg f_fraction)) : Cal P w K mg base "fraction" 2 [] f_fraction :=
  let ⟨ds, v, b⟩ := g.d_fraction.choose_spec.binds1 (ps := ["top", "bottom"]) 2 1 (List.cons_ne_nil _ _) rfl (fun _ _ _ _ _ _ _ us its h1 h2 => match us, its, h1, h2 with | [_, _], [_], _, _ => ⟨_, rfl, rfl⟩)
  ⟨_, _, _, ds, [], G, g.m_fraction, g.d_fraction.choose_spec.kp, b, v, fun _ => .nil⟩
theorem cald_fraction (g : Gf K mg) (G : FnOk P w K mg base (L2.CX P w) 2 (He.ga K "fraction") (g.d_fraction.choose) ["top", "bottom"] (spF K mg f_fraction)) : Cal P w K mg base "fraction" 2 [.int 1] f_fraction := by
  obtain ⟨ds, v, b⟩ := g.d_fraction.choose_spec.binds1 (ps := ["top", "bottom"]) 1 0 (List.cons_ne_nil _ _) rfl (fun _ _ _ _ _ _ _ us its h1 h2 => match us, its, h1, h2 with | [_], [_], _, _ => ⟨_, rfl, rfl⟩)
  exact ⟨_, _, _, ds, [V.int 1], G, g.m_fraction, g.d_fraction.choose_spec.kp, b, v, fun _ => .cons (.int _) .nil⟩
theorem ok_prime_power (g : Gf K mg) (c_raised : Cal P w K mg base "raised" 1 [] f_raised) : FnOk P w K mg base (L2.CX P w) 2 (He.ga K "prime_power") (g.d_prime_power.choose) ["p", "k"] (spF K mg f_prime_power) := by
  refine def_ok g.d_prime_power.choose_spec sc_prime_power (fun cdv A outer s H F0 E X hX hr ft => ?_) len_prime_power does_prime_power
  subst hX
  have sc := sc_prime_power
  exact s_cons (s_if (x_tcmp bin_lt bl_lt (x_var 1) (x_int) (nomark _)) (s_one (s_ret (x_tup (x_cons (h1 := x_int) (x_cons (h1 := x_cal ft c_raised hr (x_cons (h1 := x_var 0) (x_cons (h1 := x_neg (x_var 1)) (x_nil)))) (x_nil)))))) (s_nil)) (s_one (s_ret (x_tup (x_cons (h1 := x_cal ft c_raised hr (x_cons (h1 := x_var 0) (x_cons (h1 := x_var 1) (x_nil)))) (x_cons (h1 := x_int) (x_nil))))))
theorem cal_prime_power (g : Gf K mg) (G : FnOk P w K mg base (L2.CX P w) 2 (He.ga K "prime_power") (g.d_prime_power.choose) ["p", "k"] (spF K mg f_prime_power)) : Cal P w K mg base "prime_power" 2 [] f_prime_power :=
  ⟨_, _, _, [], [], G, g.m_prime_power, g.d_prime_power.choose_spec.kp, g.d_prime_power.choose_spec.bindsN (fun _ _ _ _ _ _ us hl => match us, hl with | [_, _], _ => rfl), .nil, fun _ => .nil⟩
theorem ok__law_lowest (g : Gf K mg) (c__law_divisor : Cal P w K mg base "_law_divisor" 1 [] f__law_divisor) : FnOk P w K mg base (L2.CX P w) 2 (He.ga K "_law_lowest") (g.d__law_lowest.choose) ["_law_top", "_law_bottom"] (spF K mg f__law_lowest) := by
  refine def_ok g.d__law_lowest.choose_spec sc__law_lowest (fun cdv A outer s H F0 E X hX hr ft => ?_) len__law_lowest does__law_lowest
  subst hX
  have sc := sc__law_lowest
  exact s_cons (s_set (i := 2) (x_cal ft c__law_divisor hr (x_cons (h1 := x_var 0) (x_cons (h1 := x_var 1) (x_nil)))) sc.nd) (s_cons (s_if (x_tcmp bin_lt bl_lt (x_var 1) (x_int) (nomark _)) (s_one (s_set (i := 2) (x_neg (x_var 2)) sc.nd)) (s_nil)) (s_one (s_ret (x_tup (x_cons (h1 := x_bin bin_fdiv (x_var 0) (x_var 2)) (x_cons (h1 := x_bin bin_fdiv (x_var 1) (x_var 2)) (x_nil)))))))
theorem cal__law_lowest (g : Gf K mg) (G : FnOk P w K mg base (L2.CX P w) 2 (He.ga K "_law_lowest") (g.d__law_lowest.choose) ["_law_top", "_law_bottom"] (spF K mg f__law_lowest)) : Cal P w K mg base "_law_lowest" 2 [] f__law_lowest :=
  ⟨_, _, _, [], [], G, g.m__law_lowest, g.d__law_lowest.choose_spec.kp, g.d__law_lowest.choose_spec.bindsN (fun _ _ _ _ _ _ us hl => match us, hl with | [_, _], _ => rfl), .nil, fun _ => .nil⟩
theorem ok__law_is_fraction (g : Gf K mg) (c__law_divisor : Cal P w K mg base "_law_divisor" 1 [] f__law_divisor) (c__law_whole : Cal P w K mg base "_law_whole" 1 [] f__law_whole) : FnOk P w K mg base (L2.CX P w) 2 (He.ga K "_law_is_fraction") (g.d__law_is_fraction.choose) ["_law_found"] (spF K mg f__law_is_fraction) := by
  refine def_ok g.d__law_is_fraction.choose_spec sc__law_is_fraction (fun cdv A outer s H F0 E X hX hr ft => ?_) len__law_is_fraction does__law_is_fraction
  subst hX
  have sc := sc__law_is_fraction
  exact s_cons (s_if ((x_or (x_not (x_truth ft (x_blt ft (b_isi ft) (by rfl) g.n_isinstance bt_isinstance (x_cons (h1 := x_var 0) (x_cons (h1 := x_ty ft (by rfl) g.n_tuple bt_tuple) (x_nil)))))) (x_or (x_tcmp (bin_ne ft hr.units) bl_ne (x_blt ft (b_len ft) (by rfl) g.n_len bt_len (x_cons (h1 := x_var 0) (x_nil))) (x_int) (nomark _)) (x_or (x_not (x_truth ft (x_cal ft c__law_whole hr (x_cons (h1 := x_ix ft (x_var 0) (x_int)) (x_nil))))) (x_or1 (x_not (x_truth ft (x_cal ft c__law_whole hr (x_cons (h1 := x_ix ft (x_var 0) (x_int)) (x_nil))))))))).pt) (s_one (s_ret (x_bl))) (s_nil)) (s_one (s_ret (x_andV (x_cmp bin_gt (x_ix ft (x_var 0) (x_int)) (x_int) (nomark _)) (x_one (x_cmp (bin_eq ft hr.units) (x_cal ft c__law_divisor hr (x_cons (h1 := x_ix ft (x_var 0) (x_int)) (x_cons (h1 := x_ix ft (x_var 0) (x_int)) (x_nil)))) (x_int) (nomark _))))))
theorem cal__law_is_fraction (g : Gf K mg) (G : FnOk P w K mg base (L2.CX P w) 2 (He.ga K "_law_is_fraction") (g.d__law_is_fraction.choose) ["_law_found"] (spF K mg f__law_is_fraction)) : Cal P w K mg base "_law_is_fraction" 2 [] f__law_is_fraction :=
  ⟨_, _, _, [], [], G, g.m__law_is_fraction, g.d__law_is_fraction.choose_spec.kp, g.d__law_is_fraction.choose_spec.bindsN (fun _ _ _ _ _ _ us hl => match us, hl with | [_], _ => rfl), .nil, fun _ => .nil⟩
theorem ok__law_pp (g : Gf K mg) (c__law_up : Cal P w K mg base "_law_up" 1 [] f__law_up) : FnOk P w K mg base (L2.CX P w) 2 (He.ga K "_law_pp") (g.d__law_pp.choose) ["_law_p", "_law_k"] (spF K mg f__law_pp) := by
  refine def_ok g.d__law_pp.choose_spec sc__law_pp (fun cdv A outer s H F0 E X hX hr ft => ?_) len__law_pp does__law_pp
  subst hX
  have sc := sc__law_pp
  exact s_cons (s_if (x_tcmp bin_lt bl_lt (x_var 1) (x_int) (nomark _)) (s_one (s_ret (x_tup (x_cons (h1 := x_int) (x_cons (h1 := x_cal ft c__law_up hr (x_cons (h1 := x_var 0) (x_cons (h1 := x_neg (x_var 1)) (x_nil)))) (x_nil)))))) (s_nil)) (s_one (s_ret (x_tup (x_cons (h1 := x_cal ft c__law_up hr (x_cons (h1 := x_var 0) (x_cons (h1 := x_var 1) (x_nil)))) (x_cons (h1 := x_int) (x_nil))))))
theorem cal__law_pp (g : Gf K mg) (G : FnOk P w K mg base (L2.CX P w) 2 (He.ga K "_law_pp") (g.d__law_pp.choose) ["_law_p", "_law_k"] (spF K mg f__law_pp)) : Cal P w K mg base "_law_pp" 2 [] f__law_pp :=
  ⟨_, _, _, [], [], G, g.m__law_pp, g.d__law_pp.choose_spec.kp, g.d__law_pp.choose_spec.bindsN (fun _ _ _ _ _ _ us hl => match us, hl with | [_, _], _ => rfl), .nil, fun _ => .nil⟩
theorem ok__law_worth (g : Gf K mg) (c__law_up : Cal P w K mg base "_law_up" 1 [] f__law_up) : FnOk P w K mg base (L2.CX P w) 2 (He.ga K "_law_worth") (g.d__law_worth.choose) ["_law_p", "_law_some"] (spF K mg f__law_worth) := by
  refine def_ok g.d__law_worth.choose_spec sc__law_worth (fun cdv A outer s H F0 E X hX hr ft => ?_) len__law_worth does__law_worth
  subst hX
  have sc := sc__law_worth
  exact s_cons (s_set (i := 2) (x_int) sc.nd) (s_cons (s_for ft (i_range1 ft g.n_range (x_cons (h1 := x_blt ft (b_len ft) (by rfl) g.n_len bt_len (x_cons (h1 := x_var 1) (x_nil))) (x_nil))) (g_name (i := 3) sc.nd) (s_one (s_set (i := 2) (x_bin (bin_add ft) (x_var 2) (x_bin bin_mul (x_ix ft (x_var 1) (x_var 3)) (x_cal ft c__law_up hr (x_cons (h1 := x_var 0) (x_cons (h1 := x_var 3) (x_nil)))))) sc.nd))) (s_one (s_ret (x_var 2))))
theorem cal__law_worth (g : Gf K mg) (G : FnOk P w K mg base (L2.CX P w) 2 (He.ga K "_law_worth") (g.d__law_worth.choose) ["_law_p", "_law_some"] (spF K mg f__law_worth)) : Cal P w K mg base "_law_worth" 2 [] f__law_worth :=
  ⟨_, _, _, [], [], G, g.m__law_worth, g.d__law_worth.choose_spec.kp, g.d__law_worth.choose_spec.bindsN (fun _ _ _ _ _ _ us hl => match us, hl with | [_, _], _ => rfl), .nil, fun _ => .nil⟩
theorem ok_plus (g : Gf K mg) (c_fraction : Cal P w K mg base "fraction" 2 [] f_fraction) : FnOk P w K mg base (L2.CX P w) 3 (He.ga K "plus") (g.d_plus.choose) ["a", "b"] (spF K mg f_plus) := by
  refine def_ok g.d_plus.choose_spec sc_plus (fun cdv A outer s H F0 E X hX hr ft => ?_) len_plus does_plus
  subst hX
  have sc := sc_plus
  exact s_one (s_ret (x_cal ft c_fraction hr (x_cons (h1 := x_bin (bin_add ft) (x_bin bin_mul (x_ix ft (x_var 0) (x_int)) (x_ix ft (x_var 1) (x_int))) (x_bin bin_mul (x_ix ft (x_var 1) (x_int)) (x_ix ft (x_var 0) (x_int)))) (x_cons (h1 := x_bin bin_mul (x_ix ft (x_var 0) (x_int)) (x_ix ft (x_var 1) (x_int))) (x_nil)))))
theorem cal_plus (g : Gf K mg) (G : FnOk P w K mg base (L2.CX P w) 3 (He.ga K "plus") (g.d_plus.choose) ["a", "b"] (spF K mg f_plus)) : Cal P w K mg base "plus" 3 [] f_plus :=
  ⟨_, _, _, [], [], G, g.m_plus, g.d_plus.choose_spec.kp, g.d_plus.choose_spec.bindsN (fun _ _ _ _ _ _ us hl => match us, hl with | [_, _], _ => rfl), .nil, fun _ => .nil⟩
theorem ok_times (g : Gf K mg) (c_fraction : Cal P w K mg base "fraction" 2 [] f_fraction) : FnOk P w K mg base (L2.CX P w) 3 (He.ga K "times") (g.d_times.choose) ["a", "b"] (spF K mg f_times) := by
  refine def_ok g.d_times.choose_spec sc_times (fun cdv A outer s H F0 E X hX hr ft => ?_) len_times does_times
  subst hX
  have sc := sc_times
  exact s_one (s_ret (x_cal ft c_fraction hr (x_cons (h1 := x_bin bin_mul (x_ix ft (x_var 0) (x_int)) (x_ix ft (x_var 1) (x_int))) (x_cons (h1 := x_bin bin_mul (x_ix ft (x_var 0) (x_int)) (x_ix ft (x_var 1) (x_int))) (x_nil)))))
theorem cal_times (g : Gf K mg) (G : FnOk P w K mg base (L2.CX P w) 3 (He.ga K "times") (g.d_times.choose) ["a", "b"] (spF K mg f_times)) : Cal P w K mg base "times" 3 [] f_times :=
  ⟨_, _, _, [], [], G, g.m_times, g.d_times.choose_spec.kp, g.d_times.choose_spec.bindsN (fun _ _ _ _ _ _ us hl => match us, hl with | [_, _], _ => rfl), .nil, fun _ => .nil⟩
theorem ok_figures (g : Gf K mg) (c_over_by : Cal P w K mg base "over_by" 2 [] f_over_by) (c_power_of : Cal P w K mg base "power_of" 1 [] f_power_of) (c_raised : Cal P w K mg base "raised" 1 [] f_raised) : FnOk P w K mg base (L2.CX P w) 3 (He.ga K "figures") (g.d_figures.choose) ["p", "a"] (spF K mg f_figures) := by
  refine def_ok g.d_figures.choose_spec sc_figures (fun cdv A outer s H F0 E X hX hr ft => ?_) len_figures does_figures
  subst hX
  have sc := sc_figures
  exact s_cons (s_asg (x_var 1) (g_tup ft (g_cons (g_name (i := 2) sc.nd) (g_cons (g_name (i := 3) sc.nd) (g_nil))) (gl_cons (gl_cons (gl_nil))))) (s_cons (s_set (i := 4) (x_cal ft c_power_of hr (x_cons (h1 := x_var 0) (x_cons (h1 := x_var 3) (x_nil)))) sc.nd) (s_cons (s_set (i := 3) (x_bin bin_fdiv (x_var 3) (x_cal ft c_raised hr (x_cons (h1 := x_var 0) (x_cons (h1 := x_var 4) (x_nil))))) sc.nd) (s_cons (s_if (x_tcmp bin_gt bl_gt (x_var 3) (x_glob ft g.k_MOST_BOTTOM (by rfl)) (nomark _)) (s_one (s_raise ft g.x_TooMany)) (s_nil)) (s_cons (s_set (i := 5) (x_cal ft c_over_by hr (x_cons (h1 := x_var 0) (x_cons (h1 := x_var 3) (x_cons (h1 := x_int) (x_nil))))) sc.nd) (s_met ft (by decide) (by decide) (by decide) (L2.ps_set (i := 6) sc.nd rfl (by first | exact Or.inl rfl | exact Or.inr rfl) (L2.pe_dnewK)) (by decide) (L2.ps_set (i := 7) sc.nd rfl (by first | exact Or.inl rfl | exact Or.inr rfl) (L2.pe_lst L2.pa_nil)) (L2.pt_cmp (L2.pc_dnotin (hu1 (hu65 hr)) (L2.pe_var (i := 2) rfl (by first | exact Or.inl rfl | exact Or.inr (Or.inl rfl) | exact Or.inr (Or.inr rfl))) (L2.pe_var (i := 6) rfl (by first | exact Or.inl rfl | exact Or.inr (Or.inl rfl) | exact Or.inr (Or.inr rfl)))) (by with_unfolding_all rfl)) (L2.ps_dput (hu1 (hu65 hr)) (L2.pe_var (i := 6) rfl (by first | exact Or.inl rfl | exact Or.inr (Or.inl rfl) | exact Or.inr (Or.inr rfl))) (L2.pe_var (i := 2) rfl (by first | exact Or.inl rfl | exact Or.inr (Or.inl rfl) | exact Or.inr (Or.inr rfl))) (x_lenO ft g.n_len 7) (by rfl)) (L2.ps_set (i := 8) sc.nd rfl (by first | exact Or.inl rfl | exact Or.inr rfl) (x_bin bin_mod (x_bin bin_mul (x_var 2) (x_var 5)) (x_var 0))) (L2.ps_expr (L2.pe_bm PySem.F.plainAttrs_list PySem.F.slot_list_append PySem.F.type_list_append L2.mt_append (L2.pe_var (i := 7) rfl (by first | exact Or.inl rfl | exact Or.inr (Or.inl rfl) | exact Or.inr (Or.inr rfl))) (L2.pa_cons (L2.pe_var (i := 8) rfl (by first | exact Or.inl rfl | exact Or.inr (Or.inl rfl) | exact Or.inr (Or.inr rfl))) L2.pa_nil))) (L2.ps_set (i := 2) sc.nd rfl (by first | exact Or.inl rfl | exact Or.inr rfl) (x_bin bin_fdiv (x_bin bin_sub (x_var 2) (x_bin bin_mul (x_var 8) (x_var 3))) (x_var 0))) (L2.ps_ret (L2.pe_tup (L2.pa_cons (x_neg (x_var 4)) (L2.pa_cons (L2.pe_slice L2.sl_list (L2.pe_var (i := 7) rfl (by first | exact Or.inl rfl | exact Or.inr (Or.inl rfl) | exact Or.inr (Or.inr rfl))) L2.po_none (L2.po_some (L2.pe_dget (hu1 (hu65 hr)) (L2.pe_var (i := 6) rfl (by first | exact Or.inl rfl | exact Or.inr (Or.inl rfl) | exact Or.inr (Or.inr rfl))) (L2.pe_var (i := 2) rfl (by first | exact Or.inl rfl | exact Or.inr (Or.inl rfl) | exact Or.inr (Or.inr rfl))) (fun _ _ => rfl)))) (L2.pa_cons (L2.pe_slice L2.sl_list (L2.pe_var (i := 7) rfl (by first | exact Or.inl rfl | exact Or.inr (Or.inl rfl) | exact Or.inr (Or.inr rfl))) (L2.po_some (L2.pe_dget (hu1 (hu65 hr)) (L2.pe_var (i := 6) rfl (by first | exact Or.inl rfl | exact Or.inr (Or.inl rfl) | exact Or.inr (Or.inr rfl))) (L2.pe_var (i := 2) rfl (by first | exact Or.inl rfl | exact Or.inr (Or.inl rfl) | exact Or.inr (Or.inr rfl))) (fun _ _ => rfl))) L2.po_none) L2.pa_nil))))))))))
theorem cal_figures (g : Gf K mg) (G : FnOk P w K mg base (L2.CX P w) 3 (He.ga K "figures") (g.d_figures.choose) ["p", "a"] (spF K mg f_figures)) : Cal P w K mg base "figures" 3 [] f_figures :=
  ⟨_, _, _, [], [], G, g.m_figures, g.d_figures.choose_spec.kp, g.d_figures.choose_spec.bindsN (fun _ _ _ _ _ _ us hl => match us, hl with | [_, _], _ => rfl), .nil, fun _ => .nil⟩
theorem ok__law_sum (g : Gf K mg) (c__law_lowest : Cal P w K mg base "_law_lowest" 2 [] f__law_lowest) : FnOk P w K mg base (L2.CX P w) 3 (He.ga K "_law_sum") (g.d__law_sum.choose) ["_law_a", "_law_b"] (spF K mg f__law_sum) := by
  refine def_ok g.d__law_sum.choose_spec sc__law_sum (fun cdv A outer s H F0 E X hX hr ft => ?_) len__law_sum does__law_sum
  subst hX
  have sc := sc__law_sum
  exact s_one (s_ret (x_cal ft c__law_lowest hr (x_cons (h1 := x_bin (bin_add ft) (x_bin bin_mul (x_ix ft (x_var 0) (x_int)) (x_ix ft (x_var 1) (x_int))) (x_bin bin_mul (x_ix ft (x_var 1) (x_int)) (x_ix ft (x_var 0) (x_int)))) (x_cons (h1 := x_bin bin_mul (x_ix ft (x_var 0) (x_int)) (x_ix ft (x_var 1) (x_int))) (x_nil)))))
theorem cal__law_sum (g : Gf K mg) (G : FnOk P w K mg base (L2.CX P w) 3 (He.ga K "_law_sum") (g.d__law_sum.choose) ["_law_a", "_law_b"] (spF K mg f__law_sum)) : Cal P w K mg base "_law_sum" 3 [] f__law_sum :=
  ⟨_, _, _, [], [], G, g.m__law_sum, g.d__law_sum.choose_spec.kp, g.d__law_sum.choose_spec.bindsN (fun _ _ _ _ _ _ us hl => match us, hl with | [_, _], _ => rfl), .nil, fun _ => .nil⟩
theorem ok__law_product (g : Gf K mg) (c__law_lowest : Cal P w K mg base "_law_lowest" 2 [] f__law_lowest) : FnOk P w K mg base (L2.CX P w) 3 (He.ga K "_law_product") (g.d__law_product.choose) ["_law_a", "_law_b"] (spF K mg f__law_product) := by
  refine def_ok g.d__law_product.choose_spec sc__law_product (fun cdv A outer s H F0 E X hX hr ft => ?_) len__law_product does__law_product
  subst hX
  have sc := sc__law_product
  exact s_one (s_ret (x_cal ft c__law_lowest hr (x_cons (h1 := x_bin bin_mul (x_ix ft (x_var 0) (x_int)) (x_ix ft (x_var 1) (x_int))) (x_cons (h1 := x_bin bin_mul (x_ix ft (x_var 0) (x_int)) (x_ix ft (x_var 1) (x_int))) (x_nil)))))
theorem cal__law_product (g : Gf K mg) (G : FnOk P w K mg base (L2.CX P w) 3 (He.ga K "_law_product") (g.d__law_product.choose) ["_law_a", "_law_b"] (spF K mg f__law_product)) : Cal P w K mg base "_law_product" 3 [] f__law_product :=
  ⟨_, _, _, [], [], G, g.m__law_product, g.d__law_product.choose_spec.kp, g.d__law_product.choose_spec.bindsN (fun _ _ _ _ _ _ us hl => match us, hl with | [_, _], _ => rfl), .nil, fun _ => .nil⟩
theorem ok_by_figures (g : Gf K mg) (c_fraction : Cal P w K mg base "fraction" 2 [] f_fraction) (c_plus : Cal P w K mg base "plus" 3 [] f_plus) (c_prime_power : Cal P w K mg base "prime_power" 2 [] f_prime_power) (c_raised : Cal P w K mg base "raised" 1 [] f_raised) (c_times : Cal P w K mg base "times" 3 [] f_times) (c_worth : Cal P w K mg base "worth" 1 [] f_worth) : FnOk P w K mg base (L2.CX P w) 4 (He.ga K "by_figures") (g.d_by_figures.choose) ["p", "first", "head", "again"] (spF K mg f_by_figures) := by
  refine def_ok g.d_by_figures.choose_spec sc_by_figures (fun cdv A outer s H F0 E X hX hr ft => ?_) len_by_figures does_by_figures
  subst hX
  have sc := sc_by_figures
  exact s_cons (s_set (i := 4) (x_cal ft c_fraction hr (x_cons (h1 := x_cal ft c_worth hr (x_cons (h1 := x_var 0) (x_cons (h1 := x_var 3) (x_nil)))) (x_cons (h1 := x_bin bin_sub (x_int) (x_cal ft c_raised hr (x_cons (h1 := x_var 0) (x_cons (h1 := x_blt ft (b_len ft) (by rfl) g.n_len bt_len (x_cons (h1 := x_var 3) (x_nil))) (x_nil))))) (x_nil)))) sc.nd) (s_cons (s_set (i := 5) (x_cal ft c_plus hr (x_cons (h1 := x_tup (x_cons (h1 := x_cal ft c_worth hr (x_cons (h1 := x_var 0) (x_cons (h1 := x_var 2) (x_nil)))) (x_cons (h1 := x_int) (x_nil)))) (x_cons (h1 := x_cal ft c_times hr (x_cons (h1 := x_var 4) (x_cons (h1 := x_cal ft c_prime_power hr (x_cons (h1 := x_var 0) (x_cons (h1 := x_blt ft (b_len ft) (by rfl) g.n_len bt_len (x_cons (h1 := x_var 2) (x_nil))) (x_nil)))) (x_nil)))) (x_nil)))) sc.nd) (s_one (s_ret (x_cal ft c_times hr (x_cons (h1 := x_var 5) (x_cons (h1 := x_cal ft c_prime_power hr (x_cons (h1 := x_var 0) (x_cons (h1 := x_var 1) (x_nil)))) (x_nil)))))))
theorem cal_by_figures (g : Gf K mg) (G : FnOk P w K mg base (L2.CX P w) 4 (He.ga K "by_figures") (g.d_by_figures.choose) ["p", "first", "head", "again"] (spF K mg f_by_figures)) : Cal P w K mg base "by_figures" 4 [] f_by_figures :=
  ⟨_, _, _, [], [], G, g.m_by_figures, g.d_by_figures.choose_spec.kp, g.d_by_figures.choose_spec.bindsN (fun _ _ _ _ _ _ us hl => match us, hl with | [_, _, _, _], _ => rfl), .nil, fun _ => .nil⟩
theorem ok__law_value (g : Gf K mg) (c__law_lowest : Cal P w K mg base "_law_lowest" 2 [] f__law_lowest) (c__law_pp : Cal P w K mg base "_law_pp" 2 [] f__law_pp) (c__law_product : Cal P w K mg base "_law_product" 3 [] f__law_product) (c__law_sum : Cal P w K mg base "_law_sum" 3 [] f__law_sum) (c__law_up : Cal P w K mg base "_law_up" 1 [] f__law_up) (c__law_worth : Cal P w K mg base "_law_worth" 2 [] f__law_worth) : FnOk P w K mg base (L2.CX P w) 4 (He.ga K "_law_value") (g.d__law_value.choose) ["_law_p", "_law_first", "_law_head", "_law_again"] (spF K mg f__law_value) := by
  refine def_ok g.d__law_value.choose_spec sc__law_value (fun cdv A outer s H F0 E X hX hr ft => ?_) len__law_value does__law_value
  subst hX
  have sc := sc__law_value
  exact s_cons (s_set (i := 4) (x_cal ft c__law_lowest hr (x_cons (h1 := x_bin bin_mul (x_cal ft c__law_worth hr (x_cons (h1 := x_var 0) (x_cons (h1 := x_var 3) (x_nil)))) (x_cal ft c__law_up hr (x_cons (h1 := x_var 0) (x_cons (h1 := x_blt ft (b_len ft) (by rfl) g.n_len bt_len (x_cons (h1 := x_var 2) (x_nil))) (x_nil))))) (x_cons (h1 := x_bin bin_sub (x_int) (x_cal ft c__law_up hr (x_cons (h1 := x_var 0) (x_cons (h1 := x_blt ft (b_len ft) (by rfl) g.n_len bt_len (x_cons (h1 := x_var 3) (x_nil))) (x_nil))))) (x_nil)))) sc.nd) (s_one (s_ret (x_cal ft c__law_product hr (x_cons (h1 := x_cal ft c__law_sum hr (x_cons (h1 := x_tup (x_cons (h1 := x_cal ft c__law_worth hr (x_cons (h1 := x_var 0) (x_cons (h1 := x_var 2) (x_nil)))) (x_cons (h1 := x_int) (x_nil)))) (x_cons (h1 := x_var 4) (x_nil)))) (x_cons (h1 := x_cal ft c__law_pp hr (x_cons (h1 := x_var 0) (x_cons (h1 := x_var 1) (x_nil)))) (x_nil))))))
theorem cal__law_value (g : Gf K mg) (G : FnOk P w K mg base (L2.CX P w) 4 (He.ga K "_law_value") (g.d__law_value.choose) ["_law_p", "_law_first", "_law_head", "_law_again"] (spF K mg f__law_value)) : Cal P w K mg base "_law_value" 4 [] f__law_value :=
  ⟨_, _, _, [], [], G, g.m__law_value, g.d__law_value.choose_spec.kp, g.d__law_value.choose_spec.bindsN (fun _ _ _ _ _ _ us hl => match us, hl with | [_, _, _, _], _ => rfl), .nil, fun _ => .nil⟩
theorem ok_law (g : Gf K mg) (c__law_drawn : Cal P w K mg base "_law_drawn" 1 [] f__law_drawn) (c__law_drawn_figures : Cal P w K mg base "_law_drawn_figures" 1 [] f__law_drawn_figures) (c__law_is_fraction : Cal P w K mg base "_law_is_fraction" 2 [] f__law_is_fraction) (c__law_power : Cal P w K mg base "_law_power" 1 [] f__law_power) (c__law_prime : Cal P w K mg base "_law_prime" 1 [] f__law_prime) (c__law_up : Cal P w K mg base "_law_up" 1 [] f__law_up) (c__law_value : Cal P w K mg base "_law_value" 4 [] f__law_value) (c_by_figures : Cal P w K mg base "by_figures" 4 [] f_by_figures) (c_figures : Cal P w K mg base "figures" 3 [] f_figures) : FnOk P w K mg base (L2.CX P w) 5 (He.ga K "law") (g.d_law.choose) ["_law_script"] (spF K mg f_law) := by
  refine def_ok g.d_law.choose_spec sc_law (fun cdv A outer s H F0 E X hX hr ft => ?_) len_law does_law
  subst hX
  have sc := sc_law
  exact s_cons (s_for ft (i_range3 ft g.n_range (x_cons (h1 := x_int) (x_cons (h1 := x_blt ft (b_max2 ft) (by rfl) g.n_max bt_max (x_cons (h1 := x_int) (x_cons (h1 := x_blt ft (b_min2 ft) (by rfl) g.n_min bt_min (x_cons (h1 := x_blt ft (b_len ft) (by rfl) g.n_len bt_len (x_cons (h1 := x_var 0) (x_nil))) (x_cons (h1 := x_int) (x_nil)))) (x_nil)))) (x_cons (h1 := x_int) (x_nil))))) (g_name (i := 1) sc.nd) (s_cons (s_set (i := 2) (x_cal ft c__law_drawn hr (x_cons (h1 := x_var 0) (x_cons (h1 := x_var 1) (x_nil)))) sc.nd) (s_cons (s_set (i := 3) (x_cal ft c__law_prime hr (x_cons (h1 := x_var 2) (x_nil))) sc.nd) (s_cons (s_set (i := 4) (x_bin bin_sub (x_bin bin_mod (x_bin bin_fdiv (x_var 2) (x_int)) (x_int)) (x_int)) sc.nd) (s_cons (s_if (x_tcmp (bin_eq ft hr.units) bl_eq (x_bin bin_mod (x_bin bin_fdiv (x_var 2) (x_int)) (x_int)) (x_int) (nomark _)) (s_one (s_set (i := 4) (x_bin bin_sub (x_bin bin_mod (x_bin bin_fdiv (x_var 2) (x_int)) (x_int)) (x_int)) sc.nd)) (s_nil)) (s_cons (s_set (i := 5) (x_cal ft c__law_drawn hr (x_cons (h1 := x_var 0) (x_cons (h1 := x_bin (bin_add ft) (x_var 1) (x_int)) (x_nil)))) sc.nd) (s_cons (s_set (i := 6) (x_tup (x_cons (h1 := x_bin bin_mod (x_var 5) (x_int)) (x_cons (h1 := x_bin (bin_add ft) (x_int) (x_bin bin_mod (x_bin bin_fdiv (x_var 5) (x_int)) (x_int))) (x_nil)))) sc.nd) (s_cons (s_if (x_tcmp (bin_eq ft hr.units) bl_eq (x_bin bin_mod (x_bin bin_fdiv (x_var 2) (x_int)) (x_int)) (x_int) (nomark _)) (s_one (s_set (i := 6) (x_tup (x_cons (h1 := x_bin bin_mod (x_var 5) (x_int)) (x_cons (h1 := x_bin (bin_add ft) (x_int) (x_bin bin_mod (x_bin bin_fdiv (x_var 5) (x_int)) (x_int))) (x_nil)))) sc.nd)) (s_nil)) (s_cons (s_set (i := 7) (x_bin (bin_add ft) (x_bin bin_mul (x_cal ft c__law_drawn hr (x_cons (h1 := x_var 0) (x_cons (h1 := x_bin (bin_add ft) (x_var 1) (x_int)) (x_nil)))) (x_bin bin_pow (x_int) (x_int))) (x_cal ft c__law_drawn hr (x_cons (h1 := x_var 0) (x_cons (h1 := x_bin (bin_add ft) (x_var 1) (x_int)) (x_nil))))) sc.nd) (s_cons (s_set (i := 8) (x_cal ft c__law_drawn_figures hr (x_cons (h1 := x_var 3) (x_cons (h1 := x_var 7) (x_cons (h1 := x_ix ft (x_var 6) (x_int)) (x_nil))))) sc.nd) (s_cons (s_set (i := 9) (x_cal ft c__law_drawn_figures hr (x_cons (h1 := x_var 3) (x_cons (h1 := x_cal ft c__law_drawn hr (x_cons (h1 := x_var 0) (x_cons (h1 := x_bin (bin_add ft) (x_var 1) (x_int)) (x_nil)))) (x_cons (h1 := x_ix ft (x_var 6) (x_int)) (x_nil))))) sc.nd) (s_cons (s_set (i := 10) (x_cal ft c__law_value hr (x_cons (h1 := x_var 3) (x_cons (h1 := x_var 4) (x_cons (h1 := x_var 8) (x_cons (h1 := x_var 9) (x_nil)))))) sc.nd) (s_cons (s_set (i := 11) (x_tup (x_cons (h1 := x_bty ft (b_list ft) (by rfl) g.n_list bt_list (x_cons (h1 := x_var 8) (x_nil))) (x_cons (h1 := x_bty ft (b_list ft) (by rfl) g.n_list bt_list (x_cons (h1 := x_var 9) (x_nil))) (x_nil)))) sc.nd) (s_cons (s_set (i := 12) (x_cal ft c_by_figures hr (x_cons (h1 := x_var 3) (x_cons (h1 := x_var 4) (x_cons (h1 := x_ix ft (x_var 11) (x_int)) (x_cons (h1 := x_ix ft (x_var 11) (x_int)) (x_nil)))))) sc.nd) (s_cons (s_if ((x_or (x_not (x_truth ft (x_cal ft c__law_is_fraction hr (x_cons (h1 := x_var 12) (x_nil))))) (x_or (x_tcmp (bin_ne ft hr.units) bl_ne (x_var 12) (x_var 10) (nomark _)) (x_or1 (x_tcmp (bin_ne ft hr.units) bl_ne (x_var 11) (x_tup (x_cons (h1 := x_var 8) (x_cons (h1 := x_var 9) (x_nil)))) (nomark _))))).pt) (s_one (s_ret (x_bl))) (s_nil)) (s_cons (s_if ((x_and (x_tcmp bin_lt bl_lt (x_blt ft (b_len ft) (by rfl) g.n_len bt_len (x_cons (h1 := x_var 9) (x_nil))) (x_int) (nomark _)) (x_and1 (x_tcmp (bin_ne ft hr.units) bl_ne (x_cal ft c_by_figures hr (x_cons (h1 := x_var 3) (x_cons (h1 := x_var 4) (x_cons (h1 := x_var 8) (x_cons (h1 := x_bin (bin_add ft) (x_var 9) (x_var 9)) (x_nil)))))) (x_var 10) (nomark _)))).pt) (s_one (s_ret (x_bl))) (s_nil)) (s_cons (s_if (x_tcmp bin_lt bl_lt (x_blt ft (b_len ft) (by rfl) g.n_len bt_len (x_cons (h1 := x_var 8) (x_nil))) (x_int) (nomark _)) (s_cons (s_set (i := 13) (x_cal ft c_by_figures hr (x_cons (h1 := x_var 3) (x_cons (h1 := x_var 4) (x_cons (h1 := x_bin (bin_add ft) (x_var 8) (x_sl ft (x_var 9) (po_n) (po_s (x_int)))) (x_cons (h1 := x_bin (bin_add ft) (x_sl ft (x_var 9) (po_s (x_int)) (po_n)) (x_sl ft (x_var 9) (po_n) (po_s (x_int)))) (x_nil)))))) sc.nd) (s_one (s_if (x_tcmp (bin_ne ft hr.units) bl_ne (x_var 13) (x_var 10) (nomark _)) (s_one (s_ret (x_bl))) (s_nil)))) (s_nil)) (s_one (s_if (x_tcmp bin_lt bl_lt (x_bin bin_fdiv (x_ix ft (x_var 10) (x_int)) (x_cal ft c__law_up hr (x_cons (h1 := x_var 3) (x_cons (h1 := x_cal ft c__law_power hr (x_cons (h1 := x_var 3) (x_cons (h1 := x_ix ft (x_var 10) (x_int)) (x_nil)))) (x_nil))))) (x_int) (nomark _)) (s_cons (s_set (i := 14) (x_cal ft c_figures hr (x_cons (h1 := x_var 3) (x_cons (h1 := x_var 12) (x_nil)))) sc.nd) (s_one (s_if (x_tcmp (bin_ne ft hr.units) bl_ne (x_cal ft c_by_figures hr (x_cons (h1 := x_var 3) (x_cons (h1 := x_ix ft (x_var 14) (x_int)) (x_cons (h1 := x_ix ft (x_var 14) (x_int)) (x_cons (h1 := x_ix ft (x_var 14) (x_int)) (x_nil)))))) (x_var 10) (nomark _)) (s_one (s_ret (x_bl))) (s_nil)))) (s_nil)))))))))))))))))))) (s_one (s_ret (x_bl)))
theorem cal_law (g : Gf K mg) (G : FnOk P w K mg base (L2.CX P w) 5 (He.ga K "law") (g.d_law.choose) ["_law_script"] (spF K mg f_law)) : Cal P w K mg base "law" 5 [] f_law :=
  ⟨_, _, _, [], [], G, g.m_law, g.d_law.choose_spec.kp, g.d_law.choose_spec.bindsN (fun _ _ _ _ _ _ us hl => match us, hl with | [_], _ => rfl), .nil, fun _ => .nil⟩
theorem ok_all (g : Gf K mg) : FnOk P w K mg base (L2.CX P w) 5 (He.ga K "law") (g.d_law.choose) ["_law_script"] (spF K mg f_law) := by
  have o_shared := ok_shared (P := P) (w := w) (base := base) g 
  have c_shared := cal_shared g o_shared
  have o_power_of := ok_power_of (P := P) (w := w) (base := base) g 
  have c_power_of := cal_power_of g o_power_of
  have o_raised := ok_raised (P := P) (w := w) (base := base) g 
  have c_raised := cal_raised g o_raised
  have o_worth := ok_worth (P := P) (w := w) (base := base) g 
  have c_worth := cal_worth g o_worth
  have o__law_up := ok__law_up (P := P) (w := w) (base := base) g 
  have c__law_up := cal__law_up g o__law_up
  have o__law_drawn := ok__law_drawn (P := P) (w := w) (base := base) g 
  have c__law_drawn := cal__law_drawn g o__law_drawn
  have o__law_whole := ok__law_whole (P := P) (w := w) (base := base) g 
  have c__law_whole := cal__law_whole g o__law_whole
  have o__law_divisor := ok__law_divisor (P := P) (w := w) (base := base) g 
  have c__law_divisor := cal__law_divisor g o__law_divisor
  have o__law_prime := ok__law_prime (P := P) (w := w) (base := base) g 
  have c__law_prime := cal__law_prime g o__law_prime
  have o__law_power := ok__law_power (P := P) (w := w) (base := base) g 
  have c__law_power := cal__law_power g o__law_power
  have o__law_drawn_figures := ok__law_drawn_figures (P := P) (w := w) (base := base) g 
  have c__law_drawn_figures := cal__law_drawn_figures g o__law_drawn_figures
  have o_over_by := ok_over_by (P := P) (w := w) (base := base) g c_raised
  have c_over_by := cal_over_by g o_over_by
  have o_fraction := ok_fraction (P := P) (w := w) (base := base) g c_shared
  have c_fraction := cal_fraction g o_fraction
  have o_prime_power := ok_prime_power (P := P) (w := w) (base := base) g c_raised
  have c_prime_power := cal_prime_power g o_prime_power
  have o__law_lowest := ok__law_lowest (P := P) (w := w) (base := base) g c__law_divisor
  have c__law_lowest := cal__law_lowest g o__law_lowest
  have o__law_is_fraction := ok__law_is_fraction (P := P) (w := w) (base := base) g c__law_divisor c__law_whole
  have c__law_is_fraction := cal__law_is_fraction g o__law_is_fraction
  have o__law_pp := ok__law_pp (P := P) (w := w) (base := base) g c__law_up
  have c__law_pp := cal__law_pp g o__law_pp
  have o__law_worth := ok__law_worth (P := P) (w := w) (base := base) g c__law_up
  have c__law_worth := cal__law_worth g o__law_worth
  have o_plus := ok_plus (P := P) (w := w) (base := base) g c_fraction
  have c_plus := cal_plus g o_plus
  have o_times := ok_times (P := P) (w := w) (base := base) g c_fraction
  have c_times := cal_times g o_times
  have o_figures := ok_figures (P := P) (w := w) (base := base) g c_over_by c_power_of c_raised
  have c_figures := cal_figures g o_figures
  have o__law_sum := ok__law_sum (P := P) (w := w) (base := base) g c__law_lowest
  have c__law_sum := cal__law_sum g o__law_sum
  have o__law_product := ok__law_product (P := P) (w := w) (base := base) g c__law_lowest
  have c__law_product := cal__law_product g o__law_product
  have o_by_figures := ok_by_figures (P := P) (w := w) (base := base) g c_fraction c_plus c_prime_power c_raised c_times c_worth
  have c_by_figures := cal_by_figures g o_by_figures
  have o__law_value := ok__law_value (P := P) (w := w) (base := base) g c__law_lowest c__law_pp c__law_product c__law_sum c__law_up c__law_worth
  have c__law_value := cal__law_value g o__law_value
  exact ok_law g c__law_drawn c__law_drawn_figures c__law_is_fraction c__law_power c__law_prime c__law_up c__law_value c_by_figures c_figures
end
/-! ### the head -/
def dd_shared : He.DefD := ⟨("shared", none), "shared", "shared", defArgs s_shared, defBody s_shared, defScope s_shared, [], []⟩
def dd_power_of : He.DefD := ⟨("power_of", none), "power_of", "power_of", defArgs s_power_of, defBody s_power_of, defScope s_power_of, [], []⟩
def dd_raised : He.DefD := ⟨("raised", none), "raised", "raised", defArgs s_raised, defBody s_raised, defScope s_raised, [], []⟩
def dd_over_by : He.DefD := ⟨("over_by", none), "over_by", "over_by", defArgs s_over_by, defBody s_over_by, defScope s_over_by, [], []⟩
def dd_fraction : He.DefD := ⟨("fraction", none), "fraction", "fraction", defArgs s_fraction, defBody s_fraction, defScope s_fraction, [He.Dv.int 1], []⟩
def dd_plus : He.DefD := ⟨("plus", none), "plus", "plus", defArgs s_plus, defBody s_plus, defScope s_plus, [], []⟩
def dd_times : He.DefD := ⟨("times", none), "times", "times", defArgs s_times, defBody s_times, defScope s_times, [], []⟩
def dd_prime_power : He.DefD := ⟨("prime_power", none), "prime_power", "prime_power", defArgs s_prime_power, defBody s_prime_power, defScope s_prime_power, [], []⟩
def dd_figures : He.DefD := ⟨("figures", none), "figures", "figures", defArgs s_figures, defBody s_figures, defScope s_figures, [], []⟩
def dd_worth : He.DefD := ⟨("worth", none), "worth", "worth", defArgs s_worth, defBody s_worth, defScope s_worth, [], []⟩
def dd_by_figures : He.DefD := ⟨("by_figures", none), "by_figures", "by_figures", defArgs s_by_figures, defBody s_by_figures, defScope s_by_figures, [], []⟩
def dd__law_up : He.DefD := ⟨("_law_up", none), "_law_up", "_law_up", defArgs s__law_up, defBody s__law_up, defScope s__law_up, [], []⟩
def dd__law_drawn : He.DefD := ⟨("_law_drawn", none), "_law_drawn", "_law_drawn", defArgs s__law_drawn, defBody s__law_drawn, defScope s__law_drawn, [], []⟩
def dd__law_whole : He.DefD := ⟨("_law_whole", none), "_law_whole", "_law_whole", defArgs s__law_whole, defBody s__law_whole, defScope s__law_whole, [], []⟩
def dd__law_divisor : He.DefD := ⟨("_law_divisor", none), "_law_divisor", "_law_divisor", defArgs s__law_divisor, defBody s__law_divisor, defScope s__law_divisor, [], []⟩
def dd__law_lowest : He.DefD := ⟨("_law_lowest", none), "_law_lowest", "_law_lowest", defArgs s__law_lowest, defBody s__law_lowest, defScope s__law_lowest, [], []⟩
def dd__law_is_fraction : He.DefD := ⟨("_law_is_fraction", none), "_law_is_fraction", "_law_is_fraction", defArgs s__law_is_fraction, defBody s__law_is_fraction, defScope s__law_is_fraction, [], []⟩
def dd__law_prime : He.DefD := ⟨("_law_prime", none), "_law_prime", "_law_prime", defArgs s__law_prime, defBody s__law_prime, defScope s__law_prime, [], []⟩
def dd__law_power : He.DefD := ⟨("_law_power", none), "_law_power", "_law_power", defArgs s__law_power, defBody s__law_power, defScope s__law_power, [], []⟩
def dd__law_sum : He.DefD := ⟨("_law_sum", none), "_law_sum", "_law_sum", defArgs s__law_sum, defBody s__law_sum, defScope s__law_sum, [], []⟩
def dd__law_product : He.DefD := ⟨("_law_product", none), "_law_product", "_law_product", defArgs s__law_product, defBody s__law_product, defScope s__law_product, [], []⟩
def dd__law_pp : He.DefD := ⟨("_law_pp", none), "_law_pp", "_law_pp", defArgs s__law_pp, defBody s__law_pp, defScope s__law_pp, [], []⟩
def dd__law_worth : He.DefD := ⟨("_law_worth", none), "_law_worth", "_law_worth", defArgs s__law_worth, defBody s__law_worth, defScope s__law_worth, [], []⟩
def dd__law_value : He.DefD := ⟨("_law_value", none), "_law_value", "_law_value", defArgs s__law_value, defBody s__law_value, defScope s__law_value, [], []⟩
def dd__law_drawn_figures : He.DefD := ⟨("_law_drawn_figures", none), "_law_drawn_figures", "_law_drawn_figures", defArgs s__law_drawn_figures, defBody s__law_drawn_figures, defScope s__law_drawn_figures, [], []⟩
def dd_law : He.DefD := ⟨("law", none), "law", "law", defArgs s_law, defBody s_law, defScope s_law, [], []⟩
def fns : List He.DefD := [dd_shared, dd_power_of, dd_raised, dd_over_by, dd_fraction, dd_plus, dd_times, dd_prime_power, dd_figures, dd_worth, dd_by_figures, dd__law_up, dd__law_drawn, dd__law_whole, dd__law_divisor, dd__law_lowest, dd__law_is_fraction, dd__law_prime, dd__law_power, dd__law_sum, dd__law_product, dd__law_pp, dd__law_worth, dd__law_value, dd__law_drawn_figures, dd_law]
def fas : List He.Fa := ([.glo "shared", .glo "power_of", .glo "raised", .glo "over_by", .glo "fraction", .glo "plus", .glo "times", .glo "prime_power", .glo "figures", .glo "worth", .glo "by_figures", .glo "_law_up", .glo "_law_drawn", .glo "_law_whole", .glo "_law_divisor", .glo "_law_lowest", .glo "_law_is_fraction", .glo "_law_prime", .glo "_law_power", .glo "_law_sum", .glo "_law_product", .glo "_law_pp", .glo "_law_worth", .glo "_law_value", .glo "_law_drawn_figures", .glo "law", .free "abs", .free "bool", .free "int", .free "isinstance"] : List He.Fa) ++ ([.free "len", .free "list", .free "max", .free "min", .free "range", .free "reversed", .free "tuple", .glo "NoFraction", .exc "NoFraction", .glo "TooMany", .exc "TooMany"] : List He.Fa)
def exs : List (PySem.W.Frag → Bool) := [conD "MOST_BOTTOM" k_MOST_BOTTOM]
abbrev Rw : PySem.W.OpenRow := PySem.W.OpenLaw.row PySem.Challenge.rw_primetree_k65_fractions_by_figures
abbrev hk : PySem.W.Hook := hookP 6 fas fns exs
def ob (s : PySem.W.SharedT) : AlP := obsPG 6 fas fns exs (HandSHeadRun.getT s)
theorem ob_eq (s : PySem.W.SharedT) : ob s = hk.obs s.abs := obsPG_eq (HandSHeadRun.getT_eq s)
def loose : List Str := ["TreeError", "NoFraction", "TooMany", "MOST_BOTTOM", "shared", "power_of", "raised", "over_by", "fraction", "plus", "times", "prime_power", "figures", "worth", "by_figures", "_law_up", "_law_drawn", "_law_whole", "_law_divisor", "_law_lowest", "_law_is_fraction", "_law_prime", "_law_power", "_law_sum", "_law_product", "_law_pp", "_law_worth", "_law_value", "_law_drawn_figures"]
theorem run (w : World) : HandSHeadRun.RunEq Rw (PySem.W.view Rw.prog [34]) hk ob 20000 loose w := by
  intro os
  kernel_rfl
theorem gf {K : PySem.W.Frag} {h : Heap} {mg : Str → Option Value} (X : K.In h) (G : h.Ns mainGlobals mg) (c : SaysP fas fns exs K) : Gf K mg where
  d_shared := c.d.def_ 0 (d := dd_shared) rfl
  m_shared := He.glo_ok X G (c.d.fact 0 (f := .glo "shared") rfl)
  d_power_of := c.d.def_ 1 (d := dd_power_of) rfl
  m_power_of := He.glo_ok X G (c.d.fact 1 (f := .glo "power_of") rfl)
  d_raised := c.d.def_ 2 (d := dd_raised) rfl
  m_raised := He.glo_ok X G (c.d.fact 2 (f := .glo "raised") rfl)
  d_over_by := c.d.def_ 3 (d := dd_over_by) rfl
  m_over_by := He.glo_ok X G (c.d.fact 3 (f := .glo "over_by") rfl)
  d_fraction := c.d.def_ 4 (d := dd_fraction) rfl
  m_fraction := He.glo_ok X G (c.d.fact 4 (f := .glo "fraction") rfl)
  d_plus := c.d.def_ 5 (d := dd_plus) rfl
  m_plus := He.glo_ok X G (c.d.fact 5 (f := .glo "plus") rfl)
  d_times := c.d.def_ 6 (d := dd_times) rfl
  m_times := He.glo_ok X G (c.d.fact 6 (f := .glo "times") rfl)
  d_prime_power := c.d.def_ 7 (d := dd_prime_power) rfl
  m_prime_power := He.glo_ok X G (c.d.fact 7 (f := .glo "prime_power") rfl)
  d_figures := c.d.def_ 8 (d := dd_figures) rfl
  m_figures := He.glo_ok X G (c.d.fact 8 (f := .glo "figures") rfl)
  d_worth := c.d.def_ 9 (d := dd_worth) rfl
  m_worth := He.glo_ok X G (c.d.fact 9 (f := .glo "worth") rfl)
  d_by_figures := c.d.def_ 10 (d := dd_by_figures) rfl
  m_by_figures := He.glo_ok X G (c.d.fact 10 (f := .glo "by_figures") rfl)
  d__law_up := c.d.def_ 11 (d := dd__law_up) rfl
  m__law_up := He.glo_ok X G (c.d.fact 11 (f := .glo "_law_up") rfl)
  d__law_drawn := c.d.def_ 12 (d := dd__law_drawn) rfl
  m__law_drawn := He.glo_ok X G (c.d.fact 12 (f := .glo "_law_drawn") rfl)
  d__law_whole := c.d.def_ 13 (d := dd__law_whole) rfl
  m__law_whole := He.glo_ok X G (c.d.fact 13 (f := .glo "_law_whole") rfl)
  d__law_divisor := c.d.def_ 14 (d := dd__law_divisor) rfl
  m__law_divisor := He.glo_ok X G (c.d.fact 14 (f := .glo "_law_divisor") rfl)
  d__law_lowest := c.d.def_ 15 (d := dd__law_lowest) rfl
  m__law_lowest := He.glo_ok X G (c.d.fact 15 (f := .glo "_law_lowest") rfl)
  d__law_is_fraction := c.d.def_ 16 (d := dd__law_is_fraction) rfl
  m__law_is_fraction := He.glo_ok X G (c.d.fact 16 (f := .glo "_law_is_fraction") rfl)
  d__law_prime := c.d.def_ 17 (d := dd__law_prime) rfl
  m__law_prime := He.glo_ok X G (c.d.fact 17 (f := .glo "_law_prime") rfl)
  d__law_power := c.d.def_ 18 (d := dd__law_power) rfl
  m__law_power := He.glo_ok X G (c.d.fact 18 (f := .glo "_law_power") rfl)
  d__law_sum := c.d.def_ 19 (d := dd__law_sum) rfl
  m__law_sum := He.glo_ok X G (c.d.fact 19 (f := .glo "_law_sum") rfl)
  d__law_product := c.d.def_ 20 (d := dd__law_product) rfl
  m__law_product := He.glo_ok X G (c.d.fact 20 (f := .glo "_law_product") rfl)
  d__law_pp := c.d.def_ 21 (d := dd__law_pp) rfl
  m__law_pp := He.glo_ok X G (c.d.fact 21 (f := .glo "_law_pp") rfl)
  d__law_worth := c.d.def_ 22 (d := dd__law_worth) rfl
  m__law_worth := He.glo_ok X G (c.d.fact 22 (f := .glo "_law_worth") rfl)
  d__law_value := c.d.def_ 23 (d := dd__law_value) rfl
  m__law_value := He.glo_ok X G (c.d.fact 23 (f := .glo "_law_value") rfl)
  d__law_drawn_figures := c.d.def_ 24 (d := dd__law_drawn_figures) rfl
  m__law_drawn_figures := He.glo_ok X G (c.d.fact 24 (f := .glo "_law_drawn_figures") rfl)
  d_law := c.d.def_ 25 (d := dd_law) rfl
  m_law := He.glo_ok X G (c.d.fact 25 (f := .glo "law") rfl)
  n_abs := He.free_ok X G (c.d.fact 26 (f := .free "abs") rfl)
  n_bool := He.free_ok X G (c.d.fact 27 (f := .free "bool") rfl)
  n_int := He.free_ok X G (c.d.fact 28 (f := .free "int") rfl)
  n_isinstance := He.free_ok X G (c.d.fact 29 (f := .free "isinstance") rfl)
  n_len := He.free_ok X G (c.d.fact 30 (f := .free "len") rfl)
  n_list := He.free_ok X G (c.d.fact 31 (f := .free "list") rfl)
  n_max := He.free_ok X G (c.d.fact 32 (f := .free "max") rfl)
  n_min := He.free_ok X G (c.d.fact 33 (f := .free "min") rfl)
  n_range := He.free_ok X G (c.d.fact 34 (f := .free "range") rfl)
  n_reversed := He.free_ok X G (c.d.fact 35 (f := .free "reversed") rfl)
  n_tuple := He.free_ok X G (c.d.fact 36 (f := .free "tuple") rfl)
  k_MOST_BOTTOM := conD_ok X G (c.ex 0 (e := conD "MOST_BOTTOM" k_MOST_BOTTOM) rfl)
  x_NoFraction := xf_of X G (c.d.fact 37 (f := .glo "NoFraction") rfl) (c.d.fact 38 (f := .exc "NoFraction") rfl)
  x_TooMany := xf_of X G (c.d.fact 39 (f := .glo "TooMany") rfl) (c.d.fact 40 (f := .exc "TooMany") rfl)
end PL
open PySem PySem.W PySem.Calls PyProof.Rows
set_option maxRecDepth 100000 in
set_option maxHeartbeats 0 in
theorem PySem.Challenge.cw_primetree_k65_fractions_by_figures_holds : PySem.Challenge.rw_primetree_k65_fractions_by_figures.Holds := by
  w_on; o_law
  refine HandSHeadRun.head_any (r := PL.Rw) (q := PySem.W.view PL.Rw.prog [34]) (H := PL.hk) (ob := PL.ob) (M := 20000) (loose := PL.loose) (d := HandSHeadRun.topDef PL.Rw.prog 34) (kwd := []) PL.ob_eq (by kernel_rfl) (fun s => by kernel_rfl) PL.run (by kernel_rfl) (by kernel_rfl) (by kernel_rfl) (by rfl) (by first | assumption | decide +kernel) (by decide +kernel) ⟨rfl, rfl, rfl, rfl, rfl, by decide +kernel⟩ ?hw ?hc
  case hw => w_witness2
  case hc =>
    refine PT.law_end (l := PySem.Challenge.rw_primetree_k65_fractions_by_figures) (k := 5) (x := "_law_script") PT.f_law rfl (by kernel_rfl) ⟨rfl, by decide, by decide⟩ ?F PT.law_true
    intro w mg fa h Y G hmg
    obtain ⟨K, KX, c⟩ := Y
    have e : (HandSHeadRun.topDef PL.Rw.prog 34).name = ("law" : PySem.Str) := by kernel_rfl
    rw [e] at hmg
    have g := PL.gf KX G c
    have q := hmg.symm.trans g.m_law
    cases q
    exact ⟨K, g.d_law.choose, KX, fun s v => L2.FunD.bindsA (ps := ["_law_script"]) g.d_law.choose_spec (fun _ _ _ _ _ _ us hl => match us, hl with | [_], _ => rfl) s [v] rfl, fun base _ _ => PL.ok_all g⟩
