import PyProof.Rows.All
import Wide.All
import OpenK.AllK
import Wide.FinOn
import PyProof.EqAt
import PyProof.EqKinds
import PyProof.TupleCall
import PyProof.NoPylong
import HandS.ForSpec
import HandS.Comp
import HandS.Iter
import HandS.Zip
import HandS.IsInst
import HandS.CallSlots
import HandS.Wide
import HandS.Defaults
import HandS.HeadHook1
import HandS.Deep
import HandS.TupLe
import HandS.RevRange
import HandS.Head0
import HandS.Head1
import HandS.Head2
import HandS.HeadEnd
import HandS.HeadHook2
import HandS.EndBits
import HandS.Nested
import HandS.EndTab
import HandS.HeadHook3
import HandS.HeadHook4
import HandS.HeadWalk
import PySem.Challenge.RW_primetree_k51_spots_moved
set_option Elab.async false
set_option linter.all false
set_option maxRecDepth 100000
set_option maxHeartbeats 4000000
/-! PT: a pure layer over HandS: data D seen through the heap, expressions as functions of an environment, statements as predicate transformers. -/
namespace PT
open PySem PySem.Spec PyProof.Rows L2
abbrev St := L2.St

/-! ### data -/
/-- what a boxed thing is: a dict with whole numbers as keys, an instance of the class c with these fields -/
inductive Tg where
  | dic (ks : List Int) | ins (c : Str) (fs : List Str)
inductive D where
  | non | bl (b : Bool) | int (i : Int) | str (x : Str) | tup (ds : List D) | lst (ds : List D) | scr (ds : List D) | raw (v : V) | box (t : Tg) (ds : List D)
def BoxAt (K : PySem.W.Frag) (F : Hp) (t : Tg) (a : Addr) (vs : List V) : Prop := match t with
  | .dic ks => F a = some (.dK ((ks.map fun k => (Sum.inl k : Key)).zip vs)) ∧ ks.length = vs.length
  | .ins c fs => (∃ dx, F a = some (.ins (He.ga K c) dx (fs.zip vs))) ∧ fs.length = vs.length
theorem BoxAt.mono {K : PySem.W.Frag} {F F' : Hp} {t : Tg} {a : Addr} {vs : List V} (s : Same F F') (h : BoxAt K F t a vs) : BoxAt K F' t a vs := by
  cases t with
  | dic ks => exact ⟨s _ _ h.1, h.2⟩
  | ins c fs => exact ⟨let ⟨dx, e⟩ := h.1; ⟨dx, s _ _ e⟩, h.2⟩

mutual
inductive Rep (K : PySem.W.Frag) (F : Hp) : D → V → Prop
  | non : Rep K F .non .non
  | bl (b : Bool) : Rep K F (.bl b) (.bl b)
  | int (i : Int) : Rep K F (.int i) (.int i)
  | str (x : Str) : Rep K F (.str x) (.str x)
  | tup {a : Addr} {vs : List V} {ds : List D} : SqT K F a vs → RepL K F ds vs → Rep K F (.tup ds) (.ref a)
  | lst {a : Addr} {vs : List V} {ds : List D} : F a = some (.lst vs) → RepL K F ds vs → Rep K F (.lst ds) (.ref a)
  | scr {a : Addr} {vs : List V} {ds : List D} : SqL K F a vs → RepL K F ds vs → Rep K F (.scr ds) (.ref a)
  | raw (v : V) : Rep K F (.raw v) v
  | box {t : Tg} {a : Addr} {vs : List V} {ds : List D} : BoxAt K F t a vs → RepL K F ds vs → Rep K F (.box t ds) (.ref a)
inductive RepL (K : PySem.W.Frag) (F : Hp) : List D → List V → Prop
  | nil : RepL K F [] []
  | cons {d : D} {v : V} {ds : List D} {vs : List V} : Rep K F d v → RepL K F ds vs → RepL K F (d :: ds) (v :: vs)
end

theorem seqT_mono {K : PySem.W.Frag} {H H' : Hp} {a : Addr} {xs : List V} (e : Same H H') (h : SqT K H a xs) : SqT K H' a xs := by
  rcases h with (h | ⟨o, h⟩) | h
  · exact .inl (.inl (e _ _ h))
  · exact .inl (.inr ⟨o, e _ _ h⟩)
  · exact .inr h

mutual
theorem Rep.mono {K : PySem.W.Frag} {F F' : Hp} (s : Same F F') : ∀ (d : D) (v : V), Rep K F d v → Rep K F' d v
  | .non, _, h => by cases h; exact .non
  | .bl _, _, h => by cases h; exact .bl _
  | .int _, _, h => by cases h; exact .int _
  | .str _, _, h => by cases h; exact .str _
  | .tup ds, _, h => by cases h with | tup q r => exact .tup (seqT_mono s q) (RepL.mono s ds _ r)
  | .lst ds, _, h => by cases h with | lst q r => exact .lst (s _ _ q) (RepL.mono s ds _ r)
  | .scr ds, _, h => by cases h with | scr q r => exact .scr (s.seq q) (RepL.mono s ds _ r)
  | .raw _, _, h => by cases h; exact .raw _
  | .box t ds, _, h => by cases h with | box q r => exact .box (q.mono s) (RepL.mono s ds _ r)
theorem RepL.mono {K : PySem.W.Frag} {F F' : Hp} (s : Same F F') : ∀ (ds : List D) (vs : List V), RepL K F ds vs → RepL K F' ds vs
  | [], _, h => by cases h; exact .nil
  | d :: ds, _, h => by cases h with | cons a b => exact .cons (Rep.mono s d _ a) (RepL.mono s ds _ b)
end

theorem RepL.len {K : PySem.W.Frag} {F : Hp} : ∀ {ds : List D} {vs : List V}, RepL K F ds vs → ds.length = vs.length
  | [], _, h => by cases h; rfl
  | _ :: ds, _, h => by cases h with | cons a b => simp [RepL.len b]
theorem RepL.get {K : PySem.W.Frag} {F : Hp} : ∀ {ds : List D} {vs : List V} {i : Nat} {d : D}, RepL K F ds vs → ds[i]? = some d → ∃ v, vs[i]? = some v ∧ Rep K F d v
  | [], _, i, d, h, e => by simp at e
  | x :: ds, _, 0, d, h, e => by
    cases h with | cons a b => simp at e; subst e; exact ⟨_, rfl, a⟩
  | x :: ds, _, i + 1, d, h, e => by
    cases h with | cons a b =>
      obtain ⟨v, e1, e2⟩ := RepL.get (i := i) b (by simpa using e)
      exact ⟨v, by simpa using e1, e2⟩
theorem RepL.get' {K : PySem.W.Frag} {F : Hp} : ∀ {ds : List D} {vs : List V} {i : Nat} {v : V}, RepL K F ds vs → vs[i]? = some v → ∃ d, ds[i]? = some d ∧ Rep K F d v
  | [], _, i, d, h, e => by cases h; simp at e
  | x :: ds, _, 0, d, h, e => by
    cases h with | cons a b => simp at e; subst e; exact ⟨_, rfl, a⟩
  | x :: ds, _, i + 1, d, h, e => by
    cases h with | cons a b =>
      obtain ⟨v, e1, e2⟩ := RepL.get' (i := i) b (by simpa using e)
      exact ⟨v, by simpa using e1, e2⟩
theorem RepL.append {K : PySem.W.Frag} {F : Hp} : ∀ {ds : List D} {vs : List V} {es : List D} {ws : List V}, RepL K F ds vs → RepL K F es ws → RepL K F (ds ++ es) (vs ++ ws)
  | [], _, _, _, h, k => by cases h; exact k
  | _ :: ds, _, _, _, h, k => by cases h with | cons a b => exact .cons a (RepL.append b k)
theorem RepL.take {K : PySem.W.Frag} {F : Hp} (n : Nat) : ∀ {ds : List D} {vs : List V}, RepL K F ds vs → RepL K F (ds.take n) (vs.take n) := by
  induction n with
  | zero => intro ds vs h; simp; exact .nil
  | succ n ih =>
    intro ds vs h
    cases h with
    | nil => simp; exact .nil
    | cons a b => simp only [List.take_succ_cons]; exact .cons a (ih b)
theorem RepL.drop {K : PySem.W.Frag} {F : Hp} (n : Nat) : ∀ {ds : List D} {vs : List V}, RepL K F ds vs → RepL K F (ds.drop n) (vs.drop n) := by
  induction n with
  | zero => intro ds vs h; simpa using h
  | succ n ih =>
    intro ds vs h
    cases h with
    | nil => simp; exact .nil
    | cons a b => simp only [List.drop_succ_cons]; exact ih b
theorem RepL.reverse {K : PySem.W.Frag} {F : Hp} : ∀ {ds : List D} {vs : List V}, RepL K F ds vs → RepL K F ds.reverse vs.reverse
  | [], _, h => by cases h; exact .nil
  | d :: ds, _, h => by
    cases h with | cons a b =>
      simp only [List.reverse_cons]
      exact (RepL.reverse b).append (.cons a .nil)
theorem RepL.ints {K : PySem.W.Frag} {F : Hp} : ∀ {ns : List Int} {vs : List V}, RepL K F (ns.map D.int) vs → vs = ns.map V.int
  | [], _, h => by cases h; rfl
  | n :: ns, _, h => by
    simp only [List.map_cons] at h
    cases h with | cons a b => cases a; simp [RepL.ints b]
theorem RepL.ofInts {K : PySem.W.Frag} {F : Hp} : ∀ (ns : List Int), RepL K F (ns.map D.int) (ns.map V.int)
  | [] => .nil
  | n :: ns => .cons (.int n) (RepL.ofInts ns)
theorem RepL.bls {K : PySem.W.Frag} {F : Hp} : ∀ {ns : List Bool} {vs : List V}, RepL K F (ns.map D.bl) vs → vs = ns.map V.bl
  | [], _, h => by cases h; rfl
  | n :: ns, _, h => by
    simp only [List.map_cons] at h
    cases h with | cons a b => cases a; simp [RepL.bls b]

/-! ### slots, results -/
inductive SV where
  | d (x : D) | own (xs : List D)
inductive R where
  | ok (v : SV) | ex (x : Str) (p : Option Int)
inductive RL where
  | ok (ds : List D) | ex (x : Str) (p : Option Int)
inductive RB where
  | ok (b : Bool) | ex (x : Str) (p : Option Int)
abbrev En := List (Option SV)
abbrev EF := En → Option R
abbrev AF := En → Option RL
abbrev CF := En → Option RB
def toD : SV → D
  | .d x => x
  | .own xs => .lst xs

structure FR where
  K : PySem.W.Frag
  mg : Str → Option Value
  F0 : Hp
  H0 : Hp
  W : WX
  hot : Bool

def XR (mg : Str → Option Value) (H : Hp) (x : Str) (p : Option Int) (cls : Value) (d : Option Addr) : Prop :=
  mg x = some cls ∧ match p with
    | none => d = none
    | some n => ∃ dx, d = some dx ∧ H dx = some (.xd [("far", .int n)])

def RepS (K : PySem.W.Frag) (H0 F H : Hp) : SV → V → Prop
  | .d x, v => Rep K F x v
  | .own xs, v => ∃ a vs, v = .ref a ∧ H a = some (.lst vs) ∧ RepL K F xs vs ∧ F a = none ∧ H0 a = none

structure Good (C : FR) (F H : Hp) (σ : St) (ρ : En) : Prop where
  fh : Same F H
  h0 : Same C.H0 H
  f0 : Same C.F0 F
  nw : ∀ b o, F b = some o → C.F0 b = some o ∨ C.H0 b = none
  len : ρ.length = σ.length
  at_ : ∀ (i : Nat) (sv : SV), ρ[i]? = some (some sv) → ∃ v, σ[i]? = some (some v) ∧ RepS C.K C.H0 F H sv v
  ap : ∀ (i j : Nat) (xs ys : List D) (a : Addr), i ≠ j → ρ[i]? = some (some (.own xs)) → ρ[j]? = some (some (.own ys)) → σ[i]? = some (some (.ref a)) → σ[j]? = some (some (.ref a)) → False

def Apart (σ : St) (ρ : En) (sv : SV) (v : V) : Prop := ∀ xs, sv = .own xs → ∀ (i : Nat) (ys : List D), ρ[i]? = some (some (.own ys)) → σ[i]? = some (some v) → False
theorem Apart.d {σ : St} {ρ : En} {x : D} {v : V} : Apart σ ρ (.d x) v := fun _ e => by cases e
/-- a step of an expression: the data and the heap grow -/
structure Step (C : FR) (σ : St) (ρ : En) (F H F' H' : Hp) : Prop where
  g : Good C F' H' σ ρ
  s : Same F F'
  t : Same H H'
  gr : ∀ b o, F' b = some o → F b = some o ∨ H b = none
def PostE (C : FR) (σ : St) (ρ : En) (F H : Hp) (r : Option R) (Q : VK) : Prop :=
  match r with
  | none => False
  | some (.ok sv) => ∀ v F' H', Step C σ ρ F H F' H' → RepS C.K H F' H' sv v → Q v H'
  | some (.ex x p) => ∀ F' H' cls d, Step C σ ρ F H F' H' → XR C.mg H' x p cls d → C.W cls d σ H'
def PostA (C : FR) (σ : St) (ρ : En) (F H : Hp) (r : Option RL) (Q : List V → Hp → Prop) : Prop :=
  match r with
  | none => False
  | some (.ok ds) => ∀ vs F' H', Step C σ ρ F H F' H' → RepL C.K F' ds vs → Q vs H'
  | some (.ex x p) => ∀ F' H' cls d, Step C σ ρ F H F' H' → XR C.mg H' x p cls d → C.W cls d σ H'
def PostB (C : FR) (σ : St) (ρ : En) (F H : Hp) (r : Option RB) (Q : Bool → Hp → Prop) : Prop :=
  match r with
  | none => False
  | some (.ok b) => ∀ F' H', Step C σ ρ F H F' H' → Q b H'
  | some (.ex x p) => ∀ F' H' cls d, Step C σ ρ F H F' H' → XR C.mg H' x p cls d → C.W cls d σ H'

def lE (C : FR) (f : EF) : TE := fun σ H Q => ∃ ρ F, Good C F H σ ρ ∧ PostE C σ ρ F H (f ρ) Q
def lA (C : FR) (f : AF) : TA := fun σ H Q => ∃ ρ F, Good C F H σ ρ ∧ PostA C σ ρ F H (f ρ) Q
def lT (C : FR) (f : CF) : TT := fun σ H Q => ∃ ρ F, Good C F H σ ρ ∧ PostB C σ ρ F H (f ρ) Q

section
variable {X : Cx} {e : Expr} {es : List Expr}
theorem PE.imp {t t' : TE} (h : ∀ σ H Q, t' σ H Q → t σ H Q) (p : PE X e t) : PE X e t' := ⟨fun pins s σ H Q I q => p.run pins s σ H Q I (h σ H Q q)⟩
theorem PT.imp {t t' : TT} (h : ∀ σ H Q, t' σ H Q → t σ H Q) (p : L2.PT X e t) : L2.PT X e t' := ⟨fun pins s σ H Q I q => p.run pins s σ H Q I (h σ H Q q)⟩
theorem PW.imp {t t' : TT} (h : ∀ σ H Q, t' σ H Q → t σ H Q) (p : L2.PW X e t) : L2.PW X e t' := ⟨fun w pins s σ H Q I q => p.run w pins s σ H Q I (h σ H Q q)⟩
theorem PA.imp {t t' : TA} (h : ∀ σ H Q, t' σ H Q → t σ H Q) (p : PA X es t) : PA X es t' := ⟨fun pos pins s σ H Q I q => p.run pos pins s σ H Q I (h σ H Q q)⟩
theorem PSs.imp {st : List Stmt} {t t' : TS} (h : ∀ D σ H, t' D σ H → t D σ H) (p : PSs X st t) : PSs X st t' := ⟨fun pins s σ H D I q => p.run pins s σ H D I (h D σ H q)⟩
theorem PS.imp {st : Stmt} {t t' : TS} (h : ∀ D σ H, t' D σ H → t D σ H) (p : PS X st t) : PS X st t' := ⟨fun pins s σ H D I q => p.run pins s σ H D I (h D σ H q)⟩
end

section
variable {C : FR} {σ : St} {ρ : En} {F H F1 H1 : Hp} {Q : VK}
theorem Step.refl (G : Good C F H σ ρ) : Step C σ ρ F H F H := ⟨G, Same.refl F, Same.refl H, fun _ _ z => .inl z⟩
theorem Step.trans {F2 H2 : Hp} (a : Step C σ ρ F H F1 H1) (b : Step C σ ρ F1 H1 F2 H2) : Step C σ ρ F H F2 H2 :=
  ⟨b.g, a.s.trans b.s, a.t.trans b.t, fun q o z => (b.gr q o z).elim (fun z => a.gr q o z) fun z => .inr (a.t.free z)⟩
theorem RepS.base {K : PySem.W.Frag} {sv : SV} {v : V} {B B' : Hp} (s : Same B B') (r : RepS K B' F H sv v) : RepS K B F H sv v := by
  cases sv with
  | d x => exact r
  | own xs =>
    obtain ⟨a, vs, e1, e2, e3, e4, e5⟩ := r
    exact ⟨a, vs, e1, e2, e3, e4, s.free e5⟩
theorem PostE.mono {r : Option R} (h : PostE C σ ρ F H r Q) (s : Step C σ ρ F H F1 H1) : PostE C σ ρ F1 H1 r Q := by
  cases r with
  | none => exact h
  | some r =>
    cases r with
    | ok sv => exact fun v F' H' st q => h v F' H' (s.trans st) (q.base s.t)
    | ex x p => exact fun F' H' cls d st q => h F' H' cls d (s.trans st) q
theorem PostA.mono {r : Option RL} {Q : List V → Hp → Prop} (h : PostA C σ ρ F H r Q) (s : Step C σ ρ F H F1 H1) : PostA C σ ρ F1 H1 r Q := by
  cases r with
  | none => exact h
  | some r =>
    cases r with
    | ok sv => exact fun v F' H' st q => h v F' H' (s.trans st) q
    | ex x p => exact fun F' H' cls d st q => h F' H' cls d (s.trans st) q
theorem PostB.mono {r : Option RB} {Q : Bool → Hp → Prop} (h : PostB C σ ρ F H r Q) (s : Step C σ ρ F H F1 H1) : PostB C σ ρ F1 H1 r Q := by
  cases r with
  | none => exact h
  | some r =>
    cases r with
    | ok sv => exact fun F' H' st => h F' H' (s.trans st)
    | ex x p => exact fun F' H' cls d st q => h F' H' cls d (s.trans st) q
/-- a plain value comes, the heap as it stands -/
theorem PostE.val {x : D} {v : V} (h : PostE C σ ρ F H (some (.ok (.d x))) Q) (G : Good C F H σ ρ) (r : Rep C.K F x v) : Q v H := h v F H (Step.refl G) r

theorem same_upd {H : Hp} {p : Addr} {o : HO} (h : H p = none) : Same H (upd H p o) := fun b x e => by
  rw [upd_ne (ne_of_none e h)]
  exact e
/-- an own list becomes data -/
theorem Good.freeze {xs : List D} {v : V} (G : Good C F H σ ρ) (r : RepS C.K C.H0 F H (.own xs) v) (a : Apart σ ρ (.own xs) v) : ∃ F', Good C F' H σ ρ ∧ Same F F' ∧ Rep C.K F' (.lst xs) v := by
  obtain ⟨p, vs, rfl, hp, rl, fp, h0⟩ := r
  have sm : Same F (upd F p (.lst vs)) := same_upd fp
  refine ⟨upd F p (.lst vs), ⟨fun b o e => ?_, G.h0, G.f0.trans sm, fun b o e => ?_, G.len, fun i sv e => ?_, G.ap⟩, sm, .lst upd_same (RepL.mono sm _ _ rl)⟩
  · by_cases hb : b = p
    · subst hb; rw [upd_same] at e; cases e; exact hp
    · rw [upd_ne hb] at e; exact G.fh b o e
  · by_cases hb : b = p
    · subst hb; exact .inr h0
    · rw [upd_ne hb] at e; exact G.nw b o e
  · obtain ⟨w, e1, q⟩ := G.at_ i sv e
    refine ⟨w, e1, ?_⟩
    cases sv with
    | d x => exact Rep.mono sm _ _ q
    | own ys =>
      obtain ⟨p', vs', rfl, hp', rl', fp', h0'⟩ := q
      refine ⟨p', vs', rfl, hp', RepL.mono sm _ _ rl', ?_, h0'⟩
      rw [upd_ne (fun z => ?_)]
      · exact fp'
      · subst z; exact a xs rfl i ys e e1
theorem Good.apart {sv : SV} {v : V} {F' H' : Hp} (G : Good C F H σ ρ) (r : RepS C.K H F' H' sv v) : Apart σ ρ sv v := by
  intro xs ex i ys e1 e2
  subst ex
  obtain ⟨a, vs, rfl, _, _, _, h0⟩ := r
  obtain ⟨w, e3, p, ws, rfl, hp, _⟩ := G.at_ i _ e1
  rw [e2] at e3
  cases e3
  rw [hp] at h0
  cases h0
/-- a result becomes data -/
theorem Step.data {sv : SV} {v : V} (G : Good C F H σ ρ) (s : Step C σ ρ F H F1 H1) (r : RepS C.K H F1 H1 sv v) : ∃ F', Step C σ ρ F H F' H1 ∧ Rep C.K F' (toD sv) v := by
  cases sv with
  | d x => exact ⟨F1, s, r⟩
  | own xs =>
    have ap := G.apart r
    have r0 : RepS C.K C.H0 F1 H1 (.own xs) v := r.base G.h0
    obtain ⟨p, vs, rfl, hp, rl, fp, h0⟩ := r
    have sm : Same F1 (upd F1 p (.lst vs)) := same_upd fp
    obtain ⟨p', vs', ev, hp', rl', fp', h0'⟩ := r0
    cases ev
    refine ⟨upd F1 p (.lst vs), ⟨⟨fun b o e => ?_, s.g.h0, s.g.f0.trans sm, fun b o e => ?_, s.g.len, fun i sv e => ?_, s.g.ap⟩, s.s.trans sm, s.t, fun b o e => ?_⟩, .lst upd_same (RepL.mono sm _ _ rl)⟩
    · by_cases hb : b = p
      · subst hb; rw [upd_same] at e; cases e; exact hp
      · rw [upd_ne hb] at e; exact s.g.fh b o e
    · by_cases hb : b = p
      · subst hb; exact .inr h0'
      · rw [upd_ne hb] at e; exact s.g.nw b o e
    · obtain ⟨w, e1, q⟩ := s.g.at_ i sv e
      refine ⟨w, e1, ?_⟩
      cases sv with
      | d x => exact Rep.mono sm _ _ q
      | own ys =>
        obtain ⟨p2, vs2, rfl, hp2, rl2, fp2, h02⟩ := q
        refine ⟨p2, vs2, rfl, hp2, RepL.mono sm _ _ rl2, ?_, h02⟩
        rw [upd_ne (fun z => ?_)]
        · exact fp2
        · subst z; exact ap xs rfl i ys e e1
    · by_cases hb : b = p
      · subst hb; exact .inr h0
      · rw [upd_ne hb] at e; exact s.gr b o e

/-- new data laid at a free place -/
theorem Good.new {p : Addr} {o : HO} (G : Good C F H σ ρ) (h : H p = none) : Good C (upd F p o) (upd H p o) σ ρ := by
  have hF : F p = none := G.fh.free h
  have h0 : C.H0 p = none := G.h0.free h
  have sF : Same F (upd F p o) := same_upd hF
  have sH : Same H (upd H p o) := same_upd h
  refine ⟨fun b u e => ?_, G.h0.trans sH, G.f0.trans sF, fun b u e => ?_, G.len, fun i sv e => ?_, G.ap⟩
  · by_cases hb : b = p
    · subst hb; rw [upd_same] at e ⊢; exact e
    · rw [upd_ne hb] at e ⊢; exact G.fh b u e
  · by_cases hb : b = p
    · subst hb; exact .inr h0
    · rw [upd_ne hb] at e; exact G.nw b u e
  · obtain ⟨w, e1, q⟩ := G.at_ i sv e
    refine ⟨w, e1, ?_⟩
    cases sv with
    | d x => exact Rep.mono sF _ _ q
    | own ys =>
      obtain ⟨p', vs', rfl, hp', rl', fp', h0'⟩ := q
      refine ⟨p', vs', rfl, sH _ _ hp', RepL.mono sF _ _ rl', ?_, h0'⟩
      rw [upd_ne (ne_of_none hp' h)]
      exact fp'
/-- .. laid, not among the data -/
theorem Good.lay {p : Addr} {o : HO} (G : Good C F H σ ρ) (h : H p = none) : Good C F (upd H p o) σ ρ := by
  have sH : Same H (upd H p o) := same_upd h
  refine ⟨G.fh.trans sH, G.h0.trans sH, G.f0, G.nw, G.len, fun i sv e => ?_, G.ap⟩
  obtain ⟨w, e1, q⟩ := G.at_ i sv e
  refine ⟨w, e1, ?_⟩
  cases sv with
  | d x => exact q
  | own ys =>
    obtain ⟨p', vs', rfl, hp', rl', fp', h0'⟩ := q
    exact ⟨p', vs', rfl, sH _ _ hp', rl', fp', h0'⟩
/-- a new list of the def's own comes -/
theorem PostE.newOwn {xs : List D} {vs : List V} {p : Addr} (h : PostE C σ ρ F H (some (.ok (.own xs))) Q) (G : Good C F H σ ρ) (hp : H p = none) (r : RepL C.K F xs vs) : Q (.ref p) (upd H p (.lst vs)) :=
  h (.ref p) F (upd H p (.lst vs)) ⟨G.lay hp, Same.refl F, same_upd hp, fun _ _ z => .inl z⟩ ⟨p, vs, rfl, upd_same, r, G.fh.free hp, hp⟩
theorem PostE.newTup {xs : List D} {vs : List V} {p : Addr} (h : PostE C σ ρ F H (some (.ok (.d (.tup xs)))) Q) (G : Good C F H σ ρ) (hp : H p = none) (r : RepL C.K F xs vs) : Q (.ref p) (upd H p (.tup vs)) :=
  h (.ref p) (upd F p (.tup vs)) (upd H p (.tup vs)) ⟨G.new hp, same_upd (G.fh.free hp), same_upd hp, fun b o z => by
    by_cases hb : b = p
    · subst hb; exact .inr hp
    · rw [upd_ne hb] at z; exact .inl z⟩ (Rep.tup (SqT.of upd_same) (RepL.mono (same_upd (G.fh.free hp)) _ _ r))
end

/-! ### binding results -/
def bindR (r : Option R) (k : D → Option R) : Option R :=
  match r with
  | some (.ok sv) => k (toD sv)
  | some (.ex x p) => some (.ex x p)
  | none => none
def bindL (r : Option RL) (k : List D → Option R) : Option R :=
  match r with
  | some (.ok ds) => k ds
  | some (.ex x p) => some (.ex x p)
  | none => none
def bindRB (r : Option R) (k : D → Option RB) : Option RB :=
  match r with
  | some (.ok sv) => k (toD sv)
  | some (.ex x p) => some (.ex x p)
  | none => none
def bindB (r : Option RB) (k : Bool → Option R) : Option R :=
  match r with
  | some (.ok b) => k b
  | some (.ex x p) => some (.ex x p)
  | none => none
def bindBB (r : Option RB) (k : Bool → Option RB) : Option RB :=
  match r with
  | some (.ok b) => k b
  | some (.ex x p) => some (.ex x p)
  | none => none
def bindRL (r : Option R) (k : D → Option RL) : Option RL :=
  match r with
  | some (.ok sv) => k (toD sv)
  | some (.ex x p) => some (.ex x p)
  | none => none
def okD (x : D) : Option R := some (.ok (.d x))
def okI (i : Int) : Option R := some (.ok (.d (.int i)))
def okB (b : Bool) : Option R := some (.ok (.d (.bl b)))
section
variable {C : FR} {σ : St} {ρ : En} {F H : Hp} {Q : VK}
theorem PostE.bind {r : Option R} {k : D → Option R} (G : Good C F H σ ρ) (h : PostE C σ ρ F H (bindR r k) Q) :
    PostE C σ ρ F H r fun v H1 => ∃ x F1, Step C σ ρ F H F1 H1 ∧ Rep C.K F1 x v ∧ PostE C σ ρ F1 H1 (k x) Q := by
  cases r with
  | none => exact h
  | some r =>
    cases r with
    | ex x p => exact h
    | ok sv =>
      intro v F' H' st q
      obtain ⟨F2, s2, q2⟩ := st.data G q
      exact ⟨toD sv, F2, s2, q2, PostE.mono (show PostE C σ ρ F H (k (toD sv)) Q from h) s2⟩
theorem PostE.bindB' {r : Option R} {k : D → Option RB} {Q : Bool → Hp → Prop} (G : Good C F H σ ρ) (h : PostB C σ ρ F H (bindRB r k) Q) :
    PostE C σ ρ F H r fun v H1 => ∃ x F1, Step C σ ρ F H F1 H1 ∧ Rep C.K F1 x v ∧ PostB C σ ρ F1 H1 (k x) Q := by
  cases r with
  | none => exact h
  | some r =>
    cases r with
    | ex x p => exact h
    | ok sv =>
      intro v F' H' st q
      obtain ⟨F2, s2, q2⟩ := st.data G q
      exact ⟨toD sv, F2, s2, q2, PostB.mono (show PostB C σ ρ F H (k (toD sv)) Q from h) s2⟩
theorem PostE.bindA' {r : Option R} {k : D → Option RL} {Q : List V → Hp → Prop} (G : Good C F H σ ρ) (h : PostA C σ ρ F H (bindRL r k) Q) :
    PostE C σ ρ F H r fun v H1 => ∃ x F1, Step C σ ρ F H F1 H1 ∧ Rep C.K F1 x v ∧ PostA C σ ρ F1 H1 (k x) Q := by
  cases r with
  | none => exact h
  | some r =>
    cases r with
    | ex x p => exact h
    | ok sv =>
      intro v F' H' st q
      obtain ⟨F2, s2, q2⟩ := st.data G q
      exact ⟨toD sv, F2, s2, q2, PostA.mono (show PostA C σ ρ F H (k (toD sv)) Q from h) s2⟩
theorem PostA.bind {r : Option RL} {k : List D → Option R} (h : PostE C σ ρ F H (bindL r k) Q) :
    PostA C σ ρ F H r fun vs H1 => ∃ ds F1, Step C σ ρ F H F1 H1 ∧ RepL C.K F1 ds vs ∧ PostE C σ ρ F1 H1 (k ds) Q := by
  cases r with
  | none => exact h
  | some r =>
    cases r with
    | ex x p => exact h
    | ok ds =>
      intro vs F' H' st q
      exact ⟨ds, F', st, q, PostE.mono (show PostE C σ ρ F H (k ds) Q from h) st⟩
theorem PostB.bind {r : Option RB} {k : Bool → Option R} (h : PostE C σ ρ F H (bindB r k) Q) :
    PostB C σ ρ F H r fun b H1 => ∃ F1, Step C σ ρ F H F1 H1 ∧ PostE C σ ρ F1 H1 (k b) Q := by
  cases r with
  | none => exact h
  | some r =>
    cases r with
    | ex x p => exact h
    | ok b =>
      intro F' H' st
      exact ⟨F', st, PostE.mono (show PostE C σ ρ F H (k b) Q from h) st⟩
theorem PostB.bindB {r : Option RB} {k : Bool → Option RB} {Q : Bool → Hp → Prop} (h : PostB C σ ρ F H (bindBB r k) Q) :
    PostB C σ ρ F H r fun b H1 => ∃ F1, Step C σ ρ F H F1 H1 ∧ PostB C σ ρ F1 H1 (k b) Q := by
  cases r with
  | none => exact h
  | some r =>
    cases r with
    | ex x p => exact h
    | ok b =>
      intro F' H' st
      exact ⟨F', st, PostB.mono (show PostB C σ ρ F H (k b) Q from h) st⟩
end
end PT
/-! PT: expressions. -/
namespace PT
open PySem PySem.Spec PyProof.Rows L2

structure Fit (X : Cx) (C : FR) : Prop where
  K : X.K = C.K
  mg : X.mg = C.mg
  tk : Takes X C.W
  calm : C.hot = false → X.calm = true
  po : PassesOwn (model X.prog X.w) X.A X.env X.xe

/-! ### meanings -/
def eVar (i : Nat) : EF := fun ρ => match ρ[i]? with
  | some (some (.d x)) => okD x
  | _ => none
def eC (x : D) : EF := fun _ => okD x
def e1 (g : D → Option R) (f : EF) : EF := fun ρ => bindR (f ρ) g
def e2 (g : D → D → Option R) (f1 f2 : EF) : EF := fun ρ => bindR (f1 ρ) fun x => bindR (f2 ρ) fun y => g x y
def aNil : AF := fun _ => some (.ok [])
def aCons (f : EF) (fa : AF) : AF := fun ρ => bindRL (f ρ) fun x => match fa ρ with
  | some (.ok ds) => some (.ok (x :: ds))
  | some (.ex y p) => some (.ex y p)
  | none => none
def eCall (g : List D → Option R) (fa : AF) : EF := fun ρ => bindL (fa ρ) g
def tupR (ds : List D) : Option R := if ds.length ≤ 1000 then okD (.tup ds) else none
def lstR (ds : List D) : Option R := if ds.length ≤ 1000 then some (.ok (.own ds)) else none
def eTup (fa : AF) : EF := eCall tupR fa
def eLst (fa : AF) : EF := eCall lstR fa
def eIte (c : CF) (f g : EF) : EF := fun ρ => bindB (c ρ) fun b => if b then f ρ else g ρ
/-- a test by a value's truth -/
def truD : D → Option Bool
  | .non => some false
  | .bl b => some b
  | .int i => some (i != 0)
  | .str x => if x.length ≤ 1000000 then some ((x.length : Int) != 0) else none
  | .tup ds => some (!ds.isEmpty)
  | .lst ds => some (!ds.isEmpty)
  | .scr ds => some (!ds.isEmpty)
  | .raw _ => none
  | .box _ _ => none
def truR (x : D) : Option RB := match truD x with
  | some b => some (.ok b)
  | none => none
def cT (f : EF) : CF := fun ρ => bindRB (f ρ) truR
def cAnd (c d : CF) : CF := fun ρ => bindBB (c ρ) fun b => if b then d ρ else some (.ok false)
def cOr (c d : CF) : CF := fun ρ => bindBB (c ρ) fun b => if b then some (.ok true) else d ρ
def cNot (c : CF) : CF := fun ρ => bindBB (c ρ) fun b => some (.ok (!b))
/-- and, or, not of truths, as values -/
def andV (f g : EF) : EF := fun ρ => bindR (f ρ) fun x => match x with
  | .bl b => if b then g ρ else okB false
  | _ => none
def orV (f g : EF) : EF := fun ρ => bindR (f ρ) fun x => match x with
  | .bl b => if b then okB true else g ρ
  | _ => none
def notD : D → Option R
  | .bl b => okB (!b)
  | _ => none
def addD : D → D → Option R
  | .int i, .int j => okI (i + j)
  | .lst xs, .lst ys => if xs.length + ys.length ≤ 1000000 then some (.ok (.own (xs ++ ys))) else none
  | .tup xs, .tup ys => if xs.isEmpty = false ∧ ys.isEmpty = false ∧ xs.length + ys.length ≤ 1000000 then okD (.tup (xs ++ ys)) else none
  | .str x, .str y => if x.length + y.length ≤ 1000000 then okD (.str (x ++ y)) else none
  | _, _ => none
def subD : D → D → Option R
  | .int i, .int j => okI (i - j)
  | _, _ => none
def mulOk (i j : Int) : Bool := decide (i.natAbs.log2 + j.natAbs.log2 < 4000000) || decide (j.natAbs.log2 < 60)
def divOk (j : Int) : Bool := decide (j ≠ 0) && decide (j.natAbs.log2 < 9000)
def mulD : D → D → Option R
  | .int i, .int j => if mulOk i j then okI (i * j) else none
  | _, _ => none
def fdivD : D → D → Option R
  | .int i, .int j => if divOk j then okI (i.fdiv j) else none
  | _, _ => none
def modD : D → D → Option R
  | .int i, .int j => if j ≠ 0 then okI (i.fmod j) else none
  | _, _ => none
def powOk (i j : Int) : Bool := decide (0 ≤ j) && decide (j ≤ 1000000) && decide (i.natAbs < 2 ^ 64)
def powD : D → D → Option R
  | .int i, .int j => if powOk i j then okI (i ^ j.toNat) else none
  | _, _ => none
def negD : D → Option R
  | .int i => okI (-i)
  | _ => none
/-! data compared -/
mutual
def toP : D → PyData
  | .non => .none
  | .bl b => .bool b
  | .int i => .int i
  | .str x => .str x
  | .tup ds => .tuple (toPs ds)
  | .lst ds => .list (toPs ds)
  | .scr ds => .list (toPs ds)
  | .raw _ => .none
  | .box _ _ => .none
def toPs : List D → List PyData
  | [] => []
  | d :: ds => toP d :: toPs ds
end
/-- no raw value within, at most n deep -/
def fine : Nat → D → Bool
  | _, .non => true
  | _, .bl _ => true
  | _, .int _ => true
  | _, .str x => PyData.strOk x
  | _, .raw _ => false
  | _, .box _ _ => false
  | 0, .tup _ => false
  | 0, .lst _ => false
  | 0, .scr _ => false
  | n + 1, .tup ds => ds.all (fine n)
  | n + 1, .lst ds => ds.all (fine n)
  | n + 1, .scr ds => ds.all (fine n)
def eqD (x y : D) : Bool := PyData.eqv (toP x) (toP y)
def eqDs (xs ys : List D) : Bool := PyData.eqvAll (toPs xs) (toPs ys)
def eqR (x y : D) : Option R := if fine 60 x && fine 60 y then okB (eqD x y) else none
def neR (x y : D) : Option R := if fine 60 x && fine 60 y then okB (!eqD x y) else none
def ltR : D → D → Option R
  | .int i, .int j => okB (decide (i < j))
  | _, _ => none
def leR : D → D → Option R
  | .int i, .int j => okB (decide (i ≤ j))
  | _, _ => none
def gtR : D → D → Option R
  | .int i, .int j => okB (decide (j < i))
  | _, _ => none
def geR : D → D → Option R
  | .int i, .int j => okB (decide (j ≤ i))
  | _, _ => none
def isNonD : D → Bool
  | .non => true
  | _ => false
/-- is None: y is None -/
def isR : D → D → Option R
  | .raw _, _ => none
  | x, .non => okB (isNonD x)
  | .bl a, .bl b => okB (decide (a = b))
  | _, _ => none
def isntR : D → D → Option R
  | .raw _, _ => none
  | x, .non => okB (!isNonD x)
  | .bl a, .bl b => okB (!decide (a = b))
  | _, _ => none
def flatD : D → Bool
  | .non => true
  | .bl _ => true
  | .int _ => true
  | .str _ => true
  | _ => false
def inDs (x : D) (ds : List D) : Bool := ds.any fun z => eqD z x
def inR (x : D) : D → Option R
  | .tup ds => if flatD x && ds.all flatD then okB (inDs x ds) else none
  | .scr ds => if flatD x && ds.all flatD then okB (inDs x ds) else none
  | .lst ds => if fine 60 x && ds.all (fine 59) then okB (inDs x ds) else none
  | _ => none
def notInR (x : D) : D → Option R
  | .tup ds => if flatD x && ds.all flatD then okB (!inDs x ds) else none
  | .scr ds => if flatD x && ds.all flatD then okB (!inDs x ds) else none
  | .lst ds => if fine 60 x && ds.all (fine 59) then okB (!inDs x ds) else none
  | _ => none
/-! a[b] -/
def ixR : D → D → Option R
  | .tup ds, .int i => match atI ds i with
    | some x => okD x
    | none => none
  | .lst ds, .int i => match atI ds i with
    | some x => okD x
    | none => none
  | .scr ds, .int i => match atI ds i with
    | some x => okD x
    | none => none
  | .str z, .int i => if z.length ≤ 1000000 then (match atI z.cps.toList i with
    | some c => okD (.str ⟨#[c]⟩)
    | none => none) else none
  | _, _ => none
/-! built-ins -/
def lenR : List D → Option R
  | [.tup ds] => okI ds.length
  | [.lst ds] => okI ds.length
  | [.scr ds] => okI ds.length
  | [.str x] => if x.length ≤ 1000000 then okI x.length else none
  | _ => none
def absR : List D → Option R
  | [.int i] => okI (if i < 0 then -i else i)
  | _ => none
def max2R : List D → Option R
  | [.int i, .int j] => okI (if j > i then j else i)
  | _ => none
def min2R : List D → Option R
  | [.int i, .int j] => okI (if j < i then j else i)
  | _ => none
def intR : List D → Option R
  | [.int i] => okI i
  | [.bl b] => okI (if b then 1 else 0)
  | _ => none
def tyD : D → Option String
  | .non => some "NoneType"
  | .bl _ => some "bool"
  | .int _ => some "int"
  | .str _ => some "str"
  | .tup _ => some "tuple"
  | .lst _ => some "list"
  | .scr _ => some "list"
  | .raw _ => none
  | .box _ _ => none
/-- isinstance(x, T), T one of bool, int, str, tuple, list -/
def isiB (t : String) (T : String) : Option Bool :=
  if T = "int" then some (t == "int" || t == "bool")
  else if T = "bool" then some (t == "bool")
  else if T = "str" then some (t == "str")
  else if T = "tuple" then some (t == "tuple")
  else if T = "list" then some (t == "list")
  else none
def isiR : List D → Option R
  | [x, .raw (.ty T)] => match tyD x with
    | some t => match isiB t T with
      | some b => okB b
      | none => none
    | none => none
  | _ => none
def blsOf : List D → Option (List Bool)
  | [] => some []
  | .bl b :: ds => match blsOf ds with
    | some bs => some (b :: bs)
    | none => none
  | _ :: _ => none
def intsOf : List D → Option (List Int)
  | [] => some []
  | .int b :: ds => match intsOf ds with
    | some bs => some (b :: bs)
    | none => none
  | _ :: _ => none
def allR : List D → Option R
  | [.lst ds] => match blsOf ds with
    | some bs => okB (bs.all id)
    | none => none
  | _ => none
def anyR : List D → Option R
  | [.lst ds] => match blsOf ds with
    | some bs => okB (bs.any id)
    | none => none
  | _ => none
def sumR : List D → Option R
  | [.lst ds] => match intsOf ds with
    | some bs => okI bs.sum
    | none => none
  | _ => none
def leastI : List Int → Int
  | [] => 0
  | [x] => x
  | x :: xs => if leastI xs < x then leastI xs else x
def greatestI : List Int → Int
  | [] => 0
  | [x] => x
  | x :: xs => if x < greatestI xs then greatestI xs else x
def minR : List D → Option R
  | [.lst ds] => match intsOf ds with
    | some (b :: bs) => okI (leastI (b :: bs))
    | _ => none
  | _ => none
def maxR : List D → Option R
  | [.lst ds] => match intsOf ds with
    | some (b :: bs) => okI (greatestI (b :: bs))
    | _ => none
  | _ => none
def tupleR : List D → Option R
  | [.lst ds] => okD (.tup ds)
  | [.tup ds] => okD (.tup ds)
  | _ => none
def listR : List D → Option R
  | [.lst ds] => some (.ok (.own ds))
  | [.tup ds] => some (.ok (.own ds))
  | [.scr ds] => some (.ok (.own ds))
  | _ => none
def strR : List D → Option R
  | [.int i] => if i.natAbs.log2 < 12000 then okD (.str (toString i)) else none
  | _ => none
/-! slices -/
def cutD (xs : List D) (lo hi : Option Int) : List D := (xs.drop (HT.sIx xs.length 0 lo)).take (HT.sIx xs.length xs.length hi - HT.sIx xs.length 0 lo)
abbrev OF := En → Option (Option R)

/-! ### rules -/
section
variable {X : Cx} {C : FR} {e a b : Expr} {es : List Expr} {f fa fb : EF} {ff : AF} {pos : Pos}

theorem rep_dp {K : PySem.W.Frag} {F H : Hp} (s : Same F H) : ∀ (n : Nat) (d : D) (v : V), fine n d = true → Rep K F d v → Dp K H v (toP d) := by
  intro n
  induction n with
  | zero =>
    intro d v hf r
    cases d <;> first | (simp [fine] at hf; done) | (cases r; constructor)
  | succ n ih =>
    have all : ∀ (ds : List D) (vs : List V), ds.all (fine n) = true → RepL K F ds vs → DpAll K H vs (toPs ds) := by
      intro ds
      induction ds with
      | nil => intro vs _ r; cases r; exact .nil
      | cons d ds ih2 =>
        intro vs hf r
        cases r with | cons p q =>
          simp only [List.all_cons, Bool.and_eq_true] at hf
          exact .cons (ih d _ hf.1 p) (ih2 _ hf.2 q)
    intro d v hf r
    cases d with
    | non => cases r; exact .non
    | bl b => cases r; exact .bl b
    | int i => cases r; exact .int i
    | str x => cases r; exact .str x
    | raw w => simp [fine] at hf
    | box t ds => simp [fine] at hf
    | tup ds => cases r with | tup q r => exact .tup (seqT_mono s q) (all ds _ (by simpa [fine] using hf) r)
    | lst ds => cases r with | lst q r => exact .lst (SqL.of (s _ _ q)) (all ds _ (by simpa [fine] using hf) r)
    | scr ds => cases r with | scr q r => exact .lst (s.seq q) (all ds _ (by simpa [fine] using hf) r)
theorem fine_shape : ∀ (n : Nat) (d : D), fine n d = true → (toP d).canLay0 = true ∧ (toP d).depth ≤ n := by
  intro n
  induction n with
  | zero =>
    intro d hf
    cases d <;> simp_all [fine, toP, PyData.canLay0, PyData.depth]
  | succ n ih =>
    have all : ∀ (ds : List D), ds.all (fine n) = true → PyData.canLayAll0 (toPs ds) = true ∧ PyData.depthAll (toPs ds) ≤ n := by
      intro ds
      induction ds with
      | nil => intro _; simp [toPs, PyData.canLayAll0, PyData.depthAll]
      | cons d ds ih2 =>
        intro hf
        simp only [List.all_cons, Bool.and_eq_true] at hf
        obtain ⟨a1, a2⟩ := ih d hf.1
        obtain ⟨b1, b2⟩ := ih2 hf.2
        simp only [toPs, PyData.canLayAll0, PyData.depthAll, a1, b1]
        exact ⟨rfl, by omega⟩
    intro d hf
    cases d with
    | non => simp [toP, PyData.canLay0, PyData.depth]
    | bl b => simp [toP, PyData.canLay0, PyData.depth]
    | int i => simp [toP, PyData.canLay0, PyData.depth]
    | str x => simpa [fine, toP, PyData.canLay0, PyData.depth] using hf
    | raw w => simp [fine] at hf
    | box t ds => simp [fine] at hf
    | tup ds =>
      obtain ⟨a1, a2⟩ := all ds (by simpa [fine] using hf)
      simp only [toP, PyData.canLay0, PyData.depth, a1]; exact ⟨trivial, by omega⟩
    | lst ds =>
      obtain ⟨a1, a2⟩ := all ds (by simpa [fine] using hf)
      simp only [toP, PyData.canLay0, PyData.depth, a1]; exact ⟨trivial, by omega⟩
    | scr ds =>
      obtain ⟨a1, a2⟩ := all ds (by simpa [fine] using hf)
      simp only [toP, PyData.canLay0, PyData.depth, a1]; exact ⟨trivial, by omega⟩
theorem fine_shaped {n : Nat} {d : D} (h : fine n d = true) (hn : n ≤ 64) : SeqAt.shaped (toP d) = true := by
  obtain ⟨a, b⟩ := fine_shape n d h
  unfold SeqAt.shaped
  rw [a, decide_eq_true (by omega)]
  rfl

theorem x_var (i : Nat) {x : Str} (hN : X.N[i]? = some x := by rfl) (hv : Vis X.env.scope x := by first | exact Or.inl rfl | exact Or.inr (Or.inl rfl) | exact Or.inr (Or.inr rfl)) (hd : (x == ("__debug__" : Str)) = false := by decide)
    (hcd : (x == ("__classdict__" : Str)) = false := by decide) : PE X (.Name x pos) (lE C (eVar i)) := by
  refine PE.imp ?_ (pe_var hN hv hd hcd)
  rintro σ H Q ⟨ρ, F, G, h⟩
  unfold eVar at h
  split at h
  · rename_i x' e1
    obtain ⟨v, e2, q⟩ := G.at_ i _ e1
    exact ⟨v, e2, h.val G q⟩
  · exact h.elim
theorem x_c {v : V} {x : D} (p : PE X e (tC v)) (r : ∀ F, Rep C.K F x v) : PE X e (lE C (eC x)) := by
  refine PE.imp ?_ p
  rintro σ H Q ⟨ρ, F, G, h⟩
  exact h.val G (r F)
theorem x_int {i : Int} {j : Nat} : PE X (.Constant (.int i) j pos) (lE C (eC (.int i))) := x_c pe_int fun _ => .int _
theorem x_bl {i : Bool} {j : Nat} : PE X (.Constant (.bool i) j pos) (lE C (eC (.bl i))) := x_c pe_bl fun _ => .bl _
theorem x_non {j : Nat} : PE X (.Constant .none j pos) (lE C (eC .non)) := x_c pe_non fun _ => .non
theorem x_str {x : Str} {j : Nat} : PE X (.Constant (.str x) j pos) (lE C (eC (.str x))) := x_c pe_str fun _ => .str _
/-- a module's constant -/
structure GC (K : PySem.W.Frag) (mg : Str → Option Value) (x : Str) (d : D) : Prop where
  ex : ∃ v u, mg x = some u ∧ RelV v u ∧ ∀ F, Rep K F d v
theorem x_glob {x : Str} {d : D} (ft : Fit X C) (g : GC C.K C.mg x d) (hg : Gl X x) (hd : (x == ("__debug__" : Str)) = false := by decide) : PE X (.Name x pos) (lE C (eC d)) := by
  obtain ⟨v, u, e1, e2, e3⟩ := g.ex
  exact x_c (pe_glob hg (by rw [ft.mg]; exact e1) e2 hd) e3
/-- a built-in type as a value -/
theorem x_ty {x : Str} {T : String} (ft : Fit X C) (hg : Gl X x) (hm : C.mg x = none) (hv : bootBuiltins x = some (.type T)) (hn : x ≠ "__name__" := by decide) (hd : (x == ("__debug__" : Str)) = false := by decide) :
    PE X (.Name x pos) (lE C (eC (.raw (.ty T)))) := x_c (v := V.ty T) (pe_bltn hg (by rw [ft.mg]; exact hm) hv (show RelV (V.ty T) (Value.type T) from rfl) hn hd) fun _ => .raw _

theorem OpR.any {g : Value → Value → Sem Value} : OpR X g (fun v w H Q => ∃ r : R2, OpR X g r ∧ r v w H Q) := fun pins s σ H x y v u Q I rx ry ⟨_, o, h⟩ => o pins s σ H x y v u Q I rx ry h
def Bin (X : Cx) (C : FR) (f : Value → Value → Sem Value) (g : D → D → Option R) : Prop :=
  ∀ (σ : St) (ρ : En) (F H : Hp) (x y : D) (v w : V) (Q : VK), Good C F H σ ρ → Rep C.K F x v → Rep C.K F y w → PostE C σ ρ F H (g x y) Q → ∃ r : R2, OpR X f r ∧ r v w H Q
theorem lE2 {g : D → D → Option R} {f1 f2 : EF} {σ : St} {H : Hp} {Q : VK} {R : V → V → Hp → Prop}
    (k : ∀ (ρ : En) (F H : Hp) (x y : D) (v w : V), Good C F H σ ρ → Rep C.K F x v → Rep C.K F y w → PostE C σ ρ F H (g x y) Q → R v w H) :
    lE C (e2 g f1 f2) σ H Q → lE C f1 σ H fun v H1 => lE C f2 σ H1 fun w H2 => R v w H2 := by
  rintro ⟨ρ, F, G, h⟩
  refine ⟨ρ, F, G, ?_⟩
  have h1 := PostE.bind G h
  refine (show PostE C σ ρ F H (f1 ρ) _ from ?_)
  cases e : f1 ρ with
  | none => rw [e] at h1; exact h1
  | some r =>
    rw [e] at h1
    cases r with
    | ex x p => exact h1
    | ok sv =>
      intro v F' H' st q1
      obtain ⟨x, F1, st1, rx, h2⟩ := h1 v F' H' st q1
      refine ⟨ρ, F1, st1.g, ?_⟩
      have h3 := PostE.bind st1.g h2
      cases e' : f2 ρ with
      | none => rw [e'] at h3; exact h3
      | some r =>
        rw [e'] at h3
        cases r with
        | ex x p => exact h3
        | ok sv' =>
          intro w F'' H'' st2 q2
          obtain ⟨y, F2, st3, ry, h4⟩ := h3 w F'' H'' st2 q2
          exact k ρ F2 H'' x y v w st3.g (Rep.mono st3.s _ _ rx) ry h4
theorem lE1 {g : D → Option R} {f1 : EF} {σ : St} {H : Hp} {Q : VK} {R : V → Hp → Prop}
    (k : ∀ (ρ : En) (F H : Hp) (x : D) (v : V), Good C F H σ ρ → Rep C.K F x v → PostE C σ ρ F H (g x) Q → R v H) :
    lE C (e1 g f1) σ H Q → lE C f1 σ H fun v H1 => R v H1 := by
  rintro ⟨ρ, F, G, h⟩
  refine ⟨ρ, F, G, ?_⟩
  have h1 := PostE.bind G h
  cases e : f1 ρ with
  | none => rw [e] at h1; exact h1
  | some r =>
    rw [e] at h1
    cases r with
    | ex x p => exact h1
    | ok sv =>
      intro v F' H' st q1
      obtain ⟨x, F1, st1, rx, h2⟩ := h1 v F' H' st q1
      exact k ρ F1 H' x v st1.g rx h2
theorem lA1 {g : List D → Option R} {ff : AF} {σ : St} {H : Hp} {Q : VK} {R : List V → Hp → Prop}
    (k : ∀ (ρ : En) (F H : Hp) (ds : List D) (vs : List V), Good C F H σ ρ → RepL C.K F ds vs → PostE C σ ρ F H (g ds) Q → R vs H) :
    lE C (eCall g ff) σ H Q → lA C ff σ H R := by
  rintro ⟨ρ, F, G, h⟩
  refine ⟨ρ, F, G, ?_⟩
  have h1 := PostA.bind h
  cases e : ff ρ with
  | none => rw [e] at h1; exact h1
  | some r =>
    rw [e] at h1
    cases r with
    | ex x p => exact h1
    | ok ds =>
      intro vs F' H' st q1
      obtain ⟨ds', F1, st1, rx, h2⟩ := h1 vs F' H' st q1
      exact k ρ F1 H' ds' vs st1.g rx h2
theorem x_bin {op : Operator} {g : D → D → Option R} (hg : Bin X C (binaryOp op) g) (ha : PE X a (lE C fa)) (hb : PE X b (lE C fb)) : PE X (.BinOp a op b pos) (lE C (e2 g fa fb)) :=
  PE.imp (fun σ H Q => lE2 fun ρ F H x y v w G rx ry h => hg σ ρ F H x y v w Q G rx ry h) (pe_op OpR.any ha hb)
theorem x_cmp {op : CmpOp} {g : D → D → Option R} (hg : Bin X C (compareOp op) g) (ha : PE X a (lE C fa)) (hb : PE X b (lE C fb)) (hm : behindInMarks op b = false) : PE X (.Compare a [op] [b] pos) (lE C (e2 g fa fb)) :=
  PE.imp (fun σ H Q => lE2 fun ρ F H x y v w G rx ry h => hg σ ρ F H x y v w Q G rx ry h) (pe_cmpR OpR.any ha hb hm)

/-- a test over a value -/
theorem lT1 {f1 : EF} {σ : St} {H : Hp} {Q : Bool → Hp → Prop} {R : V → Hp → Prop}
    (k : ∀ (ρ : En) (F H : Hp) (x : D) (v : V), Good C F H σ ρ → Rep C.K F x v → PostB C σ ρ F H (truR x) Q → R v H) :
    lT C (cT f1) σ H Q → lE C f1 σ H R := by
  rintro ⟨ρ, F, G, h⟩
  refine ⟨ρ, F, G, ?_⟩
  have h1 := PostE.bindB' G h
  cases e : f1 ρ with
  | none => rw [e] at h1; exact h1
  | some r =>
    rw [e] at h1
    cases r with
    | ex x p => exact h1
    | ok sv =>
      intro v F' H' st q1
      obtain ⟨x, F1, st1, rx, h2⟩ := h1 v F' H' st q1
      exact k ρ F1 H' x v st1.g rx h2
theorem PostB.val {σ : St} {ρ : En} {F H : Hp} {b : Bool} {Q : Bool → Hp → Prop} (h : PostB C σ ρ F H (some (.ok b)) Q) (G : Good C F H σ ρ) : Q b H := h F H (Step.refl G)
/-- a comparison of truth values as a test -/
theorem x_tcmp {op : CmpOp} {g : D → D → Option R} (hg : Bin X C (compareOp op) g) (hbl : ∀ x y r, g x y = some r → ∃ b, r = .ok (.d (.bl b))) (ha : PE X a (lE C fa)) (hb : PE X b (lE C fb)) (hm : behindInMarks op b = false) :
    L2.PT X (.Compare a [op] [b] pos) (lT C (cT (e2 g fa fb))) := by
  refine PT.imp ?_ (pt_cmpR OpR.any ha hb hm)
  rintro σ H Q ⟨ρ, F, G, h⟩
  -- the value's reading, then its truth
  have h1 := PostE.bindB' G h
  refine lE2 (g := g) (Q := fun z H' => ∃ k, z = .bl k ∧ Q k H') (fun ρ F H x y v w G rx ry h => hg σ ρ F H x y v w _ G rx ry h) ⟨ρ, F, G, ?_⟩
  cases e : e2 g fa fb ρ with
  | none => rw [e] at h1; exact h1
  | some r =>
    rw [e] at h1
    cases r with
    | ex x p => exact h1
    | ok sv =>
      -- sv is a truth
      obtain ⟨b', hb'⟩ : ∃ b', sv = .d (.bl b') := by
        unfold e2 at e
        cases e1 : fa ρ with
        | none => rw [e1] at e; cases e
        | some r1 =>
          rw [e1] at e
          cases r1 with
          | ex x p => cases e
          | ok s1 =>
            cases e2' : fb ρ with
            | none => simp only [bindR, e2'] at e; cases e
            | some r2 =>
              cases r2 with
              | ex x p => simp only [bindR, e2'] at e; cases e
              | ok s2 =>
                simp only [bindR, e2'] at e
                obtain ⟨b', hb'⟩ := hbl _ _ _ e
                exact ⟨b', by injection hb'⟩
      subst hb'
      intro v F' H' st q1
      obtain ⟨x, F1, st1, rx, h2⟩ := h1 v F' H' st q1
      cases q1
      cases rx with
      | bl b => exact ⟨_, rfl, (show PostB C σ ρ F1 H' (some (.ok b')) Q from h2).val st1.g⟩
      | raw w => exact h2.elim

theorem TruR.d {K : PySem.W.Frag} {F H : Hp} {x : D} {v : V} {b : Bool} (s : Same F H) (r : Rep K F x v) (h : truD x = some b) : TruV K v H b := by
  cases r with
  | non => exact (Option.some.inj h).symm
  | bl c => exact (Option.some.inj h).symm
  | int i => exact (Option.some.inj h).symm
  | str x =>
    have h : (if x.length ≤ 1000000 then some ((x.length : Int) != 0) else none) = some b := h
    split at h
    · rename_i hl
      exact ⟨Nat.le_trans hl (by rw [sizeLine_eq]; decide), (Option.some.inj h).symm⟩
    · cases h
  | tup q rl =>
    rename_i ds
    have e := Option.some.inj h
    subst e
    refine Or.inr (.inl ⟨_, seqT_mono s q, ?_⟩)
    have := rl.len
    cases ds <;> cases rl <;> rfl
  | lst q rl =>
    rename_i ds
    have e := Option.some.inj h
    subst e
    refine Or.inl ⟨_, SqL.of (s _ _ q), ?_⟩
    cases ds <;> cases rl <;> rfl
  | scr q rl =>
    rename_i ds
    have e := Option.some.inj h
    subst e
    refine Or.inl ⟨_, s.seq q, ?_⟩
    cases ds <;> cases rl <;> rfl
  | raw w => cases h
  | box _ _ => cases h
theorem x_truth (ft : Fit X C) (ha : PE X a (lE C fa)) (he : ∀ whole, isTrue a X.env whole = (do let v ← whole; standAt a.pos; holding [v] (truthy v)) := by intro _; rfl) : L2.PT X a (lT C (cT fa)) := by
  refine PT.imp ?_ (pt_truth ha he)
  intro σ H Q
  refine lT1 fun ρ F H x v G rx h => ?_
  unfold truR at h
  cases e : truD x with
  | none => rw [e] at h; exact h.elim
  | some b =>
    rw [e] at h
    exact ⟨b, by rw [ft.K]; exact TruR.d G.fh rx e, PostB.val h G⟩
theorem x_and1 {t : CF} (ha : L2.PT X a (lT C t)) : L2.PW X (.BoolOp .And [a] pos) (lT C t) := pw_and1 ha
theorem x_or1 {t : CF} (ha : L2.PT X a (lT C t)) : L2.PW X (.BoolOp .Or [a] pos) (lT C t) := pw_or1 ha
theorem lT2 {t u : CF} {k : Bool → CF} {σ : St} {H : Hp} {Q : Bool → Hp → Prop} {R : Bool → Hp → Prop} (hk : ∀ (b : Bool) (ρ : En) (F H : Hp), Good C F H σ ρ → PostB C σ ρ F H (k b ρ) Q → R b H) :
    lT C (fun ρ => bindBB (t ρ) fun b => k b ρ) σ H Q → lT C t σ H R := by
  rintro ⟨ρ, F, G, h⟩
  refine ⟨ρ, F, G, ?_⟩
  have h1 := PostB.bindB h
  cases e : t ρ with
  | none => rw [e] at h1; exact h1
  | some r =>
    rw [e] at h1
    cases r with
    | ex x p => exact h1
    | ok b =>
      intro F' H' st
      obtain ⟨F1, st1, h2⟩ := h1 F' H' st
      exact hk b ρ F1 H' st1.g h2
theorem x_and {t u : CF} {rest : List Expr} (ha : L2.PT X a (lT C t)) (hb : L2.PW X (.BoolOp .And (b :: rest) pos) (lT C u)) : L2.PW X (.BoolOp .And (a :: b :: rest) pos) (lT C (cAnd t u)) := by
  refine PW.imp ?_ (pw_and ha hb)
  intro σ H Q
  refine lT2 (u := u) (k := fun b ρ => if b then u ρ else some (.ok false)) fun b ρ F H G h => ?_
  cases b with
  | true => rw [if_pos rfl]; exact ⟨ρ, F, G, h⟩
  | false => rw [if_neg Bool.false_ne_true]; exact PostB.val h G
theorem x_or {t u : CF} {rest : List Expr} (ha : L2.PT X a (lT C t)) (hb : L2.PW X (.BoolOp .Or (b :: rest) pos) (lT C u)) : L2.PW X (.BoolOp .Or (a :: b :: rest) pos) (lT C (cOr t u)) := by
  refine PW.imp ?_ (pw_or ha hb)
  intro σ H Q
  refine lT2 (u := u) (k := fun b ρ => if b then some (.ok true) else u ρ) fun b ρ F H G h => ?_
  cases b with
  | true => rw [if_pos rfl]; exact PostB.val h G
  | false => rw [if_neg Bool.false_ne_true]; exact ⟨ρ, F, G, h⟩
theorem x_not {t : CF} (ha : L2.PT X a (lT C t)) : L2.PT X (.UnaryOp .Not a pos) (lT C (cNot t)) := by
  refine PT.imp ?_ (pt_not ha)
  intro σ H Q
  refine lT2 (u := t) (k := fun b _ => some (.ok (!b))) fun b ρ F H G h => ?_
  exact PostB.val h G
theorem x_ite {c : Expr} {t : CF} (hc : L2.PT X c (lT C t)) (ha : PE X a (lE C fa)) (hb : PE X b (lE C fb)) : PE X (.IfExp c a b pos) (lE C (eIte t fa fb)) := by
  refine PE.imp ?_ (pe_ifExp hc ha hb)
  rintro σ H Q ⟨ρ, F, G, h⟩
  refine ⟨ρ, F, G, ?_⟩
  have h1 := PostB.bind h
  cases e : t ρ with
  | none => rw [e] at h1; exact h1
  | some r =>
    rw [e] at h1
    cases r with
    | ex x p => exact h1
    | ok d =>
      intro F' H' st
      obtain ⟨F1, st1, h2⟩ := h1 F' H' st
      cases d with
      | true => rw [if_pos rfl]; exact ⟨ρ, F1, st1.g, h2⟩
      | false => rw [if_neg Bool.false_ne_true]; exact ⟨ρ, F1, st1.g, h2⟩
/-! truths as values -/
theorem x_one {op} (h : PE X a (lE C fa)) : PE X (.BoolOp op [a] pos) (lE C fa) := pe_one h
theorem lE1' {k : D → EF} {f1 : EF} {σ : St} {H : Hp} {Q : VK} {R : V → Hp → Prop}
    (hk : ∀ (ρ : En) (F H : Hp) (x : D) (v : V), Good C F H σ ρ → Rep C.K F x v → PostE C σ ρ F H (k x ρ) Q → R v H) :
    lE C (fun ρ => bindR (f1 ρ) fun x => k x ρ) σ H Q → lE C f1 σ H fun v H1 => R v H1 := by
  rintro ⟨ρ, F, G, h⟩
  refine ⟨ρ, F, G, ?_⟩
  have h1 := PostE.bind G h
  cases e : f1 ρ with
  | none => rw [e] at h1; exact h1
  | some r =>
    rw [e] at h1
    cases r with
    | ex x p => exact h1
    | ok sv =>
      intro v F' H' st q1
      obtain ⟨x, F1, st1, rx, h2⟩ := h1 v F' H' st q1
      exact hk ρ F1 H' x v st1.g rx h2
theorem x_andV {rest : List Expr} (ha : PE X a (lE C fa)) (hb : PE X (.BoolOp .And (b :: rest) pos) (lE C fb)) : PE X (.BoolOp .And (a :: b :: rest) pos) (lE C (andV fa fb)) := by
  refine PE.imp ?_ (pe_and ha hb)
  intro σ H Q
  refine lE1' (k := fun x ρ => match x with | .bl b => if b then fb ρ else okB false | _ => none) fun ρ F H x v G rx h => ?_
  cases x with
  | bl c =>
    cases rx
    refine ⟨c, rfl, ?_⟩
    cases c with
    | true => rw [if_pos rfl]; exact ⟨ρ, F, G, h⟩
    | false => rw [if_neg Bool.false_ne_true]; exact PostE.val h G (.bl _)
  | _ => exact h.elim
theorem x_orV {rest : List Expr} (ha : PE X a (lE C fa)) (hb : PE X (.BoolOp .Or (b :: rest) pos) (lE C fb)) : PE X (.BoolOp .Or (a :: b :: rest) pos) (lE C (orV fa fb)) := by
  refine PE.imp ?_ (pe_or ha hb)
  intro σ H Q
  refine lE1' (k := fun x ρ => match x with | .bl b => if b then okB true else fb ρ | _ => none) fun ρ F H x v G rx h => ?_
  cases x with
  | bl c =>
    cases rx
    refine ⟨c, rfl, ?_⟩
    cases c with
    | true => rw [if_pos rfl]; exact PostE.val h G (.bl _)
    | false => rw [if_neg Bool.false_ne_true]; exact ⟨ρ, F, G, h⟩
  | _ => exact h.elim
theorem x_notV (ha : PE X a (lE C fa)) : PE X (.UnaryOp .Not a pos) (lE C (e1 notD fa)) := by
  refine PE.imp ?_ (pe_not ha)
  intro σ H Q
  refine lE1 fun ρ F H x v G rx h => ?_
  cases x with
  | bl c => cases rx; exact ⟨c, rfl, PostE.val h G (.bl _)⟩
  | _ => exact h.elim
end
end PT
/-! PT: operators, built-ins, calls. -/
namespace PT
open PySem PySem.Spec PyProof.Rows L2
section
variable {X : Cx} {C : FR} {e a b : Expr} {es : List Expr} {f fa fb : EF} {ff : AF} {pos : Pos}

theorem none_post {σ : St} {ρ : En} {F H : Hp} {Q : VK} {P : Prop} (h : PostE C σ ρ F H none Q) : P := False.elim h

theorem bin_add (ft : Fit X C) : Bin X C (binaryOp .Add) addD := by
  intro σ ρ F H x y v w Q G rx ry h
  unfold addD at h
  split at h
  · cases rx; cases ry; exact ⟨_, op_add, _, _, rfl, rfl, h.val G (.int _)⟩
  · split at h
    · cases rx with | lst q1 r1 => cases ry with | lst q2 r2 =>
        refine ⟨_, op_cat, _, _, _, _, rfl, rfl, G.fh _ _ q1, G.fh _ _ q2, ?_, fun p hp => PostE.newOwn h G hp (r1.append r2)⟩
        rw [← r1.len, ← r2.len, sizeLine_eq]; omega
    · exact none_post h
  · split at h
    · rename_i hc
      cases rx with | tup q1 r1 => cases ry with | tup q2 r2 =>
        refine ⟨_, op_catT, _, _, _, _, rfl, rfl, by rw [ft.K]; exact seqT_mono G.fh q1, by rw [ft.K]; exact seqT_mono G.fh q2, ?_, ?_, ?_, fun _ p hp => PostE.newTup h G hp (r1.append r2)⟩
        · rintro rfl; cases r1; simp at hc
        · rw [← r1.len, ← r2.len, sizeLine_eq]; omega
        · rintro rfl; cases r2; simp at hc
    · exact none_post h
  · split at h
    · cases rx; cases ry
      exact ⟨_, op_add_str, _, _, rfl, rfl, by rw [sizeLine_eq]; omega, h.val G (.str _)⟩
    · exact none_post h
  · exact none_post h
theorem bin_sub : Bin X C (binaryOp .Sub) subD := by
  intro σ ρ F H x y v w Q G rx ry h
  unfold subD at h
  split at h
  · cases rx; cases ry; exact ⟨_, op_sub, _, _, rfl, rfl, h.val G (.int _)⟩
  · exact none_post h
theorem mulOk_ok {i j : Int} (h : mulOk i j = true) : PySem.IntMulOk i j := by
  unfold mulOk at h
  rw [Bool.or_eq_true] at h
  rcases h with h | h
  · have b : ∀ x : Int, Builtin.Int.intBits x ≤ x.natAbs.log2 + 1 := fun x => by
      unfold Builtin.Int.intBits
      split <;> omega
    have h1 := b i
    have h2 := b j
    have h3 : i.natAbs.log2 + j.natAbs.log2 < 4000000 := of_decide_eq_true h
    have e : bitsLine = 134217728 := by decide
    intro z
    rw [Bool.and_eq_true] at z
    have z3 := of_decide_eq_true z.2
    rw [e] at z3
    omega
  · refine PySem.IntMulOk.of_right ?_
    have := of_decide_eq_true h
    unfold Builtin.Int.intBits
    split <;> omega
theorem op_mulN : OpR X (binaryOp .Mult) (rI PySem.IntMulOk fun i j => .int (i * j)) := opI fun _ _ _ _ _ _ _ hc q => mul_int q hc
theorem bin_mul : Bin X C (binaryOp .Mult) mulD := by
  intro σ ρ F H x y v w Q G rx ry h
  unfold mulD at h
  split at h
  · split at h
    · rename_i hc
      cases rx; cases ry; exact ⟨_, op_mulN, _, _, rfl, rfl, mulOk_ok hc, h.val G (.int _)⟩
    · exact none_post h
  · exact none_post h
theorem op_fdivNW : OpR X (binaryOp .FloorDiv) (rI (fun _ j => j ≠ 0 ∧ j.natAbs.log2 < 9000) fun i j => .int (i.fdiv j)) := opI fun _ _ _ _ _ _ _ hc q => floordiv_int hc.1 q (.inl (PyProof.noPylong_of_log2 hc.2))
theorem bin_fdiv : Bin X C (binaryOp .FloorDiv) fdivD := by
  intro σ ρ F H x y v w Q G rx ry h
  unfold fdivD at h
  split at h
  · split at h
    · rename_i hc
      unfold divOk at hc
      rw [Bool.and_eq_true] at hc
      cases rx; cases ry; exact ⟨_, op_fdivNW, _, _, rfl, rfl, ⟨of_decide_eq_true hc.1, of_decide_eq_true hc.2⟩, h.val G (.int _)⟩
    · exact none_post h
  · exact none_post h
theorem bin_mod : Bin X C (binaryOp .Mod) modD := by
  intro σ ρ F H x y v w Q G rx ry h
  unfold modD at h
  split at h
  · split at h
    · rename_i hc
      cases rx; cases ry; exact ⟨_, op_modN, _, _, rfl, rfl, hc, h.val G (.int _)⟩
    · exact none_post h
  · exact none_post h
theorem bin_pow : Bin X C (binaryOp .Pow) powD := by
  intro σ ρ F H x y v w Q G rx ry h
  unfold powD at h
  split at h
  · split at h
    · rename_i hc
      unfold powOk at hc
      rw [Bool.and_eq_true, Bool.and_eq_true] at hc
      cases rx; cases ry; exact ⟨_, op_pow, _, _, rfl, rfl, ⟨of_decide_eq_true hc.1.1, of_decide_eq_true hc.1.2, of_decide_eq_true hc.2⟩, h.val G (.int _)⟩
    · exact none_post h
  · exact none_post h
theorem x_neg (ha : PE X a (lE C fa)) : PE X (.UnaryOp .USub a pos) (lE C (e1 negD fa)) := by
  refine PE.imp ?_ (pe_un un_neg ha)
  intro σ H Q
  refine lE1 fun ρ F H x v G rx h => ?_
  cases x with
  | int i => cases rx; exact ⟨_, rfl, h.val G (.int _)⟩
  | _ => exact h.elim
/-! comparisons -/
theorem bin_eq (ft : Fit X C) (hu : X.A.units + 64 < cLine) : Bin X C (compareOp .Eq) eqR := by
  intro σ ρ F H x y v w Q G rx ry h
  unfold eqR at h
  split at h
  · rename_i hc
    rw [Bool.and_eq_true] at hc
    exact ⟨_, op_eqD hu, _, _, by rw [ft.K]; exact rep_dp G.fh 60 x v hc.1 rx, by rw [ft.K]; exact rep_dp G.fh 60 y w hc.2 ry, fine_shaped hc.1 (by omega), fine_shaped hc.2 (by omega), h.val G (.bl _)⟩
  · exact none_post h
theorem bin_ne (ft : Fit X C) (hu : X.A.units + 64 < cLine) : Bin X C (compareOp .NotEq) neR := by
  intro σ ρ F H x y v w Q G rx ry h
  unfold neR at h
  split at h
  · rename_i hc
    rw [Bool.and_eq_true] at hc
    exact ⟨_, op_neD hu, _, _, by rw [ft.K]; exact rep_dp G.fh 60 x v hc.1 rx, by rw [ft.K]; exact rep_dp G.fh 60 y w hc.2 ry, fine_shaped hc.1 (by omega), fine_shaped hc.2 (by omega), h.val G (.bl _)⟩
  · exact none_post h
theorem bin_lt : Bin X C (compareOp .Lt) ltR := by
  intro σ ρ F H x y v w Q G rx ry h
  unfold ltR at h
  split at h
  · cases rx; cases ry; exact ⟨_, op_lt, _, _, rfl, rfl, h.val G (.bl _)⟩
  · exact none_post h
theorem bin_le : Bin X C (compareOp .LtE) leR := by
  intro σ ρ F H x y v w Q G rx ry h
  unfold leR at h
  split at h
  · cases rx; cases ry; exact ⟨_, op_le, _, _, rfl, rfl, h.val G (.bl _)⟩
  · exact none_post h
theorem bin_gt : Bin X C (compareOp .Gt) gtR := by
  intro σ ρ F H x y v w Q G rx ry h
  unfold gtR at h
  split at h
  · cases rx; cases ry; exact ⟨_, op_gt, _, _, rfl, rfl, h.val G (.bl _)⟩
  · exact none_post h
theorem bin_ge : Bin X C (compareOp .GtE) geR := by
  intro σ ρ F H x y v w Q G rx ry h
  unfold geR at h
  split at h
  · cases rx; cases ry; exact ⟨_, op_ge, _, _, rfl, rfl, h.val G (.bl _)⟩
  · exact none_post h
theorem isNon_dec {K : PySem.W.Frag} {F : Hp} {x : D} {v : V} (h : ∀ w, x ≠ .raw w) (r : Rep K F x v) : decide (v = .non) = isNonD x := by
  cases r <;> first | rfl | exact absurd rfl (h _) | simp [isNonD]
theorem bin_is : Bin X C (compareOp .Is) isR := by
  intro σ ρ F H x y v w Q G rx ry h
  unfold isR at h
  split at h
  · exact none_post h
  · rename_i hx
    cases ry
    exact ⟨_, op_isN, rfl, by rw [isNon_dec (fun w e => hx w e) rx]; exact h.val G (.bl _)⟩
  · cases rx; cases ry
    exact ⟨_, op_is_bl, _, _, rfl, rfl, h.val G (.bl _)⟩
  · exact none_post h
theorem bin_isnt : Bin X C (compareOp .IsNot) isntR := by
  intro σ ρ F H x y v w Q G rx ry h
  unfold isntR at h
  split at h
  · exact none_post h
  · rename_i hx
    cases ry
    exact ⟨_, op_notN, rfl, by rw [isNon_dec (fun w e => hx w e) rx]; exact h.val G (.bl _)⟩
  · cases rx; cases ry
    exact ⟨_, op_isnot_bl, _, _, rfl, rfl, h.val G (.bl _)⟩
  · exact none_post h
theorem flat_of {K : PySem.W.Frag} {F : Hp} {x : D} {v : V} (r : Rep K F x v) (h : flatD x = true) : flatV v = true := by
  cases r <;> first | rfl | exact absurd h Bool.false_ne_true
theorem flats_of {K : PySem.W.Frag} {F : Hp} : ∀ {ds : List D} {vs : List V}, RepL K F ds vs → ds.all flatD = true → vs.all flatV = true
  | [], _, h, _ => by cases h; rfl
  | d :: ds, _, h, k => by
    cases h with | cons p q =>
      simp only [List.all_cons, Bool.and_eq_true] at k ⊢
      exact ⟨flat_of p k.1, flats_of q k.2⟩
theorem eqV_of {K : PySem.W.Frag} {F : Hp} {x y : D} {v w : V} (r : Rep K F x v) (q : Rep K F y w) (h : flatD x = true) (k : flatD y = true) : eqV v w = eqD x y := by
  cases r <;> first | exact absurd h Bool.false_ne_true | (cases q <;> first | exact absurd k Bool.false_ne_true | simp [eqV, eqD, toP, PyData.eqv])
theorem inV_of {K : PySem.W.Frag} {F : Hp} {x : D} {v : V} (r : Rep K F x v) (h : flatD x = true) : ∀ {ds : List D} {vs : List V}, RepL K F ds vs → ds.all flatD = true → inV v vs = inDs x ds
  | [], _, q, _ => by cases q; rfl
  | d :: ds, _, q, k => by
    cases q with | cons p q =>
      simp only [List.all_cons, Bool.and_eq_true] at k
      have ih := inV_of r h q k.2
      unfold inV inDs at ih ⊢
      simp only [List.any_cons]
      rw [eqV_of p r k.1 h, ih]
theorem any_toPs (x : D) : ∀ ds : List D, ((toPs ds).any fun z => PyData.eqv z (toP x)) = inDs x ds
  | [] => rfl
  | d :: ds => by
    have ih := any_toPs x ds
    unfold inDs at ih ⊢
    simp only [toPs, List.any_cons, ih, eqD]
theorem bin_in (ft : Fit X C) (hu : X.A.units + 65 < cLine) : Bin X C (compareOp .In) inR := by
  intro σ ρ F H x y v w Q G rx ry h
  unfold inR at h
  split at h
  · split at h
    · rename_i hc
      rw [Bool.and_eq_true] at hc
      cases ry with | tup q r =>
        refine ⟨_, op_in_seq, _, _, rfl, .inr (by rw [ft.K]; exact seqT_mono G.fh q), flat_of rx hc.1, flats_of r hc.2, ?_⟩
        rw [if_neg Bool.false_ne_true, inV_of rx hc.1 r hc.2]
        exact h.val G (.bl _)
    · exact none_post h
  · split at h
    · rename_i hc
      rw [Bool.and_eq_true] at hc
      cases ry with | scr q r =>
        refine ⟨_, op_in_seq, _, _, rfl, .inl (by rw [ft.K]; exact G.fh.seq q), flat_of rx hc.1, flats_of r hc.2, ?_⟩
        rw [if_neg Bool.false_ne_true, inV_of rx hc.1 r hc.2]
        exact h.val G (.bl _)
    · exact none_post h
  · split at h
    · rename_i ds hc
      rw [Bool.and_eq_true] at hc
      have f2 : fine 60 (.lst ds) = true := by simpa [fine] using hc.2
      have dp := rep_dp G.fh 60 _ w f2 ry
      refine ⟨_, op_inD hu, toP x, toPs ds, by rw [ft.K]; exact rep_dp G.fh 60 x v hc.1 rx, by rw [ft.K]; exact dp, fine_shaped hc.1 (by omega), fine_shaped f2 (by omega), ?_⟩
      rw [any_toPs]
      exact h.val G (.bl _)
    · exact none_post h
  · exact none_post h
theorem bin_notin (ft : Fit X C) (hu : X.A.units + 65 < cLine) : Bin X C (compareOp .NotIn) notInR := by
  intro σ ρ F H x y v w Q G rx ry h
  unfold notInR at h
  split at h
  · split at h
    · rename_i hc
      rw [Bool.and_eq_true] at hc
      cases ry with | tup q r =>
        refine ⟨_, op_notIn_seq, _, _, rfl, .inr (by rw [ft.K]; exact seqT_mono G.fh q), flat_of rx hc.1, flats_of r hc.2, ?_⟩
        rw [if_pos rfl, inV_of rx hc.1 r hc.2]
        exact h.val G (.bl _)
    · exact none_post h
  · split at h
    · rename_i hc
      rw [Bool.and_eq_true] at hc
      cases ry with | scr q r =>
        refine ⟨_, op_notIn_seq, _, _, rfl, .inl (by rw [ft.K]; exact G.fh.seq q), flat_of rx hc.1, flats_of r hc.2, ?_⟩
        rw [if_pos rfl, inV_of rx hc.1 r hc.2]
        exact h.val G (.bl _)
    · exact none_post h
  · split at h
    · rename_i ds hc
      rw [Bool.and_eq_true] at hc
      have f2 : fine 60 (.lst ds) = true := by simpa [fine] using hc.2
      have dp := rep_dp G.fh 60 _ w f2 ry
      refine ⟨_, op_notInD hu, toP x, toPs ds, by rw [ft.K]; exact rep_dp G.fh 60 x v hc.1 rx, by rw [ft.K]; exact dp, fine_shaped hc.1 (by omega), fine_shaped f2 (by omega), ?_⟩
      rw [any_toPs]
      exact h.val G (.bl _)
    · exact none_post h
  · exact none_post h
/-! what a comparison gives is a truth -/
theorem bl_eq : ∀ x y r, eqR x y = some r → ∃ b, r = .ok (.d (.bl b)) := fun x y r h => by
  unfold eqR at h
  split at h
  · exact ⟨_, (Option.some.inj h).symm⟩
  · cases h
theorem bl_ne : ∀ x y r, neR x y = some r → ∃ b, r = .ok (.d (.bl b)) := fun x y r h => by
  unfold neR at h
  split at h
  · exact ⟨_, (Option.some.inj h).symm⟩
  · cases h
theorem bl_lt : ∀ x y r, ltR x y = some r → ∃ b, r = .ok (.d (.bl b)) := fun x y r h => by
  unfold ltR at h
  split at h
  · exact ⟨_, (Option.some.inj h).symm⟩
  · cases h
theorem bl_le : ∀ x y r, leR x y = some r → ∃ b, r = .ok (.d (.bl b)) := fun x y r h => by
  unfold leR at h
  split at h
  · exact ⟨_, (Option.some.inj h).symm⟩
  · cases h
theorem bl_gt : ∀ x y r, gtR x y = some r → ∃ b, r = .ok (.d (.bl b)) := fun x y r h => by
  unfold gtR at h
  split at h
  · exact ⟨_, (Option.some.inj h).symm⟩
  · cases h
theorem bl_ge : ∀ x y r, geR x y = some r → ∃ b, r = .ok (.d (.bl b)) := fun x y r h => by
  unfold geR at h
  split at h
  · exact ⟨_, (Option.some.inj h).symm⟩
  · cases h
theorem bl_is : ∀ x y r, isR x y = some r → ∃ b, r = .ok (.d (.bl b)) := fun x y r h => by
  unfold isR at h
  split at h
  · cases h
  · exact ⟨_, (Option.some.inj h).symm⟩
  · exact ⟨_, (Option.some.inj h).symm⟩
  · cases h
theorem bl_isnt : ∀ x y r, isntR x y = some r → ∃ b, r = .ok (.d (.bl b)) := fun x y r h => by
  unfold isntR at h
  split at h
  · cases h
  · exact ⟨_, (Option.some.inj h).symm⟩
  · exact ⟨_, (Option.some.inj h).symm⟩
  · cases h
theorem bl_in : ∀ x y r, inR x y = some r → ∃ b, r = .ok (.d (.bl b)) := fun x y r h => by
  unfold inR at h
  split at h <;> first | cases h | (split at h <;> first | exact ⟨_, (Option.some.inj h).symm⟩ | cases h)
theorem bl_notin : ∀ x y r, notInR x y = some r → ∃ b, r = .ok (.d (.bl b)) := fun x y r h => by
  unfold notInR at h
  split at h <;> first | cases h | (split at h <;> first | exact ⟨_, (Option.some.inj h).symm⟩ | cases h)

/-! ### a[b] -/
theorem IxR.any : IxR X (fun v w H Q => ∃ r : R2, IxR X r ∧ r v w H Q) := fun value slice pins s σ H x y v u Q I rx ry ⟨_, o, h⟩ hs => o value slice pins s σ H x y v u Q I rx ry h hs
theorem RepL.at {K : PySem.W.Frag} {F : Hp} {ds : List D} {vs : List V} {i : Int} {d : D} (r : RepL K F ds vs) (h : atI ds i = some d) : ∃ v, atI vs i = some v ∧ Rep K F d v := by
  unfold atI at h ⊢
  rw [← r.len]
  cases e : ixN ds.length i with
  | none => rw [e] at h; cases h
  | some j =>
    rw [e] at h
    exact r.get h
theorem x_ix (ft : Fit X C) (ha : PE X a (lE C fa)) (hb : PE X b (lE C fb)) (hs : PlainIx b := by exact fun _ _ => rfl) : PE X (.Subscript a b pos) (lE C (e2 ixR fa fb)) := by
  refine PE.imp ?_ (pe_ix IxR.any ha hb hs)
  intro σ H Q
  refine lE2 fun ρ F H x y v w G rx ry h => ?_
  unfold ixR at h
  split at h
  · split at h
    · rename_i e
      cases ry
      cases rx with | tup q r =>
        obtain ⟨u, e1, r1⟩ := r.at e
        exact ⟨_, ix_tup, _, _, _, u, rfl, rfl, by rw [ft.K]; exact seqT_mono G.fh q, e1, h.val G r1⟩
    · exact none_post h
  · split at h
    · rename_i e
      cases ry
      cases rx with | lst q r =>
        obtain ⟨u, e1, r1⟩ := r.at e
        exact ⟨_, ix_list, _, _, _, u, rfl, rfl, SqL.of (G.fh _ _ q), e1, h.val G r1⟩
    · exact none_post h
  · split at h
    · rename_i e
      cases ry
      cases rx with | scr q r =>
        obtain ⟨u, e1, r1⟩ := r.at e
        exact ⟨_, ix_list, _, _, _, u, rfl, rfl, by rw [ft.K]; exact G.fh.seq q, e1, h.val G r1⟩
    · exact none_post h
  · split at h
    · split at h
      · rename_i hz e
        cases ry
        cases rx
        exact ⟨_, ix_str, _, _, _, rfl, rfl, by rw [sizeLine_eq]; omega, e, h.val G (.str _)⟩
      · exact none_post h
    · exact none_post h
  · exact none_post h

/-! ### arguments, displays -/
theorem x_nil : PA X [] (lA C aNil) := by
  refine PA.imp ?_ pa_nil
  rintro σ H Q ⟨ρ, F, G, h⟩
  exact h [] F H (Step.refl G) .nil
theorem x_cons {h1 : PE X e (lE C f)} (hr : PA X es (lA C ff)) (hs : starEach (e :: es) X.env = (false, eval e X.env) :: starEach es X.env := by rfl) : PA X (e :: es) (lA C (aCons f ff)) := by
  refine PA.imp ?_ (pa_cons h1 hr hs)
  rintro σ H Q ⟨ρ, F, G, h⟩
  refine ⟨ρ, F, G, ?_⟩
  have h1 := PostE.bindA' G h
  cases e : f ρ with
  | none => rw [e] at h1; exact h1
  | some r =>
    rw [e] at h1
    cases r with
    | ex x p => exact h1
    | ok sv =>
      intro v F' H' st q1
      obtain ⟨x, F1, st1, rx, h2⟩ := h1 v F' H' st q1
      refine ⟨ρ, F1, st1.g, ?_⟩
      cases e2 : ff ρ with
      | none => rw [e2] at h2; exact h2
      | some r =>
        rw [e2] at h2
        cases r with
        | ex y p => exact h2
        | ok ds =>
          intro vs F2 H2 st2 q2
          exact h2 (v :: vs) F2 H2 st2 (.cons (Rep.mono st2.s _ _ rx) q2)
theorem x_tup {k : Nat} (h : PA X es (lA C ff)) : PE X (.Tuple es k pos) (lE C (eTup ff)) := by
  refine PE.imp ?_ (pe_tup h)
  intro σ H Q
  refine lA1 fun ρ F H ds vs G r h => ?_
  unfold tupR at h
  split at h
  · exact ⟨by rw [← r.len, sizeLine_eq]; omega, fun p hp => PostE.newTup h G hp r⟩
  · exact none_post h
theorem x_lst (h : PA X es (lA C ff)) : PE X (.List es pos) (lE C (eLst ff)) := by
  refine PE.imp ?_ (pe_lst h)
  intro σ H Q
  refine lA1 fun ρ F H ds vs G r h => ?_
  unfold lstR at h
  split at h
  · exact ⟨by rw [← r.len, sizeLine_eq]; omega, fun p hp => PostE.newOwn h G hp r⟩
  · exact none_post h

/-! ### built-ins -/
theorem CallR.any {v : Value} : CallR X v (fun vs H Q => ∃ r : List V → Hp → VK → Prop, CallR X v r ∧ r vs H Q) := fun pins s σ H xs us Q I r ⟨_, o, h⟩ => o pins s σ H xs us Q I r h
def Blt (X : Cx) (C : FR) (v : Value) (g : List D → Option R) : Prop :=
  ∀ (σ : St) (ρ : En) (F H : Hp) (ds : List D) (vs : List V) (Q : VK), Good C F H σ ρ → RepL C.K F ds vs → PostE C σ ρ F H (g ds) Q → ∃ r : List V → Hp → VK → Prop, CallR X v r ∧ r vs H Q
theorem x_blt {id : String} {x : Str} {p : Pos} {g : List D → Option R} (ft : Fit X C) (hc : Blt X C (.builtin id) g) (hg : Gl X x) (hm : C.mg x = none) (hv : bootBuiltins x = some (.builtin id)) (ha : PA X (e :: es) (lA C ff))
    (hn : x ≠ "__name__" := by decide) (hdb : (x == ("__debug__" : Str)) = false := by decide)
    (he : starEach (e :: es) X.env = (false, eval e X.env) :: starEach es X.env := by rfl) (hpl : (backTo pos (starEach es X.env)).any (·.1) = false := by rfl) : PE X (.Call (.Name x p) (e :: es) [] pos) (lE C (eCall g ff)) :=
  PE.imp (fun σ H Q => lA1 fun ρ F H ds vs G r h => hc σ ρ F H ds vs Q G r h) (pe_callB CallR.any hg (by rw [ft.mg]; exact hm) hv ha hn hdb he hpl)
theorem x_bty {T : String} {x : Str} {p : Pos} {g : List D → Option R} (ft : Fit X C) (hc : Blt X C (.type T) g) (hg : Gl X x) (hm : C.mg x = none) (hv : bootBuiltins x = some (.type T)) (ha : PA X (e :: es) (lA C ff))
    (hn : x ≠ "__name__" := by decide) (hdb : (x == ("__debug__" : Str)) = false := by decide)
    (he : starEach (e :: es) X.env = (false, eval e X.env) :: starEach es X.env := by rfl) (hpl : (backTo pos (starEach es X.env)).any (·.1) = false := by rfl) : PE X (.Call (.Name x p) (e :: es) [] pos) (lE C (eCall g ff)) :=
  PE.imp (fun σ H Q => lA1 fun ρ F H ds vs G r h => hc σ ρ F H ds vs Q G r h) (pe_callTy CallR.any hg (by rw [ft.mg]; exact hm) hv ha hn hdb he hpl)
theorem b_len (ft : Fit X C) : Blt X C (.builtin "len") lenR := by
  intro σ ρ F H ds vs Q G r h
  unfold lenR at h
  split at h
  · cases r with | cons p q => cases q; cases p with | tup q r =>
      exact ⟨_, call_len, _, _, rfl, .inr ⟨_, by rw [ft.K]; exact seqT_mono G.fh q, rfl⟩, by rw [← r.len]; exact h.val G (.int _)⟩
  · cases r with | cons p q => cases q; cases p with | lst q r =>
      exact ⟨_, call_len, _, _, rfl, .inl ⟨_, SqL.of (G.fh _ _ q), rfl⟩, by rw [← r.len]; exact h.val G (.int _)⟩
  · cases r with | cons p q => cases q; cases p with | scr q r =>
      exact ⟨_, call_len, _, _, rfl, .inl ⟨_, by rw [ft.K]; exact G.fh.seq q, rfl⟩, by rw [← r.len]; exact h.val G (.int _)⟩
  · split at h
    · cases r with | cons p q => cases q; cases p
                                 exact ⟨_, call_len, _, _, rfl, ⟨by rw [sizeLine_eq]; omega, rfl⟩, h.val G (.int _)⟩
    · exact none_post h
  · exact none_post h
theorem b_abs : Blt X C (.builtin "abs") absR := by
  intro σ ρ F H ds vs Q G r h
  unfold absR at h
  split at h
  · cases r with | cons p q => cases q; cases p
                               exact ⟨_, call_abs, _, rfl, h.val G (.int _)⟩
  · exact none_post h
theorem intsOf_eq : ∀ {ds : List D} {bs : List Int}, intsOf ds = some bs → ds = bs.map D.int
  | [], _, h => by cases h; rfl
  | d :: ds, bs, h => by
    cases d <;> try (cases h)
    rename_i i
    unfold intsOf at h
    split at h
    · rename_i e
      cases h
      simp [intsOf_eq e]
    · cases h
theorem blsOf_eq : ∀ {ds : List D} {bs : List Bool}, blsOf ds = some bs → ds = bs.map D.bl
  | [], _, h => by cases h; rfl
  | d :: ds, bs, h => by
    cases d <;> try (cases h)
    rename_i i
    unfold blsOf at h
    split at h
    · rename_i e
      cases h
      simp [blsOf_eq e]
    · cases h
theorem leastI_spec : ∀ (x : Int) (xs : List Int), leastI (x :: xs) ∈ x :: xs ∧ ∀ y ∈ x :: xs, leastI (x :: xs) ≤ y
  | x, [] => by simp [leastI]
  | x, z :: zs => by
    obtain ⟨h1, h2⟩ := leastI_spec z zs
    show (if leastI (z :: zs) < x then leastI (z :: zs) else x) ∈ _ ∧ ∀ y ∈ x :: z :: zs, (if leastI (z :: zs) < x then leastI (z :: zs) else x) ≤ y
    split
    · refine ⟨List.mem_cons_of_mem _ h1, fun y hy => ?_⟩
      rcases List.mem_cons.mp hy with rfl | hy
      · omega
      · exact h2 y hy
    · refine ⟨List.mem_cons_self, fun y hy => ?_⟩
      rcases List.mem_cons.mp hy with rfl | hy
      · omega
      · have := h2 y hy; omega
theorem greatestI_spec : ∀ (x : Int) (xs : List Int), greatestI (x :: xs) ∈ x :: xs ∧ ∀ y ∈ x :: xs, y ≤ greatestI (x :: xs)
  | x, [] => by simp [greatestI]
  | x, z :: zs => by
    obtain ⟨h1, h2⟩ := greatestI_spec z zs
    show (if x < greatestI (z :: zs) then greatestI (z :: zs) else x) ∈ _ ∧ ∀ y ∈ x :: z :: zs, y ≤ (if x < greatestI (z :: zs) then greatestI (z :: zs) else x)
    split
    · refine ⟨List.mem_cons_of_mem _ h1, fun y hy => ?_⟩
      rcases List.mem_cons.mp hy with rfl | hy
      · omega
      · exact h2 y hy
    · refine ⟨List.mem_cons_self, fun y hy => ?_⟩
      rcases List.mem_cons.mp hy with rfl | hy
      · omega
      · have := h2 y hy; omega
theorem b_min2 (ft : Fit X C) (hh : C.hot = false := by rfl) : Blt X C (.builtin "min") min2R := by
  intro σ ρ F H ds vs Q G r h
  unfold min2R at h
  split at h
  · cases r with | cons p q => cases q with | cons p2 q => cases q; cases p; cases p2
                                                           exact ⟨_, call_min2 (ft.calm hh), _, _, rfl, h.val G (.int _)⟩
  · exact none_post h
theorem b_max2 (ft : Fit X C) (hh : C.hot = false := by rfl) : Blt X C (.builtin "max") max2R := by
  intro σ ρ F H ds vs Q G r h
  unfold max2R at h
  split at h
  · cases r with | cons p q => cases q with | cons p2 q => cases q; cases p; cases p2
                                                           exact ⟨_, call_max2 (ft.calm hh), _, _, rfl, h.val G (.int _)⟩
  · exact none_post h
theorem b_min (ft : Fit X C) (hh : C.hot = false := by rfl) : Blt X C (.builtin "min") minR := by
  intro σ ρ F H ds vs Q G r h
  unfold minR at h
  split at h
  · split at h
    · rename_i b bs e
      cases r with | cons p q => cases q; cases p with | lst q r =>
          have e1 := intsOf_eq e
          subst e1
          refine ⟨_, cr_min (ft.calm hh), _, b :: bs, rfl, by rw [← r.ints]; exact SqL.of (G.fh _ _ q), by simp, fun m h1 h2 => ?_⟩
          obtain ⟨k1, k2⟩ := leastI_spec b bs
          have a1 := h2 _ k1
          have a2 := k2 _ h1
          have : m = leastI (b :: bs) := by omega
          subst this
          exact h.val G (.int _)
    · exact none_post h
  · exact none_post h
theorem b_max (ft : Fit X C) (hh : C.hot = false := by rfl) : Blt X C (.builtin "max") maxR := by
  intro σ ρ F H ds vs Q G r h
  unfold maxR at h
  split at h
  · split at h
    · rename_i b bs e
      cases r with | cons p q => cases q; cases p with | lst q r =>
          have e1 := intsOf_eq e
          subst e1
          refine ⟨_, cr_max (ft.calm hh), _, b :: bs, rfl, by rw [← r.ints]; exact SqL.of (G.fh _ _ q), by simp, fun m h1 h2 => ?_⟩
          obtain ⟨k1, k2⟩ := greatestI_spec b bs
          have a1 := h2 _ k1
          have a2 := k2 _ h1
          have : m = greatestI (b :: bs) := by omega
          subst this
          exact h.val G (.int _)
    · exact none_post h
  · exact none_post h
theorem b_sum (ft : Fit X C) (hh : C.hot = false := by rfl) : Blt X C (.builtin "sum") sumR := by
  intro σ ρ F H ds vs Q G r h
  unfold sumR at h
  split at h
  · split at h
    · rename_i bs e
      cases r with | cons p q => cases q; cases p with | lst q r =>
          have e1 := intsOf_eq e
          subst e1
          exact ⟨_, cr_sum (ft.calm hh), _, bs, rfl, by rw [← r.ints]; exact SqL.of (G.fh _ _ q), h.val G (.int _)⟩
    · exact none_post h
  · exact none_post h
theorem b_all (ft : Fit X C) (hh : C.hot = false := by rfl) : Blt X C (.builtin "all") allR := by
  intro σ ρ F H ds vs Q G r h
  unfold allR at h
  split at h
  · split at h
    · rename_i bs e
      cases r with | cons p q => cases q; cases p with | lst q r =>
          have e1 := blsOf_eq e
          subst e1
          exact ⟨_, cr_all (ft.calm hh), _, bs, rfl, by rw [← r.bls]; exact SqL.of (G.fh _ _ q), h.val G (.bl _)⟩
    · exact none_post h
  · exact none_post h
theorem b_any (ft : Fit X C) (hh : C.hot = false := by rfl) : Blt X C (.builtin "any") anyR := by
  intro σ ρ F H ds vs Q G r h
  unfold anyR at h
  split at h
  · split at h
    · rename_i bs e
      cases r with | cons p q => cases q; cases p with | lst q r =>
          have e1 := blsOf_eq e
          subst e1
          exact ⟨_, cr_any (ft.calm hh), _, bs, rfl, by rw [← r.bls]; exact SqL.of (G.fh _ _ q), h.val G (.bl _)⟩
    · exact none_post h
  · exact none_post h
theorem b_int : Blt X C (.type "int") intR := by
  intro σ ρ F H ds vs Q G r h
  unfold intR at h
  split at h
  · cases r with | cons p q => cases q; cases p
                               exact ⟨_, call_int1, .inl ⟨_, rfl, h.val G (.int _)⟩⟩
  · cases r with | cons p q => cases q; cases p
                               exact ⟨_, call_int1, .inr ⟨_, rfl, h.val G (.int _)⟩⟩
  · exact none_post h
theorem b_tuple (ft : Fit X C) : Blt X C (.type "tuple") tupleR := by
  intro σ ρ F H ds vs Q G r h
  unfold tupleR at h
  split at h
  · cases r with | cons p q => cases q; cases p with | lst q r =>
      exact ⟨_, call_tuple_of, _, _, rfl, .inl ⟨SqL.of (G.fh _ _ q), fun l hl => PostE.newTup h G hl r⟩⟩
  · cases r with | cons p q => cases q; cases p with | tup q r =>
      exact ⟨_, call_tuple_of, _, _, rfl, .inr ⟨by rw [ft.K]; exact seqT_mono G.fh q, h.val G (.tup q r)⟩⟩
  · exact none_post h
theorem b_list (ft : Fit X C) : Blt X C (.type "list") listR := by
  intro σ ρ F H ds vs Q G r h
  unfold listR at h
  split at h
  · cases r with | cons p q => cases q; cases p with | lst q r =>
      exact ⟨_, call_list_of, _, _, rfl, .inl (SqL.of (G.fh _ _ q)), fun l hl => PostE.newOwn h G hl r⟩
  · cases r with | cons p q => cases q; cases p with | tup q r =>
      exact ⟨_, call_list_of, _, _, rfl, .inr (by rw [ft.K]; exact seqT_mono G.fh q), fun l hl => PostE.newOwn h G hl r⟩
  · cases r with | cons p q => cases q; cases p with | scr q r =>
      exact ⟨_, call_list_of, _, _, rfl, .inl (by rw [ft.K]; exact G.fh.seq q), fun l hl => PostE.newOwn h G hl r⟩
  · exact none_post h
/-- the interpreter's statics name no limit of digits -/
def digB (K : PySem.W.Frag) : Bool := match K.lookup cStatics with
  | some o => match o.data with
    | .dict es _ => es.all (fun e => match e.key with
      | .str _ _ => true
      | _ => false) && (nsFind es "sys.int_max_str_digits").isNone
    | _ => false
  | none => false
def DigC (K : PySem.W.Frag) : Prop := ∀ h : Heap, K.In h → h.NoDigits
theorem dig_of {K : PySem.W.Frag} (c : digB K = true) : DigC K := by
  intro h kin
  unfold digB at c
  split at c
  · rename_i o ho
    split at c
    · rename_i es ep hd
      rw [Bool.and_eq_true] at c
      refine ⟨fun n => nsFind es n, ⟨o, es, ep, kin _ _ ho, hd, fun e he => ?_, fun _ => rfl⟩, Option.isNone_iff_eq_none.mp c.2⟩
      obtain ⟨i, hi, rfl⟩ := Array.mem_iff_getElem.mp he
      have := Array.all_eq_true.mp c.1 i hi
      split at this
      · rename_i n t e
        exact ⟨n, t, e⟩
      · cases this
    · cases c
  · cases c
theorem dig_lt {i : Int} (h : i.natAbs.log2 < 12000) : i.natAbs < 10 ^ 4300 := by
  generalize hP : 10 ^ 4300 = P
  have lo : 2 ^ 12900 ≤ P := hP ▸ PyProof.Rows.pow_lo
  exact Nat.lt_of_lt_of_le (PyProof.Rows.lt_of_log2 (Nat.lt_trans h (by decide))) lo
theorem call_strN (ft : Fit X C) (dg : DigC C.K) (hh : C.hot = false) : CallR X (.type "str") (fun xs H Q => ∃ i : Int, xs = [.int i] ∧ i.natAbs.log2 < 12000 ∧ Q (.str (toString i)) H) := by
  rintro pins s σ H xs us Q I r ⟨i, rfl, hz, q⟩
  obtain ⟨u, rfl, t, rfl⟩ := vals1 r
  have hn : s.heap.NoDigits := dg _ fun a o e => I.bk _ _ (I.ok.mod.kin _ _ (by rw [ft.K]; exact e))
  refine PyProof.Rows.str_of_int_or (I.ok.hd (ft.calm hh)) hn (fun _ => ?_) fun h => absurd (dig_lt hz) (Nat.not_lt.mpr h)
  exact ⟨.str (toString i), H, I.tok _, ⟨_, rfl⟩, q⟩
theorem b_str (ft : Fit X C) (dg : DigC C.K) (hh : C.hot = false := by rfl) : Blt X C (.type "str") strR := by
  intro σ ρ F H ds vs Q G r h
  unfold strR at h
  split at h
  · split at h
    · cases r with | cons p q => cases q; cases p
                                 exact ⟨_, call_strN ft dg hh, _, rfl, by assumption, h.val G (.str _)⟩
    · exact none_post h
  · exact none_post h
theorem tyX_of {K : PySem.W.Frag} {F H : Hp} {x : D} {v : V} {t : String} (s : Same F H) (r : Rep K F x v) (h : tyD x = some t) : TyX K H v (.type t) := by
  cases r with
  | non => cases h; exact .base .non
  | bl b => cases h; exact .base (.bl b)
  | int i => cases h; exact .base (.int i)
  | str i => cases h; exact .base (.str i)
  | tup q r =>
    cases h
    rcases q with (q | ⟨o, q⟩) | ⟨o, its, n, k, c, _⟩
    · exact .base (.tup (s _ _ q))
    · exact .fTuple (s _ _ q)
    · exact .kTuple k c
  | lst q r => cases h; exact .base (.lst (s _ _ q))
  | scr q r =>
    cases h
    rcases q with (q | ⟨o, q⟩) | ⟨o, its, n, k, c, _⟩
    · exact .base (.lst (s _ _ q))
    · exact .base (.frz (s _ _ q))
    · exact .kList k c
  | raw w => cases h
  | box _ _ => cases h
theorem isi_kit {t T : String} {b : Bool} (ht : t = "NoneType" ∨ t = "bool" ∨ t = "int" ∨ t = "str" ∨ t = "tuple" ∨ t = "list") (h : isiB t T = some b) : kitB t T = some b := by
  unfold isiB at h
  split at h
  · rename_i e; subst e; rcases ht with rfl | rfl | rfl | rfl | rfl | rfl <;> (cases h; decide +kernel)
  · split at h
    · rename_i e; subst e; rcases ht with rfl | rfl | rfl | rfl | rfl | rfl <;> (cases h; decide +kernel)
    · split at h
      · rename_i e; subst e; rcases ht with rfl | rfl | rfl | rfl | rfl | rfl <;> (cases h; decide +kernel)
      · split at h
        · rename_i e; subst e; rcases ht with rfl | rfl | rfl | rfl | rfl | rfl <;> (cases h; decide +kernel)
        · split at h
          · rename_i e; subst e; rcases ht with rfl | rfl | rfl | rfl | rfl | rfl <;> (cases h; decide +kernel)
          · cases h
theorem tyD_in {x : D} {t : String} (h : tyD x = some t) : t = "NoneType" ∨ t = "bool" ∨ t = "int" ∨ t = "str" ∨ t = "tuple" ∨ t = "list" := by
  cases x <;> cases h <;> simp
theorem b_isi (ft : Fit X C) : Blt X C (.builtin "isinstance") isiR := by
  intro σ ρ F H ds vs Q G r h
  unfold isiR at h
  split at h
  · split at h
    · split at h
      · rename_i x T _ t e _ b e2
        cases r with | cons p q => cases q with | cons p2 q =>
          cases q
          cases p2
          exact ⟨_, call_isi, _, _, _, _, b, rfl, .ty T, by rw [ft.K]; exact tyX_of G.fh p e, kit_ty (isi_kit (tyD_in e) e2), h.val G (.bl _)⟩
      · exact none_post h
    · exact none_post h
  · exact none_post h

/-! ### calls of defs -/
/-- a def's promise: what a function of data says -/
def spF (K : PySem.W.Frag) (mg : Str → Option Value) (fn : List D → Option R) : Sp := fun vs H Q E => ∃ F ds, Same F H ∧ RepL K F ds vs ∧ match fn ds with
  | none => False
  | some (.ok sv) => ∀ v F' H', Same F F' → Same F' H' → Same H H' → (∀ b o, F' b = some o → F b = some o ∨ H b = none) → RepS K H F' H' sv v → Q v H'
  | some (.ex x p) => ∀ H' cls d, Same H H' → XR mg H' x p cls d → E cls d H'
theorem Good.after {σ : St} {ρ : En} {F H F' H' : Hp} (G : Good C F H σ ρ) (s1 : Same F F') (s2 : Same F' H') (s3 : Same H H') (nw : ∀ b o, F' b = some o → F b = some o ∨ H b = none) : Good C F' H' σ ρ := by
  refine ⟨s2, G.h0.trans s3, G.f0.trans s1, fun b o e => ?_, G.len, fun i sv e => ?_, G.ap⟩
  · rcases nw b o e with z | z
    · exact G.nw b o z
    · exact .inr (G.h0.free z)
  · obtain ⟨w, e1, q⟩ := G.at_ i sv e
    refine ⟨w, e1, ?_⟩
    cases sv with
    | d x => exact Rep.mono s1 _ _ q
    | own ys =>
      obtain ⟨p, vs, rfl, hp, rl, fp, h0⟩ := q
      refine ⟨p, vs, rfl, s3 _ _ hp, RepL.mono s1 _ _ rl, ?_, h0⟩
      cases z : F' p with
      | none => rfl
      | some o =>
        rcases nw p o z with z | z
        · rw [fp] at z; cases z
        · rw [hp] at z; cases z
theorem spF_of {σ : St} {ρ : En} {F H : Hp} {Q : VK} {fn : List D → Option R} {ds : List D} {vs : List V} (G : Good C F H σ ρ) (r : RepL C.K F ds vs) (h : PostE C σ ρ F H (fn ds) Q) : spF C.K C.mg fn vs H Q (WE C.W σ) := by
  refine ⟨F, ds, G.fh, r, ?_⟩
  cases e : fn ds with
  | none => rw [e] at h; exact h
  | some q =>
    rw [e] at h
    cases q with
    | ok sv =>
      intro v F' H' s1 s2 s3 nw rs
      exact h v F' H' ⟨G.after s1 s2 s3 nw, s1, s3, nw⟩ rs
    | ex x p =>
      intro H' cls d s3 xr
      exact h F H' cls d ⟨G.after (Same.refl F) (G.fh.trans s3) s3 fun b o z => .inl z, Same.refl F, s3, fun _ _ z => .inl z⟩ xr
/-- f(e, ..): the written arguments, then the defaults dds -/
theorem x_call {k : Nat} {fp : Addr} {fd : FuncData} {ps : List Str} {x : Str} {p : Pos} {fn : List D → Option R} {dds : List D} {dvs : List V} {ds : List Value} (ft : Fit X C) (F : FnOk X.prog X.w X.K X.mg X.base (L2.CX X.prog X.w) k fp fd ps (spF C.K C.mg fn)) (hr : Room k X.A) (hg : Gl X x) (hm : C.mg x = some (.ref fp))
    (hk : PySem.W.keepIn C.K (.ref fp) = true) (hb : Binds C.K fd ps ds) (hd : Vals dvs ds) (hD : ∀ F, RepL C.K F dds dvs) (ha : PA X (e :: es) (lA C ff)) (hdb : (x == ("__debug__" : Str)) = false := by decide) (he : starEach (e :: es) X.env = (false, eval e X.env) :: starEach es X.env := by rfl) (hpl : (backTo pos (starEach es X.env)).any (·.1) = false := by rfl) :
    PE X (.Call (.Name x p) (e :: es) [] pos) (lE C (eCall (fun us => fn (us ++ dds)) ff)) := by
  refine PE.imp ?_ (pe_callSD F hr hg (by rw [ft.mg]; exact hm) (by rw [ft.K]; exact hk) (by rw [ft.K]; exact hb) hd (fun σ => passAt ft.tk σ) ha hdb he hpl)
  intro σ H Q
  exact lA1 fun ρ F H ds vs G r h => spF_of G (r.append (hD F)) h
/-- no defaults -/
theorem x_calln {k : Nat} {fp : Addr} {fd : FuncData} {ps : List Str} {x : Str} {p : Pos} {fn : List D → Option R} (ft : Fit X C) (F : FnOk X.prog X.w X.K X.mg X.base (L2.CX X.prog X.w) k fp fd ps (spF C.K C.mg fn)) (hr : Room k X.A) (hg : Gl X x) (hm : C.mg x = some (.ref fp))
    (hk : PySem.W.keepIn C.K (.ref fp) = true) (hb : Binds C.K fd ps []) (ha : PA X (e :: es) (lA C ff)) (hdb : (x == ("__debug__" : Str)) = false := by decide) (he : starEach (e :: es) X.env = (false, eval e X.env) :: starEach es X.env := by rfl) (hpl : (backTo pos (starEach es X.env)).any (·.1) = false := by rfl) :
    PE X (.Call (.Name x p) (e :: es) [] pos) (lE C (eCall fn ff)) := by
  refine PE.imp ?_ (pe_callS F hr hg (by rw [ft.mg]; exact hm) (by rw [ft.K]; exact hk) (by rw [ft.K]; exact hb) (fun σ => passAt ft.tk σ) ha hdb he hpl)
  intro σ H Q
  exact lA1 fun ρ F H ds vs G r h => spF_of G r h
theorem passL0 {X : Cx} {σ : St} {W : WX} (tk : Takes X W) : PassesAt (L2.CX X.prog X.w) X σ (WE W σ) := passAt tk σ
/-- f() -/
theorem x_call0 {k : Nat} {fp : Addr} {fd : FuncData} {x : Str} {p : Pos} {fn : List D → Option R} (ft : Fit X C) (F : FnOk X.prog X.w X.K X.mg X.base (L2.CX X.prog X.w) k fp fd [] (spF C.K C.mg fn)) (hr : Room k X.A) (hg : Gl X x) (hm : C.mg x = some (.ref fp))
    (hk : PySem.W.keepIn C.K (.ref fp) = true) (hb : Binds C.K fd [] []) (hdb : (x == ("__debug__" : Str)) = false := by decide) :
    PE X (.Call (.Name x p) [] [] pos) (lE C (eCall fn aNil)) := by
  refine ⟨fun pins s σ H Q I h => ?_⟩
  obtain ⟨ρ, F0, G, h⟩ := h
  refine wpAny_Call_Name_kw (ld_glob I hg (by rw [ft.mg]; exact hm) ?_ hdb)
  exact PySem.W.callWith_K0 I.kIn (by rw [ft.K]; exact hk) (run_fnS (us := []) (vs := []) (E := WE C.W) F hr (by rw [ft.K]; exact hb) (passAt ft.tk σ) I .nil (spF_of (ds := []) G .nil h))
end
end PT
/-! PT: statements. -/
namespace PT
open PySem PySem.Spec PyProof.Rows L2

structure PD where
  nx : En → Prop
  rt : SV → Prop
  bk : En → Prop
  ct : En → Prop
  ex : Str → Option Int → Prop
abbrev SF := PD → En → Prop
/-- B: the data ahead of the statement, which stay -/
structure Fits (C : FR) (B : Hp) (P : PD) (D : Ends) : Prop where
  nx : ∀ σ ρ F H, Good C F H σ ρ → Same B F → P.nx ρ → D.nx σ H
  rt : ∀ σ ρ F H v sv, Good C F H σ ρ → Same B F → RepS C.K C.H0 F H sv v → P.rt sv → D.rt v H
  bk : ∀ σ ρ F H, Good C F H σ ρ → Same B F → P.bk ρ → D.bk σ H
  ct : ∀ σ ρ F H, Good C F H σ ρ → Same B F → P.ct ρ → D.ct σ H
  ex : ∀ σ ρ F H x p cls d, Good C F H σ ρ → Same B F → XR C.mg H x p cls d → P.ex x p → C.W cls d σ H
theorem Fits.up {C : FR} {B B' : Hp} {P : PD} {D : Ends} (f : Fits C B P D) (s : Same B B') : Fits C B' P D :=
  ⟨fun σ ρ F H g t => f.nx σ ρ F H g (s.trans t), fun σ ρ F H v sv g t => f.rt σ ρ F H v sv g (s.trans t), fun σ ρ F H g t => f.bk σ ρ F H g (s.trans t), fun σ ρ F H g t => f.ct σ ρ F H g (s.trans t), fun σ ρ F H x p cls d g t => f.ex σ ρ F H x p cls d g (s.trans t)⟩
def lS (C : FR) (w : SF) : TS := fun D σ H => ∃ ρ F P, Good C F H σ ρ ∧ w P ρ ∧ Fits C F P D

def wR (r : Option R) (k : SV → Prop) (ex : Str → Option Int → Prop) : Prop :=
  match r with
  | some (.ok sv) => k sv
  | some (.ex x p) => ex x p
  | none => False
def wRB (r : Option RB) (k : Bool → Prop) (ex : Str → Option Int → Prop) : Prop :=
  match r with
  | some (.ok sv) => k sv
  | some (.ex x p) => ex x p
  | none => False
def wRL (r : Option RL) (k : List D → Prop) (ex : Str → Option Int → Prop) : Prop :=
  match r with
  | some (.ok sv) => k sv
  | some (.ex x p) => ex x p
  | none => False
def wNop : SF := fun P ρ => P.nx ρ
def wSeq (a b : SF) : SF := fun P ρ => a { P with nx := fun ρ' => b P ρ' } ρ
/-- name = e, as data; as an own list -/
def wSet (i : Nat) (f : EF) : SF := fun P ρ => wR (f ρ) (fun sv => P.nx (ρ.set i (some (.d (toD sv))))) P.ex
def wOwn (i : Nat) (f : EF) : SF := fun P ρ => wR (f ρ) (fun sv => P.nx (ρ.set i (some sv))) P.ex
def wRet (f : EF) : SF := fun P ρ => wR (f ρ) P.rt P.ex
def wRetN : SF := fun P _ => P.rt (.d .non)
/-- return name, an own list too -/
def wRetV (i : Nat) : SF := fun P ρ => match ρ[i]? with
  | some (some sv) => P.rt sv
  | _ => False
def wIf (c : CF) (a b : SF) : SF := fun P ρ => wRB (c ρ) (fun t => if t then a P ρ else b P ρ) P.ex
def wExpr (f : EF) : SF := fun P ρ => wR (f ρ) (fun _ => P.nx ρ) P.ex
def wApp (i : Nat) (f : EF) : SF := fun P ρ => match ρ[i]? with
  | some (some (.own xs)) => wR (f ρ) (fun sv => xs.length ≤ 1000000 ∧ P.nx (ρ.set i (some (.own (xs ++ [toD sv]))))) P.ex
  | _ => False
def wRaise (x : Str) : SF := fun P _ => P.ex x none
def wBreak : SF := fun P ρ => P.bk ρ
def wCont : SF := fun P ρ => P.ct ρ
/-- the list in slot i is data from here on -/
def wFrz (i : Nat) (w : SF) : SF := fun P ρ => match ρ[i]? with
  | some (some sv) => w P (ρ.set i (some (.d (toD sv))))
  | _ => w P ρ
def wWhileN (c : CF) (b : SF) (P : PD) : Nat → En → Prop
  | 0, _ => False
  | n + 1, ρ => wRB (c ρ) (fun t => if t then b { P with nx := wWhileN c b P n, ct := wWhileN c b P n, bk := P.nx } ρ else P.nx ρ) P.ex
def wWhile (c : CF) (b : SF) : SF := fun P ρ => ∃ n, wWhileN c b P n ρ
/-! targets -/
abbrev GF := D → En → Option En
abbrev GLF := List D → En → Option En
def gN (i : Nat) : GF := fun x ρ => some (ρ.set i (some (.d x)))
def gNil : GLF := fun ds ρ => match ds with
  | [] => some ρ
  | _ => none
def gCons (g : GF) (gs : GLF) : GLF := fun ds ρ => match ds with
  | d :: r => (match g d ρ with
    | some ρ' => gs r ρ'
    | none => none)
  | [] => none
def gTup (gs : GLF) : GF := fun x ρ => match x with
  | .tup ds => gs ds ρ
  | _ => none
def gLs (gs : GLF) : GF := fun x ρ => match x with
  | .lst ds => gs ds ρ
  | .scr ds => gs ds ρ
  | _ => none
def wAsg (f : EF) (g : GF) : SF := fun P ρ => wR (f ρ) (fun sv => match g (toD sv) ρ with
  | some ρ' => P.nx ρ'
  | none => False) P.ex
/-- a, b = x, y at once -/
def wPar (i j : Nat) (fa : AF) : SF := fun P ρ => wRL (fa ρ) (fun ds => match ds with
  | [x, y] => P.nx ((ρ.set i (some (.d x))).set j (some (.d y)))
  | _ => False) P.ex
def wForL (g : GF) (b : SF) (P : PD) : List D → En → Prop
  | [], ρ => P.nx ρ
  | d :: ds, ρ => match g d ρ with
    | some ρ1 => b { P with nx := wForL g b P ds, ct := wForL g b P ds, bk := P.nx } ρ1
    | none => False
def wFor (it : AF) (g : GF) (b : SF) : SF := fun P ρ => wRL (it ρ) (fun ds => wForL g b P ds ρ) P.ex

section
variable {X : Cx} {C : FR} {e a b : Expr} {es : List Expr} {f fa fb : EF} {ff : AF} {pos : Pos} {st : Stmt} {sts : List Stmt} {w u : SF}

theorem Good.set {F H : Hp} {σ : St} {ρ : En} {sv : SV} {v : V} (G : Good C F H σ ρ) (i : Nat) (r : RepS C.K C.H0 F H sv v) (a : Apart σ ρ sv v) : Good C F H (σ.set i (some v)) (ρ.set i (some sv)) := by
  refine ⟨G.fh, G.h0, G.f0, G.nw, by simp [G.len], fun j w e => ?_, fun j k xs ys p hjk e1 e2 e3 e4 => ?_⟩
  · by_cases hij : i = j
    · subst hij
      by_cases hl : i < ρ.length
      · rw [List.getElem?_set_self hl] at e
        cases e
        exact ⟨v, by rw [List.getElem?_set_self (by rw [← G.len]; exact hl)], r⟩
      · rw [List.getElem?_eq_none (by simpa using hl)] at e; cases e
    · rw [List.getElem?_set_ne hij] at e
      obtain ⟨x, e', q⟩ := G.at_ j w e
      exact ⟨x, by rw [List.getElem?_set_ne hij]; exact e', q⟩
  · have hl : ∀ (j : Nat) (z : SV), (ρ.set i (some sv))[j]? = some (some z) → i = j → z = sv ∧ i < ρ.length := fun j z e hij => by
      subst hij
      by_cases hl : i < ρ.length
      · rw [List.getElem?_set_self hl] at e; cases e; exact ⟨rfl, hl⟩
      · rw [List.getElem?_eq_none (by simpa using hl)] at e; cases e
    by_cases hj : i = j
    · obtain ⟨q1, q2⟩ := hl j _ e1 hj
      have hk : i ≠ k := fun z => hjk (hj.symm.trans z)
      rw [List.getElem?_set_ne hk] at e2 e4
      subst hj
      rw [List.getElem?_set_self (by rw [← G.len]; exact q2)] at e3
      cases e3
      exact a xs q1.symm k ys e2 e4
    · by_cases hk : i = k
      · obtain ⟨q1, q2⟩ := hl k _ e2 hk
        rw [List.getElem?_set_ne hj] at e1 e3
        subst hk
        rw [List.getElem?_set_self (by rw [← G.len]; exact q2)] at e4
        cases e4
        exact a ys q1.symm j xs e1 e3
      · rw [List.getElem?_set_ne hj] at e1 e3
        rw [List.getElem?_set_ne hk] at e2 e4
        exact G.ap j k xs ys p hjk e1 e2 e3 e4
/-- an own list is rewritten -/
theorem Good.write {F H : Hp} {σ : St} {ρ : En} {i : Nat} {xs ys : List D} {p : Addr} {ws : List V} (G : Good C F H σ ρ) (e : ρ[i]? = some (some (.own xs))) (es : σ[i]? = some (some (.ref p))) (r : RepL C.K F ys ws) : Good C F (upd H p (.lst ws)) σ (ρ.set i (some (.own ys))) := by
  obtain ⟨v, e', p', vs, rfl, hp, rl, fp, h0⟩ := G.at_ i _ e
  rw [es] at e'
  cases e'
  have hil : i < ρ.length := (List.getElem?_eq_some_iff.mp e).1
  refine ⟨fun q o z => ?_, fun q o z => ?_, G.f0, G.nw, by simp [G.len], fun j sv z => ?_, fun j k as bs q hjk z1 z2 z3 z4 => ?_⟩
  · rw [upd_ne (fun h => by subst h; rw [fp] at z; cases z)]; exact G.fh q o z
  · rw [upd_ne (fun h => by subst h; rw [h0] at z; cases z)]; exact G.h0 q o z
  · by_cases hij : i = j
    · subst hij
      rw [List.getElem?_set_self hil] at z
      cases z
      exact ⟨_, es, p, ws, rfl, upd_same, r, fp, h0⟩
    · rw [List.getElem?_set_ne hij] at z
      obtain ⟨x, e2, q⟩ := G.at_ j sv z
      refine ⟨x, e2, ?_⟩
      cases sv with
      | d y => exact q
      | own bs =>
        obtain ⟨p2, vs2, rfl, hp2, rl2, fp2, h02⟩ := q
        refine ⟨p2, vs2, rfl, ?_, rl2, fp2, h02⟩
        rw [upd_ne (fun h => ?_)]
        · exact hp2
        · subst h; exact G.ap i j xs bs p2 hij e z es e2
  · have own : ∀ (j : Nat) (as : List D), (ρ.set i (some (.own ys)))[j]? = some (some (.own as)) → ∃ cs, ρ[j]? = some (some (.own cs)) := fun j as z => by
      by_cases hij : i = j
      · subst hij; exact ⟨xs, e⟩
      · rw [List.getElem?_set_ne hij] at z; exact ⟨as, z⟩
    obtain ⟨c1, y1⟩ := own j as z1
    obtain ⟨c2, y2⟩ := own k bs z2
    exact G.ap j k c1 c2 q hjk y1 y2 z3 z4

theorem s_nil : PSs X [] (lS C wNop) := PSs.imp (fun D σ H ⟨ρ, F, P, G, h, ft⟩ => ft.nx σ ρ F H G (Same.refl F) h) pss_nil
theorem s_one (h : PS X st (lS C w)) : PSs X [st] (lS C w) := pss_one h
theorem s_cons (h1 : PS X st (lS C w)) (h2 : PSs X sts (lS C u)) : PSs X (st :: sts) (lS C (wSeq w u)) := by
  refine PSs.imp ?_ (pss_cons h1 h2)
  rintro D σ H ⟨ρ, F, P, G, h, ft⟩
  exact ⟨ρ, F, _, G, h, ⟨fun σ' ρ' F' H' G' s q => ⟨ρ', F', P, G', q, ft.up s⟩, ft.rt, ft.bk, ft.ct, ft.ex⟩⟩
/-- from an expression's reading -/
theorem lS_E {k : SV → Prop} {P : PD} {D : Ends} {σ : St} {ρ : En} {F H : Hp} {Q : VK} (G : Good C F H σ ρ) (ft : Fits C F P D) (h : wR (f ρ) k P.ex) (hq : ∀ sv v F' H', Step C σ ρ F H F' H' → RepS C.K H F' H' sv v → k sv → Q v H') : lE C f σ H Q := by
  refine ⟨ρ, F, G, ?_⟩
  cases e : f ρ with
  | none => rw [e] at h; exact h
  | some r =>
    rw [e] at h
    cases r with
    | ok sv => exact fun v F' H' st q => hq sv v F' H' st q h
    | ex x p => exact fun F' H' cls d st q => ft.ex σ ρ F' H' x p cls d st.g st.s q h
theorem lS_B {c : CF} {k : Bool → Prop} {P : PD} {D : Ends} {σ : St} {ρ : En} {F H : Hp} {Q : Bool → Hp → Prop} (G : Good C F H σ ρ) (ft : Fits C F P D) (h : wRB (c ρ) k P.ex) (hq : ∀ t F' H', Step C σ ρ F H F' H' → k t → Q t H') : lT C c σ H Q := by
  refine ⟨ρ, F, G, ?_⟩
  cases e : c ρ with
  | none => rw [e] at h; exact h
  | some r =>
    rw [e] at h
    cases r with
    | ok t => exact fun F' H' st => hq t F' H' st h
    | ex x p => exact fun F' H' cls d st q => ft.ex σ ρ F' H' x p cls d st.g st.s q h
theorem lS_A {c : AF} {k : List D → Prop} {P : PD} {D : Ends} {σ : St} {ρ : En} {F H : Hp} {Q : List V → Hp → Prop} (G : Good C F H σ ρ) (ft : Fits C F P D) (h : wRL (c ρ) k P.ex) (hq : ∀ ds vs F' H', Step C σ ρ F H F' H' → RepL C.K F' ds vs → k ds → Q vs H') : lA C c σ H Q := by
  refine ⟨ρ, F, G, ?_⟩
  cases e : c ρ with
  | none => rw [e] at h; exact h
  | some r =>
    rw [e] at h
    cases r with
    | ok t => exact fun vs F' H' st q => hq t vs F' H' st q h
    | ex x p => exact fun F' H' cls d st q => ft.ex σ ρ F' H' x p cls d st.g st.s q h
theorem s_own {i : Nat} {x : Str} {pos' : Pos} (he : PE X e (lE C f)) (hN : X.N.Nodup) (hi : X.N[i]? = some x := by rfl) (hx : Loc X.env.scope x := by first | exact Or.inl rfl | exact Or.inr rfl) (hs : swapsWith e (some (.Name x pos')) pos.line X.env = pure false := by rfl)
    (hf : X.fn x = true ∨ X.env.scope.names.lookup x = some .local := by first | exact .inl rfl | exact .inr rfl) : PS X (.Assign [.Name x pos'] e pos) (lS C (wOwn i f)) := by
  refine PS.imp ?_ (ps_set hN hi hx he hs hf)
  rintro D σ H ⟨ρ, F, P, G, h, ft⟩
  exact lS_E G ft h fun sv v F' H' st q k => ft.nx _ _ F' H' (st.g.set i (q.base G.h0) (G.apart q)) st.s k
theorem s_set {i : Nat} {x : Str} {pos' : Pos} (he : PE X e (lE C f)) (hN : X.N.Nodup) (hi : X.N[i]? = some x := by rfl) (hx : Loc X.env.scope x := by first | exact Or.inl rfl | exact Or.inr rfl) (hs : swapsWith e (some (.Name x pos')) pos.line X.env = pure false := by rfl)
    (hf : X.fn x = true ∨ X.env.scope.names.lookup x = some .local := by first | exact .inl rfl | exact .inr rfl) : PS X (.Assign [.Name x pos'] e pos) (lS C (wSet i f)) := by
  refine PS.imp ?_ (ps_set hN hi hx he hs hf)
  rintro D σ H ⟨ρ, F, P, G, h, ft⟩
  refine lS_E G ft h fun sv v F' H' st q k => ?_
  obtain ⟨F2, s2, q2⟩ := st.data G q
  exact ft.nx _ _ F2 H' (s2.g.set i (sv := .d (toD sv)) q2 Apart.d) s2.s k
theorem s_ret (he : PE X e (lE C f)) : PS X (.Return (some e) pos) (lS C (wRet f)) := by
  refine PS.imp ?_ (ps_ret he)
  rintro D σ H ⟨ρ, F, P, G, h, ft⟩
  exact lS_E G ft h fun sv v F' H' st q k => ft.rt σ ρ F' H' v sv st.g st.s (q.base G.h0) k
theorem s_retN : PS X (.Return none pos) (lS C wRetN) := by
  refine PS.imp ?_ ps_retN
  rintro D σ H ⟨ρ, F, P, G, h, ft⟩
  exact ft.rt σ ρ F H .non (.d .non) G (Same.refl F) .non h
theorem s_retV (i : Nat) {x : Str} {p : Pos} (hN : X.N[i]? = some x := by rfl) (hv : Vis X.env.scope x := by first | exact Or.inl rfl | exact Or.inr (Or.inl rfl) | exact Or.inr (Or.inr rfl)) (hd : (x == ("__debug__" : Str)) = false := by decide)
    (hcd : (x == ("__classdict__" : Str)) = false := by decide) : PS X (.Return (some (.Name x p)) pos) (lS C (wRetV i)) := by
  refine PS.imp ?_ (ps_ret (pe_var hN hv hd hcd))
  rintro D σ H ⟨ρ, F, P, G, h, ft⟩
  unfold wRetV at h
  split at h
  · rename_i sv e
    obtain ⟨v, e2, q⟩ := G.at_ i _ e
    exact ⟨v, e2, ft.rt σ ρ F H v sv G (Same.refl F) q h⟩
  · exact h.elim
theorem s_if {c : Expr} {t : CF} {as bs : List Stmt} (hc : L2.PT X c (lT C t)) (ha : PSs X as (lS C w)) (hb : PSs X bs (lS C u)) : PS X (.If c as bs pos) (lS C (wIf t w u)) := by
  refine PS.imp ?_ (ps_if hc ha hb)
  rintro D σ H ⟨ρ, F, P, G, h, ft⟩
  refine lS_B G ft h fun t F' H' st k => ?_
  cases t with
  | true => rw [if_pos rfl] at k ⊢; exact ⟨ρ, F', P, st.g, k, ft.up st.s⟩
  | false => rw [if_neg Bool.false_ne_true] at k ⊢; exact ⟨ρ, F', P, st.g, k, ft.up st.s⟩
theorem s_expr (he : PE X e (lE C f)) (hs : swapsWith e none pos.line X.env = pure false := by rfl) : PS X (.Expr e pos) (lS C (wExpr f)) := by
  refine PS.imp ?_ (ps_expr he hs)
  rintro D σ H ⟨ρ, F, P, G, h, ft⟩
  exact lS_E G ft h fun sv v F' H' st q k => ft.nx σ ρ F' H' st.g st.s k
theorem s_break : PS X (.Break pos) (lS C wBreak) := PS.imp (fun D σ H ⟨ρ, F, P, G, h, ft⟩ => ft.bk σ ρ F H G (Same.refl F) h) ps_break
theorem s_cont : PS X (.Continue pos) (lS C wCont) := PS.imp (fun D σ H ⟨ρ, F, P, G, h, ft⟩ => ft.ct σ ρ F H G (Same.refl F) h) ps_continue
theorem s_pass : PS X (.Pass pos) (lS C wNop) := PS.imp (fun D σ H ⟨ρ, F, P, G, h, ft⟩ => ft.nx σ ρ F H G (Same.refl F) h) ps_pass
theorem ss_frz (i : Nat) (h : PSs X sts (lS C w)) : PSs X sts (lS C (wFrz i w)) := by
  refine PSs.imp ?_ h
  rintro D σ H ⟨ρ, F, P, G, h, ft⟩
  unfold wFrz at h
  split at h
  · rename_i sv e
    obtain ⟨v, e2, q⟩ := G.at_ i _ e
    cases sv with
    | d x =>
      refine ⟨_, F, P, ?_, h, ft⟩
      have : ρ.set i (some (.d (toD (.d x)))) = ρ := by
        apply List.ext_getElem? ; intro j
        by_cases hij : i = j
        · subst hij; rw [List.getElem?_set_self (List.getElem?_eq_some_iff.mp e).1, e]; rfl
        · rw [List.getElem?_set_ne hij]
      rw [this]; exact G
    | own xs =>
      -- forget the slot, freeze, set it anew
      obtain ⟨p, vs, rfl, hp, rl, fp, h0⟩ := q
      have hil : i < ρ.length := (List.getElem?_eq_some_iff.mp e).1
      have G0 : Good C F H σ (ρ.set i none) := by
        refine ⟨G.fh, G.h0, G.f0, G.nw, by simp [G.len], fun j sv z => ?_, fun j k as bs q hjk z1 z2 z3 z4 => ?_⟩
        · by_cases hij : i = j
          · subst hij; rw [List.getElem?_set_self hil] at z; cases z
          · rw [List.getElem?_set_ne hij] at z; exact G.at_ j sv z
        · by_cases hij : i = j
          · subst hij; rw [List.getElem?_set_self hil] at z1; cases z1
          · by_cases hik : i = k
            · subst hik; rw [List.getElem?_set_self hil] at z2; cases z2
            · rw [List.getElem?_set_ne hij] at z1; rw [List.getElem?_set_ne hik] at z2; exact G.ap j k as bs q hjk z1 z2 z3 z4
      obtain ⟨F2, g2, s2, q2⟩ := G0.freeze (xs := xs) (v := .ref p) ⟨p, vs, rfl, hp, rl, fp, h0⟩ (fun xs' _ j ys z1 z2 => by
        by_cases hij : i = j
        · subst hij; rw [List.getElem?_set_self hil] at z1; cases z1
        · rw [List.getElem?_set_ne hij] at z1; exact G.ap i j xs ys p hij e z1 e2 z2)
      have g3 := g2.set i (sv := .d (.lst xs)) q2 Apart.d
      have e3 : σ.set i (some (.ref p)) = σ := by
        apply List.ext_getElem? ; intro j
        by_cases hij : i = j
        · subst hij; rw [List.getElem?_set_self (by rw [← G.len]; exact hil), e2]
        · rw [List.getElem?_set_ne hij]
      rw [e3, List.set_set] at g3
      exact ⟨_, F2, P, g3, h, ft.up s2⟩
  · exact ⟨ρ, F, P, G, h, ft⟩
/-- x.append(e), x an own list -/
theorem s_app (i : Nat) {x : Str} {p apos cpos : Pos} (he : PE X e (lE C f)) (hN : X.N[i]? = some x := by rfl) (hv : Vis X.env.scope x := by first | exact Or.inl rfl | exact Or.inr (Or.inl rfl) | exact Or.inr (Or.inr rfl)) (hd : (x == ("__debug__" : Str)) = false := by decide)
    (hcd : (x == ("__classdict__" : Str)) = false := by decide) (hs : swapsWith (.Call (.Attribute (.Name x p) "append" apos) [e] [] cpos) none pos.line X.env = pure false := by rfl)
    (hbase : attributeBase (.Name x p) "append" X.env (eval (.Name x p) X.env) = eval (.Name x p) X.env := by rfl)
    (hfew : ((backTo cpos (starEach [e] X.env)).all (fun x => !x.1) && (backToKw cpos (keywordEach [] X.env)).all (fun x => x.1.isSome) && decide ([e].length + ([] : List Keyword).length + (if ([] : List Keyword).isEmpty then 0 else 1) < 30)) = true := by rfl)
    (hline : (apos.endLine == cpos.line) = true := by rfl) (hst : starEach [e] X.env = (false, eval e X.env) :: starEach [] X.env := by rfl) :
    PS X (.Expr (.Call (.Attribute (.Name x p) "append" apos) [e] [] cpos) pos) (lS C (wApp i f)) := by
  refine PS.imp ?_ (ps_expr (pe_bm PySem.F.plainAttrs_list PySem.F.slot_list_append PySem.F.type_list_append mt_append (pe_var hN hv hd hcd) (pa_cons he pa_nil hst) hbase hfew hline hst rfl) hs)
  rintro D σ H ⟨ρ, F, P, G, h, ft⟩
  unfold wApp at h
  split at h
  · rename_i xs e
    obtain ⟨v, e2, p, vs, rfl, hp, rl, fp, h0⟩ := G.at_ i _ e
    refine ⟨_, e2, .inl ⟨rfl, _, SqL.of hp⟩, ?_⟩
    refine lS_E G ft h fun sv v F' H' st q k => ?_
    obtain ⟨F2, s2, q2⟩ := st.data G q
    obtain ⟨v', e2', p', vs', ev, hp', rl', fp', h0'⟩ := s2.g.at_ i _ e
    rw [e2] at e2'
    cases e2'
    cases ev
    refine ⟨p, vs', v, rfl, rfl, hp', by rw [← rl'.len, sizeLine_eq]; omega, ?_⟩
    exact ft.nx _ _ F2 _ (s2.g.write e e2 (rl'.append (.cons q2 .nil))) s2.s k.2
  · exact h.elim
/-! ### targets -/
/-- what a target takes: names at the places is, the heap stays -/
def lG (C : FR) (g : GF) (is : List Nat) : TG := fun v σ H Q => ∃ ρ F x ρ', Good C F H σ ρ ∧ Rep C.K F x v ∧ g x ρ = some ρ' ∧ ∀ σ', σ'.length = σ.length → (∀ j, j ∉ is → σ'[j]? = σ[j]?) → Good C F H σ' ρ' → Q σ' H
def lGs (C : FR) (g : GLF) (is : List Nat) : TGs := fun vs σ H Q => ∃ ρ F xs ρ', Good C F H σ ρ ∧ RepL C.K F xs vs ∧ g xs ρ = some ρ' ∧ ∀ σ', σ'.length = σ.length → (∀ j, j ∉ is → σ'[j]? = σ[j]?) → Good C F H σ' ρ' → Q σ' H
theorem PG.imp {t t' : TG} (h : ∀ v σ H Q, t' v σ H Q → t v σ H Q) (p : PG X e t) : PG X e t' := ⟨fun pins s σ H v u Q I r q => p.run pins s σ H v u Q I r (h v σ H Q q)⟩
theorem PGs.imp {t t' : TGs} (h : ∀ v σ H Q, t' v σ H Q → t v σ H Q) (p : PGs X es t) : PGs X es t' := ⟨fun pins s σ H v u Q I r q => p.run pins s σ H v u Q I r (h v σ H Q q)⟩
theorem g_name {i : Nat} {x : Str} (hN : X.N.Nodup) (hi : X.N[i]? = some x := by rfl) (hx : Loc X.env.scope x := by first | exact Or.inl rfl | exact Or.inr rfl) (hf : X.fn x = true ∨ X.env.scope.names.lookup x = some .local := by first | exact .inl rfl | exact .inr rfl) : PG X (.Name x pos) (lG C (gN i) [i]) := by
  refine PG.imp ?_ (pg_name hN hi hx hf)
  rintro v σ H Q ⟨ρ, F, y, ρ', G, r, e, q⟩
  cases e
  refine q _ (by simp) (fun j hj => ?_) (G.set i (sv := .d y) r Apart.d)
  rw [List.getElem?_set_ne (fun z => hj (by simp [z]))]
theorem g_nil : PGs X [] (lGs C gNil []) := by
  refine PGs.imp ?_ pgs_nil
  rintro vs σ H Q ⟨ρ, F, xs, ρ', G, r, e, q⟩
  cases r with
  | nil => cases e; exact ⟨rfl, q σ rfl (fun _ _ => rfl) G⟩
  | cons _ _ => cases e
theorem g_cons {g : GF} {gs : GLF} {is js : List Nat} (h1 : PG X e (lG C g is)) (h2 : PGs X es (lGs C gs js)) (hs : (assignEach (e :: es) X.env).map (·.2) = assign e X.env :: (assignEach es X.env).map (·.2) := by rfl) : PGs X (e :: es) (lGs C (gCons g gs) (is ++ js)) := by
  refine PGs.imp ?_ (pgs_cons h1 h2 hs)
  rintro vs σ H Q ⟨ρ, F, xs, ρ', G, r, e, q⟩
  cases r with
  | nil => cases e
  | cons a b =>
    rename_i d v ds vs
    unfold gCons at e
    dsimp only at e
    cases e1 : g d ρ with
    | none => rw [e1] at e; cases e
    | some ρ1 =>
      rw [e1] at e
      refine ⟨v, vs, rfl, ρ, F, d, ρ1, G, a, e1, fun σ1 l1 k1 G1 => ⟨ρ1, F, ds, ρ', G1, b, e, fun σ2 l2 k2 G2 => ?_⟩⟩
      refine q σ2 (l2.trans l1) (fun j hj => ?_) G2
      rw [List.mem_append, not_or] at hj
      rw [k2 j hj.2, k1 j hj.1]
theorem g_tup {k n : Nat} {gs : GLF} {is : List Nat} (ft : Fit X C) (h : PGs X es (lGs C gs is)) (hl : ∀ ds ρ ρ', gs ds ρ = some ρ' → ds.length = n) (hn : (assignEach es X.env).length = n := by rfl) (hst : (assignEach es X.env).findIdx? (·.1) = none := by rfl) (hh : C.hot = false := by rfl) : PG X (.Tuple es k pos) (lG C (gTup gs) is) := by
  refine PG.imp ?_ (pg_tup (ft.calm hh) h hn hst)
  rintro v σ H Q ⟨ρ, F, x, ρ', G, r, e, q⟩
  unfold gTup at e
  split at e
  · cases r with | tup s rl =>
      exact ⟨_, _, rfl, by rw [ft.K]; exact seqT_mono G.fh s, by rw [← rl.len]; exact hl _ _ _ e, ρ, F, _, ρ', G, rl, e, q⟩
  · cases e
theorem g_lst {k n : Nat} {gs : GLF} {is : List Nat} (ft : Fit X C) (h : PGs X es (lGs C gs is)) (hl : ∀ ds ρ ρ', gs ds ρ = some ρ' → ds.length = n) (hn : (assignEach es X.env).length = n := by rfl) (hst : (assignEach es X.env).findIdx? (·.1) = none := by rfl) (hh : C.hot = false := by rfl) : PG X (.Tuple es k pos) (lG C (gLs gs) is) := by
  refine PG.imp ?_ (pg_lst (ft.calm hh) h hn hst)
  rintro v σ H Q ⟨ρ, F, x, ρ', G, r, e, q⟩
  unfold gLs at e
  split at e
  · cases r with | lst s rl =>
      exact ⟨_, _, rfl, SqL.of (G.fh _ _ s), by rw [← rl.len]; exact hl _ _ _ e, ρ, F, _, ρ', G, rl, e, q⟩
  · cases r with | scr s rl =>
      exact ⟨_, _, rfl, by rw [ft.K]; exact G.fh.seq s, by rw [← rl.len]; exact hl _ _ _ e, ρ, F, _, ρ', G, rl, e, q⟩
  · cases e
theorem gl_nil (ds : List D) (ρ ρ' : En) (h : gNil ds ρ = some ρ') : ds.length = 0 := by
  cases ds with
  | nil => rfl
  | cons _ _ => cases h
theorem gl_cons {g : GF} {gs : GLF} {n : Nat} (h : ∀ ds ρ ρ', gs ds ρ = some ρ' → ds.length = n) (ds : List D) (ρ ρ' : En) (e : gCons g gs ds ρ = some ρ') : ds.length = n + 1 := by
  cases ds with
  | nil => cases e
  | cons d ds =>
    unfold gCons at e
    dsimp only at e
    split at e
    · simp [h _ _ _ e]
    · cases e
theorem s_asg {tg : Expr} {g : GF} {is : List Nat} (he : PE X e (lE C f)) (hg : PG X tg (lG C g is)) (hs : swapsWithSole [tg] e pos.line X.env = pure false := by rfl) (hw : swappedStores [tg] e X.env = pure none := by rfl)
    (h1 : (assignEach [tg] X.env).map (·.2) = [assign tg X.env] := by rfl) : PS X (.Assign [tg] e pos) (lS C (wAsg f g)) := by
  refine PS.imp ?_ (ps_asg he hg hs hw h1)
  rintro D σ H ⟨ρ, F, P, G, h, ft⟩
  refine lS_E G ft h fun sv v F' H' st q k => ?_
  obtain ⟨F2, s2, q2⟩ := st.data G q
  cases e1 : g (toD sv) ρ with
  | none => rw [e1] at k; exact k.elim
  | some ρ' =>
    rw [e1] at k
    exact ⟨ρ, F2, toD sv, ρ', s2.g, q2, e1, fun σ' _ _ G' => ft.nx σ' ρ' F2 H' G' s2.s k⟩
theorem s_par {i j : Nat} {x y : Str} {px py pt : Pos} {kt k2 : Nat} {pt2 : Pos} (fit : Fit X C) (hN : X.N.Nodup) (hij : i ≠ j) (ha : PA X [a, b] (lA C ff)) (hi : X.N[i]? = some x := by rfl) (hj : X.N[j]? = some y := by rfl)
    (hx : X.env.scope.names.lookup x = some .local := by rfl) (hy : X.env.scope.names.lookup y = some .local := by rfl)
    (hw : swappedStores [.Tuple [.Name x px, .Name y py] kt pt] (.Tuple [a, b] k2 pt2) X.env = pure (some [x, y]) := by rfl)
    (hs : swapsWithSole [.Tuple [.Name x px, .Name y py] kt pt] (.Tuple [a, b] k2 pt2) pos.line X.env = pure false := by rfl) (hh : C.hot = false := by rfl) :
    PS X (.Assign [.Tuple [.Name x px, .Name y py] kt pt] (.Tuple [a, b] k2 pt2) pos) (lS C (wPar i j ff)) := by
  refine PS.imp ?_ (ps_par (fit.calm hh) hN hi hj hij hx hy ha hw hs)
  rintro D σ H ⟨ρ, F, P, G, h, ft⟩
  refine lS_A G ft h fun ds vs F' H' st q k => ?_
  split at k
  · cases q with | cons q1 q => cases q with | cons q2 q =>
      cases q
      exact ⟨_, _, rfl, ft.nx _ _ F' H' ((st.g.set i (sv := .d _) q1 Apart.d).set j (sv := .d _) q2 Apart.d) st.s k⟩
  · exact k.elim

/-! ### loops -/
theorem s_while {c : Expr} {t : CF} {body : List Stmt} (fit : Fit X C) (hc : L2.PT X c (lT C t)) (hb : PSs X body (lS C w)) : PS X (.While c body [] pos) (lS C (wWhile t w)) := by
  refine PS.imp ?_ (ps_while fit.po hc hb)
  rintro D σ H ⟨ρ, F, P, G, ⟨n, h⟩, ft⟩
  refine ⟨fun m σ' H' => ∃ ρ' F', Good C F' H' σ' ρ' ∧ Same F F' ∧ wWhileN t w P m ρ', ⟨n, ρ, F, G, Same.refl F, h⟩, ?_⟩
  rintro m σ' H' ⟨ρ', F', G', s0, h'⟩
  cases m with
  | zero => exact h'.elim
  | succ m =>
    refine lS_B G' (ft.up s0) h' fun b F2 H2 st k => ?_
    cases b with
    | false => rw [if_neg Bool.false_ne_true] at k ⊢; exact ft.nx _ _ F2 H2 st.g (s0.trans st.s) k
    | true =>
      rw [if_pos rfl] at k ⊢
      refine ⟨fun σ3 H3 => ∃ ρ3 F3, Good C F3 H3 σ3 ρ3 ∧ Same F F3 ∧ wWhileN t w P m ρ3, fun σ3 H3 q => ⟨m, Nat.lt_succ_self m, q⟩, ρ', F2, _, st.g, k, ?_⟩
      have f2 := ft.up (s0.trans st.s)
      exact ⟨fun σ4 ρ4 F4 H4 G4 z q => ⟨ρ4, F4, G4, (s0.trans st.s).trans z, q⟩, f2.rt, f2.nx, fun σ4 ρ4 F4 H4 G4 z q => ⟨ρ4, F4, G4, (s0.trans st.s).trans z, q⟩, f2.ex⟩

/-- what a walked thing yields -/
def Yields (K : PySem.W.Frag) (J : It) (F0 : Hp) (ds : List D) : Prop := ∀ (i : Nat) (F H : Hp), Same F0 F → Same F H →
  (∀ d, ds[i]? = some d → J.go i H ∧ ∀ x H', J.yld i H x H' → ∃ F', Same F F' ∧ Same F' H' ∧ Same H H' ∧ (∀ b o, F' b = some o → F b = some o ∨ H b = none) ∧ Rep K F' d x) ∧ (ds.length ≤ i → J.stop i H)
def PostI (C : FR) (σ : St) (ρ : En) (F H : Hp) (r : Option RL) (Q : It → Hp → Prop) : Prop :=
  match r with
  | none => False
  | some (.ok ds) => ∀ J F' H', Step C σ ρ F H F' H' → Yields C.K J F' ds → Q J H'
  | some (.ex x p) => ∀ F' H' cls d, Step C σ ρ F H F' H' → XR C.mg H' x p cls d → C.W cls d σ H'
def lI (C : FR) (it : AF) : TI := fun σ H R => ∃ ρ F, Good C F H σ ρ ∧ PostI C σ ρ F H (it ρ) R
theorem PI.imp {tg : Expr} {t t' : TI} (h : ∀ σ H Q, t' σ H Q → t σ H Q) (p : PI X tg e t) : PI X tg e t' := ⟨fun pins s σ H R I q => p.run pins s σ H R I (h σ H R q)⟩

theorem s_for {tg iter : Expr} {it : AF} {g : GF} {is : List Nat} {body : List Stmt} (fit : Fit X C) (hi : PI X tg iter (lI C it)) (hg : PG X tg (lG C g is)) (hb : PSs X body (lS C w)) (hs : ∀ x, foldedSetIterable iter X.env x = pure x := by intro _; rfl) (hh : C.hot = false := by rfl) :
    PS X (.For tg iter body [] pos) (lS C (wFor it g w)) := by
  refine PS.imp ?_ (ps_for fit.po (fit.calm hh) hi hg hb hs)
  rintro D σ H ⟨ρ, F, P, G, h, ft⟩
  refine ⟨ρ, F, G, ?_⟩
  unfold wFor at h
  cases e : it ρ with
  | none => rw [e] at h; exact h
  | some r =>
    rw [e] at h
    cases r with
    | ex x p => exact fun F' H' cls d st q => ft.ex σ ρ F' H' x p cls d st.g st.s q h
    | ok ds =>
      intro J F' H' st Y
      have G1 := st.g
      have s := st.s
      refine ⟨fun i m σ2 H2 => ∃ ρ2 F2, Same F' F2 ∧ Good C F2 H2 σ2 ρ2 ∧ m + i = ds.length ∧ wForL g w P (ds.drop i) ρ2, ⟨ds.length, ρ, F', Same.refl F', G1, by omega, h⟩, ?_⟩
      rintro i m σ2 H2 ⟨ρ2, F2, s2, G2, em, h2⟩
      obtain ⟨y1, y2⟩ := Y i F2 H2 s2 G2.fh
      by_cases hi : i < ds.length
      · right
        obtain ⟨go, yl⟩ := y1 ds[i] (List.getElem?_eq_getElem hi)
        rw [List.drop_eq_getElem_cons hi] at h2
        unfold wForL at h2
        refine ⟨go, fun σ3 H3 => ∃ ρ3 F3, Same F' F3 ∧ Good C F3 H3 σ3 ρ3 ∧ wForL g w P (ds.drop (i + 1)) ρ3, fun σ3 H3 ⟨ρ3, F3, s3, G3, h3⟩ => ⟨m - 1, by omega, ρ3, F3, s3, G3, by omega, h3⟩, fun x H3 hy => ?_⟩
        obtain ⟨F3, a1, a2, a3, a4, a5⟩ := yl x H3 hy
        have G3 : Good C F3 H3 σ2 ρ2 := G2.after a1 a2 a3 a4
        cases e1 : g ds[i] ρ2 with
        | none => rw [e1] at h2; exact h2.elim
        | some ρ3 =>
          rw [e1] at h2
          refine ⟨ρ2, F3, _, ρ3, G3, a5, e1, fun σ4 _ _ G4 => ?_⟩
          have s3 := s2.trans a1
          have f3 := ft.up (s.trans s3)
          exact ⟨ρ3, F3, _, G4, h2, fun σ5 ρ5 F5 H5 G5 z q => ⟨ρ5, F5, s3.trans z, G5, q⟩, f3.rt, f3.nx, fun σ5 ρ5 F5 H5 G5 z q => ⟨ρ5, F5, s3.trans z, G5, q⟩, f3.ex⟩
      · left
        have : ds.drop i = [] := List.drop_eq_nil_of_le (by omega)
        rw [this] at h2
        exact ⟨y2 (by omega), ft.nx _ _ F2 H2 G2 (s.trans s2) h2⟩
end
end PT
/-! PT: what is walked, comprehensions, defs. -/
namespace PT
open PySem PySem.Spec PyProof.Rows L2
/-! ### what is walked -/
def itemsOf : D → Option RL
  | .tup ds => some (.ok ds)
  | .lst ds => some (.ok ds)
  | .scr ds => some (.ok ds)
  | _ => none
def itD (f : EF) : AF := fun ρ => bindRL (f ρ) itemsOf
def bindLL (r : Option RL) (k : List D → Option RL) : Option RL :=
  match r with
  | some (.ok ds) => k ds
  | some (.ex x p) => some (.ex x p)
  | none => none
def itA (g : List D → Option RL) (fa : AF) : AF := fun ρ => bindLL (fa ρ) g
def rangeD (lo : Int) (n : Nat) : List D := (List.range n).map fun (k : Nat) => D.int (lo + (k : Int))
def rangeC (lo c : Int) (n : Nat) : List D := (List.range n).map fun (k : Nat) => D.int (lo + (k : Int) * c)
def r62 (i : Int) : Bool := Nat.ble (i.natAbs + 1) 4611686018427387904
theorem r62_iff {i : Int} : r62 i = true ↔ -4611686018427387904 < i ∧ i < 4611686018427387904 := by
  unfold r62
  rw [Nat.ble_eq]
  omega
def range1L : List D → Option RL
  | [.int j] => if r62 j then some (.ok (rangeD 0 j.toNat)) else none
  | _ => none
def range2L : List D → Option RL
  | [.int i, .int j] => if r62 i && r62 j then some (.ok (rangeD i (j - i).toNat)) else none
  | _ => none
def rng3 (i j c : Int) : Bool := decide (c ≠ 0) && decide (c.natAbs < 1073741824) && Builtin.Range.small i j c
def range3L : List D → Option RL
  | [.int i, .int j, .int c] => if rng3 i j c then some (.ok (rangeC i c (Builtin.Range.rangeSize i j c).toNat)) else none
  | _ => none
def revL : List D → Option RL
  | [.lst ds] => some (.ok ds.reverse)
  | [.scr ds] => some (.ok ds.reverse)
  | _ => none
def zipD : List D → List D → List D
  | a :: as, b :: bs => .tup [a, b] :: zipD as bs
  | _, _ => []
def zipL : List D → Option RL
  | [.lst as, .lst bs] => some (.ok (zipD as bs))
  | [.tup as, .tup bs] => some (.ok (zipD as bs))
  | _ => none
section
variable {X : Cx} {C : FR} {e a b tg : Expr} {es : List Expr} {f fa fb : EF} {ff : AF} {pos : Pos}

theorem yields_seq {K : PySem.W.Frag} {F0 : Hp} {J : It} {ds : List D} {vs : List V} (r : RepL K F0 ds vs)
    (h : ∀ i H, Same F0 H → (∀ v, vs[i]? = some v → J.go i H ∧ ∀ x H', J.yld i H x H' → H' = H ∧ x = v) ∧ (vs.length ≤ i → J.stop i H)) : Yields K J F0 ds := by
  intro i F H s t
  obtain ⟨h1, h2⟩ := h i H (s.trans t)
  refine ⟨fun d e => ?_, fun hi => h2 (by rw [← r.len]; exact hi)⟩
  obtain ⟨v, e1, q⟩ := r.get e
  obtain ⟨go, yl⟩ := h1 v e1
  refine ⟨go, fun x H' y => ?_⟩
  obtain ⟨rfl, rfl⟩ := yl x H' y
  exact ⟨F, Same.refl F, t, Same.refl H', fun b o z => .inl z, Rep.mono s _ _ q⟩
theorem yields_list {K : PySem.W.Frag} {F0 : Hp} {a : Addr} {ds : List D} {vs : List V} (q : SqL K F0 a vs) (r : RepL K F0 ds vs) : Yields K (Itl K a) F0 ds :=
  yields_seq r fun i H s => ⟨fun v e => ⟨⟨vs, v, s.seq q, e⟩, fun x H' ⟨e1, y⟩ => ⟨e1, by
    have := y vs (s.seq q)
    rw [e] at this
    exact (Option.some.inj this).symm⟩⟩, fun hi => ⟨vs, s.seq q, hi⟩⟩
theorem yields_tup {K : PySem.W.Frag} {F0 : Hp} {a : Addr} {ds : List D} {vs : List V} (q : SqT K F0 a vs) (r : RepL K F0 ds vs) : Yields K (Itt K a) F0 ds :=
  yields_seq r fun i H s => ⟨fun v e => ⟨⟨vs, v, seqT_mono s q, e⟩, fun x H' ⟨e1, y⟩ => ⟨e1, by
    have := y vs (seqT_mono s q)
    rw [e] at this
    exact (Option.some.inj this).symm⟩⟩, fun hi => ⟨vs, seqT_mono s q, hi⟩⟩
theorem repL_map {K : PySem.W.Frag} {F : Hp} (g : Nat → Int) : ∀ l : List Nat, RepL K F (l.map fun k => D.int (g k)) (l.map fun k => V.int (g k))
  | [] => .nil
  | k :: l => .cons (.int _) (repL_map g l)
theorem range_get {α : Type} {g : Nat → α} {n i : Nat} {v : α} (e : ((List.range n).map g)[i]? = some v) : i < n ∧ v = g i := by
  rw [List.getElem?_map] at e
  by_cases hi : i < n
  · rw [List.getElem?_range hi] at e
    exact ⟨hi, (Option.some.inj e).symm⟩
  · rw [List.getElem?_eq_none (by simpa using hi)] at e
    cases e
theorem yields_range {K : PySem.W.Frag} {F0 : Hp} {lo : Int} {n : Nat} : Yields K (Itr lo n) F0 (rangeD lo n) :=
  yields_seq (repL_map (fun k => lo + (k : Int)) _) fun i H s => ⟨fun v e => by
    obtain ⟨hi, rfl⟩ := range_get e
    exact ⟨hi, fun x H' y => y⟩, fun hi => by
    rw [List.length_map, List.length_range] at hi
    exact hi⟩
theorem yields_rangeC {K : PySem.W.Frag} {F0 : Hp} {lo c : Int} {n : Nat} : Yields K (Itc lo c n) F0 (rangeC lo c n) :=
  yields_seq (repL_map (fun k => lo + (k : Int) * c) _) fun i H s => ⟨fun v e => by
    obtain ⟨hi, rfl⟩ := range_get e
    exact ⟨hi, fun x H' y => y⟩, fun hi => by
    rw [List.length_map, List.length_range] at hi
    exact hi⟩
/-- from an argument list's reading to a walk -/
theorem lI_A {g : List D → Option RL} {σ : St} {H : Hp} {R : It → Hp → Prop} {T : List V → Hp → Prop}
    (k : ∀ (ρ : En) (F H : Hp) (us : List D) (vs : List V), Good C F H σ ρ → RepL C.K F us vs → PostI C σ ρ F H (g us) R → T vs H) (h : lI C (itA g ff) σ H R) : lA C ff σ H T := by
  obtain ⟨ρ, F, G, h⟩ := h
  refine ⟨ρ, F, G, ?_⟩
  unfold itA at h
  cases e : ff ρ with
  | none => rw [e] at h; exact h
  | some r =>
    rw [e] at h
    cases r with
    | ex x p => exact h
    | ok us =>
      intro vs F' H' st q
      refine k ρ F' H' us vs st.g q ?_
      have h' : PostI C σ ρ F H (g us) R := h
      cases e2 : g us with
      | none => rw [e2] at h'; exact h'
      | some z =>
        rw [e2] at h'
        cases z with
        | ok ds => exact fun J F2 H2 st2 Y => h' J F2 H2 (st.trans st2) Y
        | ex x p => exact fun F2 H2 cls d st2 q => h' F2 H2 cls d (st.trans st2) q
theorem PostI.ok {σ : St} {ρ : En} {F H : Hp} {ds : List D} {Q : It → Hp → Prop} {J : It} (h : PostI C σ ρ F H (some (.ok ds)) Q) (G : Good C F H σ ρ) (Y : Yields C.K J F ds) : Q J H := h J F H (Step.refl G) Y
theorem i_val (ft : Fit X C) (ha : PE X e (lE C f)) : PI X tg e (lI C (itD f)) := by
  refine ⟨fun pins s σ H R I h => ?_⟩
  obtain ⟨ρ, F, G, h⟩ := h
  unfold itD at h
  -- which kind it is: known by the value
  have go : ∀ {T : V → Hp → Prop}, (∀ sv v F' H', f ρ = some (.ok sv) → Step C σ ρ F H F' H' → Rep C.K F' (toD sv) v → T v H') → lE C f σ H T := fun {T} k => by
    refine ⟨ρ, F, G, ?_⟩
    cases e : f ρ with
    | none => rw [e] at h; exact h
    | some r =>
      cases r with
      | ex x p => rw [e] at h; exact h
      | ok sv =>
        intro v F' H' st q1
        obtain ⟨F2, s2, q2⟩ := st.data G q1
        exact k sv v F2 H' e s2 q2
  have up : ∀ {ds : List D} {F' H' : Hp}, PostI C σ ρ F H (some (.ok ds)) R → Step C σ ρ F H F' H' → PostI C σ ρ F' H' (some (.ok ds)) R := fun {ds F' H'} z s1 J F2 H2 s2 Y => z J F2 H2 (s1.trans s2) Y
  cases e : f ρ with
  | none => rw [e] at h; exact h.elim
  | some r =>
    cases r with
    | ex x p =>
      rw [e] at h
      exact (pi_list ha).run pins s σ H R I ⟨ρ, F, G, by rw [e]; exact h⟩
    | ok sv =>
      rw [e] at h
      have h : PostI C σ ρ F H (itemsOf (toD sv)) R := h
      cases e2 : toD sv with
      | tup ds =>
        rw [e2] at h
        refine (pi_tup ha).run pins s σ H R I (go fun sv' v F' H' z s1 q => ?_)
        rw [e] at z; cases z
        rw [e2] at q
        cases q with | tup q r => exact ⟨_, rfl, ⟨_, by rw [ft.K]; exact seqT_mono s1.g.fh q⟩, by rw [ft.K]; exact PostI.ok (up h s1) s1.g (yields_tup q r)⟩
      | lst ds =>
        rw [e2] at h
        refine (pi_list ha).run pins s σ H R I (go fun sv' v F' H' z s1 q => ?_)
        rw [e] at z; cases z
        rw [e2] at q
        cases q with | lst q r => exact ⟨_, rfl, ⟨_, SqL.of (s1.g.fh _ _ q)⟩, by rw [ft.K]; exact PostI.ok (up h s1) s1.g (yields_list (SqL.of q) r)⟩
      | scr ds =>
        rw [e2] at h
        refine (pi_list ha).run pins s σ H R I (go fun sv' v F' H' z s1 q => ?_)
        rw [e] at z; cases z
        rw [e2] at q
        cases q with | scr q r => exact ⟨_, rfl, ⟨_, by rw [ft.K]; exact s1.g.fh.seq q⟩, by rw [ft.K]; exact PostI.ok (up h s1) s1.g (yields_list q r)⟩
      | _ => rw [e2] at h; exact h.elim
theorem i_range1 {p : Pos} (ft : Fit X C) (hm : C.mg "range" = none) (ha : PA X [a] (lA C ff)) (hg : Gl X "range" := by rfl) (hs : starEach [a] X.env = [(false, eval a X.env)] := by rfl) : PI X tg (.Call (.Name "range" p) [a] [] pos) (lI C (itA range1L ff)) := by
  refine PI.imp ?_ (pi_range1 hg (by rw [ft.mg]; exact hm) ha hs)
  intro σ H R h
  refine lI_A (fun ρ F H us vs G r h => ?_) h
  unfold range1L at h
  split at h
  · split at h
    · rename_i hc
      have hc := r62_iff.mp hc
      cases r with | cons p q => cases q; cases p
                                 exact ⟨_, rfl, by omega, by omega, PostI.ok h G yields_range⟩
    · exact h.elim
  · exact h.elim
theorem i_range2 {p : Pos} (ft : Fit X C) (hm : C.mg "range" = none) (ha : PA X [a, b] (lA C ff)) (hg : Gl X "range" := by rfl) (hs : starEach [a, b] X.env = [(false, eval a X.env), (false, eval b X.env)] := by rfl) (hs2 : starEach [b] X.env = [(false, eval b X.env)] := by rfl) : PI X tg (.Call (.Name "range" p) [a, b] [] pos) (lI C (itA range2L ff)) := by
  refine PI.imp ?_ (pi_range2 hg (by rw [ft.mg]; exact hm) ha hs hs2)
  intro σ H R h
  refine lI_A (fun ρ F H us vs G r h => ?_) h
  unfold range2L at h
  split at h
  · split at h
    · rename_i hc
      have hc1 := r62_iff.mp ((Bool.and_eq_true _ _).mp hc).1
      have hc2 := r62_iff.mp ((Bool.and_eq_true _ _).mp hc).2
      cases r with | cons p q => cases q with | cons p2 q => cases q; cases p; cases p2
                                                             exact ⟨_, _, rfl, ⟨by omega, by omega, by omega, by omega⟩, PostI.ok h G yields_range⟩
    · exact h.elim
  · exact h.elim
theorem rangeSize_nn (i j c : Int) (hc : c ≠ 0) : 0 ≤ Builtin.Range.rangeSize i j c := by
  unfold Builtin.Range.rangeSize
  split
  · split
    · have := Int.ediv_nonneg (a := j - i - 1) (b := c) (by omega) (by omega); omega
    · omega
  · split
    · have := Int.ediv_nonneg (a := i - j - 1) (b := -c) (by omega) (by omega); omega
    · omega
theorem i_range3 {c : Expr} {p : Pos} (ft : Fit X C) (hm : C.mg "range" = none) (ha : PA X [a, b, c] (lA C ff)) (hg : Gl X "range" := by rfl) (hs : starEach [a, b, c] X.env = (false, eval a X.env) :: starEach [b, c] X.env := by rfl) (hs1 : (backTo pos (starEach [b, c] X.env)).any (·.1) = false := by rfl) : PI X tg (.Call (.Name "range" p) [a, b, c] [] pos) (lI C (itA range3L ff)) := by
  refine PI.imp ?_ (pi_range3 hg (by rw [ft.mg]; exact hm) ha hs hs1)
  intro σ H R h
  refine lI_A (fun ρ F H us vs G r h => ?_) h
  unfold range3L at h
  split at h
  · split at h
    · rename_i i j k hc
      unfold rng3 at hc
      rw [Bool.and_eq_true, Bool.and_eq_true] at hc
      have h0 : k ≠ 0 := of_decide_eq_true hc.1.1
      cases r with | cons p q => cases q with | cons p2 q => cases q with | cons p3 q => cases q; cases p; cases p2; cases p3
                                                                                         exact ⟨_, _, _, _, rfl, ⟨h0, of_decide_eq_true hc.1.2, hc.2, (Int.toNat_of_nonneg (rangeSize_nn i j k h0)).symm⟩, PostI.ok h G yields_rangeC⟩
    · exact h.elim
  · exact h.elim
theorem yields_rev {K : PySem.W.Frag} {F0 : Hp} {a : Addr} {ds : List D} {vs : List V} (q : SqL K F0 a vs) (r : RepL K F0 ds vs) : Yields K (Itv K a vs.length) F0 ds.reverse := by
  refine yields_seq r.reverse fun i H s => ⟨fun v e => ?_, fun hi => by rw [List.length_reverse] at hi; exact hi⟩
  have hi : i < vs.length := by
    have := (List.getElem?_eq_some_iff.mp e).1
    rw [List.length_reverse] at this
    exact this
  rw [List.getElem?_reverse hi] at e
  refine ⟨⟨hi, vs, v, s.seq q, e⟩, fun x H' ⟨e1, y⟩ => ⟨e1, ?_⟩⟩
  have := y vs (s.seq q)
  rw [e] at this
  exact (Option.some.inj this).symm
theorem i_rev {p : Pos} (ft : Fit X C) (hm : C.mg "reversed" = none) (ha : PA X [a] (lA C ff)) (hg : Gl X "reversed" := by rfl) (hs : starEach [a] X.env = [(false, eval a X.env)] := by rfl) : PI X tg (.Call (.Name "reversed" p) [a] [] pos) (lI C (itA revL ff)) := by
  refine PI.imp ?_ (pi_reversed hg (by rw [ft.mg]; exact hm) ha hs)
  intro σ H R h
  refine lI_A (fun ρ F H us vs G r h => ?_) h
  unfold revL at h
  split at h
  · cases r with | cons p q => cases q; cases p with | lst q r =>
      exact ⟨_, _, rfl, SqL.of (G.fh _ _ q), by rw [ft.K]; exact PostI.ok h G (yields_rev (SqL.of q) r)⟩
  · cases r with | cons p q => cases q; cases p with | scr q r =>
      exact ⟨_, _, rfl, by rw [ft.K]; exact G.fh.seq q, by rw [ft.K]; exact PostI.ok h G (yields_rev q r)⟩
  · exact h.elim
theorem zipD_get : ∀ {as bs : List D} {i : Nat} {d : D}, (zipD as bs)[i]? = some d → ∃ x y, as[i]? = some x ∧ bs[i]? = some y ∧ d = .tup [x, y]
  | [], _, i, d, h => by simp [zipD] at h
  | _ :: _, [], i, d, h => by simp [zipD] at h
  | a :: as, b :: bs, 0, d, h => by
    have h : some (D.tup [a, b]) = some d := h
    exact ⟨a, b, rfl, rfl, (Option.some.inj h).symm⟩
  | a :: as, b :: bs, i + 1, d, h => by
    obtain ⟨x, y, e1, e2, e3⟩ := zipD_get (as := as) (bs := bs) (i := i) (d := d) (by simpa [zipD] using h)
    exact ⟨x, y, by simpa using e1, by simpa using e2, e3⟩
theorem zipD_len : ∀ as bs : List D, (zipD as bs).length = min as.length bs.length
  | [], _ => by simp [zipD]
  | _ :: _, [] => by simp [zipD]
  | a :: as, b :: bs => by simp only [zipD, List.length_cons, zipD_len as bs]; omega
theorem yields_zip {K : PySem.W.Frag} {F0 : Hp} {as bs : List D} {xs ys : List V} {J : It} (r1 : RepL K F0 as xs) (r2 : RepL K F0 bs ys)
    (h : ∀ i H, Same F0 H → (∀ x y, xs[i]? = some x → ys[i]? = some y → J.go i H ∧ ∀ v H', J.yld i H v H' → ∃ T, v = .ref T ∧ H T = none ∧ H' = upd H T (.tup [x, y])) ∧ (xs.length ≤ i ∨ ys.length ≤ i → J.stop i H)) : Yields K J F0 (zipD as bs) := by
  intro i F H s t
  obtain ⟨h1, h2⟩ := h i H (s.trans t)
  refine ⟨fun d e => ?_, fun hi => h2 (by rw [zipD_len] at hi; rw [← r1.len, ← r2.len]; omega)⟩
  obtain ⟨x, y, e1, e2, rfl⟩ := zipD_get e
  obtain ⟨v, e3, q1⟩ := r1.get e1
  obtain ⟨w, e4, q2⟩ := r2.get e2
  obtain ⟨go, yl⟩ := h1 v w e3 e4
  refine ⟨go, fun z H' hz => ?_⟩
  obtain ⟨T, rfl, hT, rfl⟩ := yl z H' hz
  have fT : F T = none := t.free hT
  have sm : Same F (upd F T (.tup [v, w])) := same_upd fT
  refine ⟨upd F T (.tup [v, w]), sm, fun b o z => ?_, same_upd hT, fun b o z => ?_, .tup (SqT.of upd_same) (.cons (Rep.mono (s.trans sm) _ _ q1) (.cons (Rep.mono (s.trans sm) _ _ q2) .nil))⟩
  · by_cases hb : b = T
    · subst hb; rw [upd_same] at z ⊢; exact z
    · rw [upd_ne hb] at z ⊢; exact t b o z
  · by_cases hb : b = T
    · subst hb; exact .inr hT
    · rw [upd_ne hb] at z; exact .inl z
theorem i_zip {p tpos : Pos} {elts : List Expr} {kk : Nat} (ft : Fit X C) (hm : C.mg "zip" = none) (ha : PA X [a, b] (lA C ff)) (hg : Gl X "zip" := by rfl) (hs : starEach [a, b] X.env = (false, eval a X.env) :: starEach [b] X.env := by rfl) (hpl : (backTo pos (starEach [b] X.env)).any (·.1) = false := by rfl) :
    PI X (.Tuple elts kk tpos) (.Call (.Name "zip" p) [a, b] [] pos) (lI C (itA zipL ff)) := by
  refine PI.imp ?_ (RZ.pi_zipA hg (by rw [ft.mg]; exact hm) ha hs hpl)
  intro σ H R h
  refine lI_A (fun ρ F H us vs G r h => ?_) h
  unfold zipL at h
  split at h
  · cases r with | cons p q => cases q with | cons p2 q =>
      cases q
      cases p with | lst q1 r1 => cases p2 with | lst q2 r2 =>
        refine ⟨_, _, _, _, rfl, .inl ⟨SqL.of (G.fh _ _ q1), SqL.of (G.fh _ _ q2), ?_⟩⟩
        rw [ft.K]
        refine PostI.ok h G (yields_zip r1 r2 fun i H s => ⟨fun x y e1 e2 => ⟨⟨_, _, x, y, SqL.of (s _ _ q1), SqL.of (s _ _ q2), e1, e2⟩, fun v H' ⟨T, x', y', ev, hT, eH, k1, k2⟩ => ⟨T, ev, hT, ?_⟩⟩, fun hi => ⟨_, _, SqL.of (s _ _ q1), SqL.of (s _ _ q2), hi⟩⟩)
        have z1 := k1 _ (SqL.of (s _ _ q1))
        have z2 := k2 _ (SqL.of (s _ _ q2))
        rw [e1] at z1; rw [e2] at z2
        cases z1; cases z2
        exact eH
  · cases r with | cons p q => cases q with | cons p2 q =>
      cases q
      cases p with | tup q1 r1 => cases p2 with | tup q2 r2 =>
        refine ⟨_, _, _, _, rfl, .inr ⟨by rw [ft.K]; exact seqT_mono G.fh q1, by rw [ft.K]; exact seqT_mono G.fh q2, ?_⟩⟩
        rw [ft.K]
        refine PostI.ok h G (yields_zip r1 r2 fun i H s => ⟨fun x y e1 e2 => ⟨⟨_, _, x, y, seqT_mono s q1, seqT_mono s q2, e1, e2⟩, fun v H' ⟨T, x', y', ev, hT, eH, k1, k2⟩ => ⟨T, ev, hT, ?_⟩⟩, fun hi => ⟨_, _, seqT_mono s q1, seqT_mono s q2, hi⟩⟩)
        have z1 := k1 _ (seqT_mono s q1)
        have z2 := k2 _ (seqT_mono s q2)
        rw [e1] at z1; rw [e2] at z2
        cases z1; cases z2
        exact eH
  · exact h.elim
end

/-! ### comprehensions -/
def cYes : CF := fun _ => some (.ok true)
def wipeE (ρ : En) : List Nat → En
  | [] => ρ
  | v :: vs => (wipeE ρ vs).set v none
/-- the items that a comprehension makes -/
def lcL (g : GF) (c : CF) (fe : EF) (ρ : En) : List D → Option (List D)
  | [] => some []
  | d :: ds => match g d ρ with
    | some ρ1 => match c ρ1 with
      | some (.ok true) => match fe ρ1 with
        | some (.ok sv) => match lcL g c fe ρ ds with
          | some r => some (toD sv :: r)
          | none => none
        | _ => none
      | some (.ok false) => lcL g c fe ρ ds
      | _ => none
    | none => none
def eLc (it : AF) (g : GF) (c : CF) (fe : EF) (vs : List Nat) : EF := fun ρ => bindL (it ρ) fun ds => match lcL g c fe (wipeE ρ vs) ds with
  | some r => if r.length ≤ 1000000 then some (.ok (.own r)) else none
  | none => none
abbrev FR.blk (C : FR) : FR := { C with W := fun _ _ _ _ => False }
section
variable {X : Cx} {C : FR}
theorem Good.blk {F H : Hp} {σ : St} {ρ : En} (G : Good C F H σ ρ) : Good C.blk F H σ ρ := ⟨G.fh, G.h0, G.f0, G.nw, G.len, G.at_, G.ap⟩
theorem Good.unblk {F H : Hp} {σ : St} {ρ : En} (G : Good C.blk F H σ ρ) : Good C F H σ ρ := ⟨G.fh, G.h0, G.f0, G.nw, G.len, G.at_, G.ap⟩
theorem Good.forget {F H : Hp} {σ : St} {ρ : En} (G : Good C F H σ ρ) (i : Nat) : Good C F H (σ.set i none) (ρ.set i none) := by
  refine ⟨G.fh, G.h0, G.f0, G.nw, by simp [G.len], fun j sv z => ?_, fun j k as bs q hjk z1 z2 z3 z4 => ?_⟩
  · by_cases hij : i = j
    · subst hij
      by_cases hl : i < ρ.length
      · rw [List.getElem?_set_self hl] at z; cases z
      · rw [List.getElem?_eq_none (by simpa using hl)] at z; cases z
    · rw [List.getElem?_set_ne hij] at z
      obtain ⟨v, e, q⟩ := G.at_ j sv z
      exact ⟨v, by rw [List.getElem?_set_ne hij]; exact e, q⟩
  · have ne : ∀ (j : Nat) (as : List D), (ρ.set i none)[j]? = some (some (SV.own as)) → i ≠ j := fun j as z hij => by
      subst hij
      by_cases hl : i < ρ.length
      · rw [List.getElem?_set_self hl] at z; cases z
      · rw [List.getElem?_eq_none (by simpa using hl)] at z; cases z
    have n1 := ne j as z1
    have n2 := ne k bs z2
    rw [List.getElem?_set_ne n1] at z1 z3
    rw [List.getElem?_set_ne n2] at z2 z4
    exact G.ap j k as bs q hjk z1 z2 z3 z4
theorem Good.wipe {F H : Hp} {σ : St} {ρ : En} (G : Good C F H σ ρ) : ∀ vs : List Nat, Good C F H (L2.wipe σ vs) (wipeE ρ vs)
  | [] => G
  | v :: vs => (G.wipe vs).forget v
theorem wipe_len (σ : St) : ∀ vs : List Nat, (L2.wipe σ vs).length = σ.length
  | [] => rfl
  | v :: vs => by simp [L2.wipe, wipe_len σ vs]
theorem wipe_in {σ : St} {j : Nat} : ∀ {vs : List Nat}, j ∈ vs → j < σ.length → (L2.wipe σ vs)[j]? = some none
  | v :: vs, h, hl => by
    unfold L2.wipe
    by_cases hv : v = j
    · subst hv; rw [List.getElem?_set_self (by rw [wipe_len]; exact hl)]
    · rw [List.getElem?_set_ne hv]
      exact wipe_in ((List.mem_cons.mp h).resolve_left fun z => hv z.symm) hl
theorem wipe_nin {σ : St} {j : Nat} : ∀ {vs : List Nat}, j ∉ vs → (L2.wipe σ vs)[j]? = σ[j]?
  | [], _ => rfl
  | v :: vs, h => by
    unfold L2.wipe
    rw [List.getElem?_set_ne (fun z => h (by simp [z]))]
    exact wipe_nin (fun z => h (List.mem_cons_of_mem _ z))
/-- the block's own slots alone were changed -/
theorem wipe_back {σ σ' : St} {vs is : List Nat} (hl : σ'.length = (L2.wipe σ vs).length) (hk : ∀ j, j ∉ is → σ'[j]? = (L2.wipe σ vs)[j]?) (hi : ∀ j ∈ is, j ∈ vs) : L2.wipe σ' vs = L2.wipe σ vs := by
  rw [wipe_len] at hl
  apply List.ext_getElem?
  intro j
  by_cases hj : j ∈ vs
  · by_cases hlt : j < σ.length
    · rw [wipe_in hj hlt, wipe_in hj (by omega)]
    · rw [List.getElem?_eq_none (by rw [wipe_len]; omega), List.getElem?_eq_none (by rw [wipe_len]; omega)]
  · rw [wipe_nin hj, hk j fun z => hj (hi j z)]
theorem lc_read {it : AF} {g : GF} {c : CF} {fe : EF} {vs is : List Nat} (fit : Fit X C) (hi : ∀ j ∈ is, j ∈ vs) {σ : St} {H : Hp} {Q : VK} (h : lE C (eLc it g c fe vs) σ H Q) : tLc (lI C it) (lG C.blk g is) (lT C.blk c) (lE C.blk fe) vs σ H Q := by
  obtain ⟨ρ, F, G, h⟩ := h
  refine ⟨ρ, F, G, ?_⟩
  unfold eLc at h
  cases e : it ρ with
  | none => rw [e] at h; exact h
  | some r =>
    rw [e] at h
    cases r with
    | ex x p => exact h
    | ok ds =>
      intro J F' H' st Y D hD
      have G1 := st.g
      have h : PostE C σ ρ F H (match lcL g c fe (wipeE ρ vs) ds with
        | some r => if r.length ≤ 1000000 then some (.ok (.own r)) else none
        | none => none) Q := h
      cases e2 : lcL g c fe (wipeE ρ vs) ds with
      | none => rw [e2] at h; exact h.elim
      | some all =>
        rw [e2] at h
        dsimp only at h
        split at h
        · rename_i hsz
          -- the new list at D is nobody's
          have dF : F' D = none := G1.fh.free hD
          have dH : H D = none := st.t.free hD
          have d0 : C.H0 D = none := G1.h0.free hD
          have dA : ∀ (i : Nat) (ys : List PT.D), ρ[i]? = some (some (.own ys)) → σ[i]? = some (some (.ref D)) → False := fun i ys z1 z2 => by
            obtain ⟨v, e3, p, ws, rfl, hp, _⟩ := G1.at_ i _ z1
            rw [z2] at e3; cases e3
            rw [hD] at hp; cases hp
          refine ⟨fun i m H2 => ∃ F2 acc ws rest, Same F' F2 ∧ Good C F2 H2 σ ρ ∧ (∀ b o, F2 b = some o → F' b = some o ∨ H' b = none) ∧ (∀ b o, b ≠ D → H' b = some o → H2 b = some o) ∧ F2 D = none ∧ H2 D = some (.lst ws) ∧ RepL C.K F2 acc ws ∧ lcL g c fe (wipeE ρ vs) (ds.drop i) = some rest ∧ acc ++ rest = all ∧ m + i = ds.length,
            ⟨ds.length, F', [], [], all, Same.refl F', G1.lay hD, fun _ _ z => .inl z, fun b o hb z => by rw [upd_ne hb]; exact z, dF, upd_same, .nil, e2, rfl, by omega⟩, ?_⟩
          rintro i m H2 ⟨F2, acc, ws, rest, s2, G2, gr2, kp2, nD, hD2, rl, er, ea, em⟩
          obtain ⟨y1, y2⟩ := Y i F2 H2 s2 G2.fh
          have lay : ∀ {F3 H3 : Hp} {us : List V}, Good C F3 H3 σ ρ → F3 D = none → Good C F3 (upd H3 D (.lst us)) σ ρ := fun {F3 H3 us} g3 n3 => by
            refine ⟨fun b o z => ?_, fun b o z => ?_, g3.f0, g3.nw, g3.len, fun j sv z => ?_, g3.ap⟩
            · rw [upd_ne (fun q => by subst q; rw [n3] at z; cases z)]; exact g3.fh b o z
            · rw [upd_ne (fun q => by subst q; rw [d0] at z; cases z)]; exact g3.h0 b o z
            · obtain ⟨v, z1, z2⟩ := g3.at_ j sv z
              refine ⟨v, z1, ?_⟩
              cases sv with
              | d x => exact z2
              | own ys =>
                obtain ⟨p, us', rfl, hp, r3, fp, h3⟩ := z2
                refine ⟨p, us', rfl, ?_, r3, fp, h3⟩
                rw [upd_ne (fun q => by subst q; exact dA j ys z z1)]
                exact hp
          by_cases hlt : i < ds.length
          · right
            obtain ⟨go, yl⟩ := y1 ds[i] (List.getElem?_eq_getElem hlt)
            rw [List.drop_eq_getElem_cons hlt] at er
            unfold lcL at er
            refine ⟨go, fun H3 => ∃ F3 acc ws rest, Same F' F3 ∧ Good C F3 H3 σ ρ ∧ (∀ b o, F3 b = some o → F' b = some o ∨ H' b = none) ∧ (∀ b o, b ≠ D → H' b = some o → H3 b = some o) ∧ F3 D = none ∧ H3 D = some (.lst ws) ∧ RepL C.K F3 acc ws ∧ lcL g c fe (wipeE ρ vs) (ds.drop (i + 1)) = some rest ∧ acc ++ rest = all,
              fun H3 ⟨F3, acc3, ws3, rest3, z1, z2, z8, z9, z3, z4, z5, z6, z7⟩ => ⟨m - 1, by omega, F3, acc3, ws3, rest3, z1, z2, z8, z9, z3, z4, z5, z6, z7, by omega⟩, fun x H3 hy => ?_⟩
            obtain ⟨F3, a1, a2, a3, a4, a5⟩ := yl x H3 hy
            have G3 : Good C F3 H3 σ ρ := G2.after a1 a2 a3 a4
            cases e3 : g ds[i] (wipeE ρ vs) with
            | none => rw [e3] at er; cases er
            | some ρ3 =>
              rw [e3] at er
              dsimp only at er
              refine ⟨wipeE ρ vs, F3, _, ρ3, (G3.wipe vs).blk, a5, e3, fun σ4 l4 k4 G4 => ⟨wipe_back l4 k4 hi, ?_⟩⟩
              refine ⟨ρ3, F3, G4, ?_⟩
              -- from the block's context back to ours: what has grown since the turn's begin
              have back : ∀ {F6 H6 : Hp}, Same F3 F6 → Same F6 H6 → Same H3 H6 → (∀ b o, F6 b = some o → F3 b = some o ∨ H3 b = none) →
                  Good C F6 H6 σ ρ ∧ Same F2 F6 ∧ (∀ b o, F6 b = some o → F' b = some o ∨ H' b = none) ∧ (∀ b o, b ≠ D → H' b = some o → H6 b = some o) ∧ F6 D = none ∧ H6 D = some (.lst ws) := fun {F6 H6} s6 f6 t6 gr6 => by
                have gr : ∀ b o, F6 b = some o → F2 b = some o ∨ H2 b = none := fun b o z => (gr6 b o z).elim (fun z => a4 b o z) fun z => .inr (a3.free z)
                refine ⟨G3.after s6 f6 t6 gr6, a1.trans s6, fun b o z => ?_, fun b o hb z => t6 b o (a3 b o (kp2 b o hb z)), ?_, t6 _ _ (a3 _ _ hD2)⟩
                · rcases gr b o z with z | z
                  · exact gr2 b o z
                  · right
                    by_cases hb : b = D
                    · subst hb; exact hD
                    · cases z2 : H' b with
                      | none => rfl
                      | some o' => rw [kp2 b o' hb z2] at z; cases z
                · cases z : F6 D with
                  | none => rfl
                  | some o =>
                    rcases gr D o z with z | z
                    · rw [nD] at z; cases z
                    · rw [hD2] at z; cases z
              cases e4 : c ρ3 with
              | none => rw [e4] at er; cases er
              | some rb =>
                rw [e4] at er
                cases rb with
                | ex x p => cases er
                | ok bb =>
                  intro F5 H5 st5
                  cases bb with
                  | false =>
                    rw [if_neg Bool.false_ne_true]
                    obtain ⟨b1, b2, b3, b4, b5, b6⟩ := back st5.s st5.g.fh st5.t st5.gr
                    exact ⟨F5, acc, ws, rest, s2.trans b2, b1, b3, b4, b5, b6, RepL.mono b2 _ _ rl, er, ea⟩
                  | true =>
                    rw [if_pos rfl]
                    dsimp only at er
                    refine ⟨ρ3, F5, st5.g, ?_⟩
                    cases e5 : fe ρ3 with
                    | none => rw [e5] at er; cases er
                    | some rr =>
                      rw [e5] at er
                      cases rr with
                      | ex x p => cases er
                      | ok sv =>
                        dsimp only at er
                        intro y H6' H6 st6 q6
                        obtain ⟨F7, st7, q7⟩ := st6.data st5.g q6
                        have st8 := st5.trans st7
                        obtain ⟨b1, b2, b3, b4, b5, b6⟩ := back st8.s st8.g.fh st8.t st8.gr
                        cases e6 : lcL g c fe (wipeE ρ vs) (ds.drop (i + 1)) with
                        | none => rw [e6] at er; cases er
                        | some rest2 =>
                          rw [e6] at er
                          cases er
                          refine ⟨ws, b6, ?_, F7, acc ++ [toD sv], ws ++ [y], rest2, s2.trans b2, lay b1 b5, b3, fun b o hb z => by rw [upd_ne hb]; exact b4 b o hb z, b5, upd_same, (RepL.mono b2 _ _ rl).append (.cons q7 .nil), rfl, by rw [← ea]; simp⟩
                          have l1 := rl.len
                          have l2 : all.length ≤ 1000000 := hsz
                          rw [← ea, List.length_append, List.length_cons] at l2
                          rw [sizeLine_eq]; omega
          · left
            have e6 : ds.drop i = [] := List.drop_eq_nil_of_le (by omega)
            rw [e6] at er
            cases er
            rw [List.append_nil] at ea
            subst ea
            refine ⟨y2 (by omega), h (.ref D) F2 H2 ⟨G2, st.s.trans s2, fun b o z => ?_, fun b o z => ?_⟩ ⟨D, ws, rfl, hD2, rl, nD, dH⟩⟩
            · exact kp2 b o (fun q => by subst q; rw [dH] at z; cases z) (st.t b o z)
            · rcases gr2 b o z with z | z
              · exact st.gr b o z
              · exact .inr (st.t.free z)
        · exact h.elim
/-- [e for target in iter if ..] -/
theorem x_lc {e tg iter : Expr} {ifs : List Expr} {scope : Scope} {own : List (Str × Nat)} {pos : Pos} {it : AF} {g : GF} {is : List Nat} {c : CF} {fe : EF} (fit : Fit X C) (hN : X.N.Nodup) (hi : PI X tg iter (lI C it)) (ok : BlkOk X.N X.env.scope scope own) (his : ∀ j ∈ is, j ∈ own.map (·.2))
    (hg : ∀ (s : Shared) (H : Hp) (Ca : Addr) (cl : List (Str × Addr)) (fp : List Addr), PG (X.blk s H scope (compEnvC scope cl Ca X.env) fp) tg (lG C.blk g is))
    (ht : ∀ (s : Shared) (H : Hp) (Ca : Addr) (cl : List (Str × Addr)) (fp : List Addr), PTs (X.blk s H scope (compEnvC scope cl Ca X.env) fp) ifs (lT C.blk c))
    (he : ∀ (s : Shared) (H : Hp) (Ca : Addr) (cl : List (Str × Addr)) (fp : List Addr), PE (X.blk s H scope (compEnvC scope cl Ca X.env) fp) e (lE C.blk fe)) (hs : ∀ x, foldedSetIterable iter X.env x = pure x := by intro _; rfl) (hh : C.hot = false := by rfl) :
    PE X (.ListComp e [⟨tg, iter, ifs, 0⟩] scope pos) (lE C (eLc it g c fe (own.map (·.2)))) :=
  PE.imp (fun σ H Q h => lc_read fit his h) (pe_lc (fit.calm hh) hN hi ok hg ht he hs)
/-- name = [..] on one line; as an own list, as data -/
theorem s_ownLc {i : Nat} {y : Str} {py : Pos} {e tg iter : Expr} {ifs : List Expr} {scope : Scope} {own : List (Str × Nat)} {pos spos : Pos} {it : AF} {g : GF} {is : List Nat} {c : CF} {fe : EF} (fit : Fit X C) (hN : X.N.Nodup) (hy : X.N[i]? = some y) (hyl : X.env.scope.names.lookup y = some .local)
    (hsw : swapsWith (.ListComp e [⟨tg, iter, ifs, 0⟩] scope pos) (some (.Name y py)) spos.line X.env = pure true) (hi : PI X tg iter (lI C it)) (ok : BlkOk X.N X.env.scope scope own) (his : ∀ j ∈ is, j ∈ own.map (·.2))
    (hg : ∀ (s : Shared) (H : Hp) (Ca : Addr) (cl : List (Str × Addr)) (fp : List Addr), PG (X.blk s H scope (compEnvC scope cl Ca X.env) fp) tg (lG C.blk g is))
    (ht : ∀ (s : Shared) (H : Hp) (Ca : Addr) (cl : List (Str × Addr)) (fp : List Addr), PTs (X.blk s H scope (compEnvC scope cl Ca X.env) fp) ifs (lT C.blk c))
    (he : ∀ (s : Shared) (H : Hp) (Ca : Addr) (cl : List (Str × Addr)) (fp : List Addr), PE (X.blk s H scope (compEnvC scope cl Ca X.env) fp) e (lE C.blk fe)) (hs : ∀ x, foldedSetIterable iter X.env x = pure x := by intro _; rfl) (hh : C.hot = false := by rfl) :
    PS X (.Assign [.Name y py] (.ListComp e [⟨tg, iter, ifs, 0⟩] scope pos) spos) (lS C (wOwn i (eLc it g c fe (own.map (·.2))))) := by
  refine PS.imp ?_ (ps_setLc (fit.calm hh) hN hy hyl hsw hi ok hg ht he hs)
  rintro D σ H ⟨ρ, F, P, G, h, ft⟩
  refine lc_read fit his (lS_E G ft h fun sv v F' H' st q k => ?_)
  exact ft.nx _ _ F' H' (st.g.set i (q.base G.h0) (G.apart q)) st.s k
theorem s_setLc {i : Nat} {y : Str} {py : Pos} {e tg iter : Expr} {ifs : List Expr} {scope : Scope} {own : List (Str × Nat)} {pos spos : Pos} {it : AF} {g : GF} {is : List Nat} {c : CF} {fe : EF} (fit : Fit X C) (hN : X.N.Nodup) (hy : X.N[i]? = some y) (hyl : X.env.scope.names.lookup y = some .local)
    (hsw : swapsWith (.ListComp e [⟨tg, iter, ifs, 0⟩] scope pos) (some (.Name y py)) spos.line X.env = pure true) (hi : PI X tg iter (lI C it)) (ok : BlkOk X.N X.env.scope scope own) (his : ∀ j ∈ is, j ∈ own.map (·.2))
    (hg : ∀ (s : Shared) (H : Hp) (Ca : Addr) (cl : List (Str × Addr)) (fp : List Addr), PG (X.blk s H scope (compEnvC scope cl Ca X.env) fp) tg (lG C.blk g is))
    (ht : ∀ (s : Shared) (H : Hp) (Ca : Addr) (cl : List (Str × Addr)) (fp : List Addr), PTs (X.blk s H scope (compEnvC scope cl Ca X.env) fp) ifs (lT C.blk c))
    (he : ∀ (s : Shared) (H : Hp) (Ca : Addr) (cl : List (Str × Addr)) (fp : List Addr), PE (X.blk s H scope (compEnvC scope cl Ca X.env) fp) e (lE C.blk fe)) (hs : ∀ x, foldedSetIterable iter X.env x = pure x := by intro _; rfl) (hh : C.hot = false := by rfl) :
    PS X (.Assign [.Name y py] (.ListComp e [⟨tg, iter, ifs, 0⟩] scope pos) spos) (lS C (wSet i (eLc it g c fe (own.map (·.2))))) := by
  refine PS.imp ?_ (ps_setLc (fit.calm hh) hN hy hyl hsw hi ok hg ht he hs)
  rintro D σ H ⟨ρ, F, P, G, h, ft⟩
  refine lc_read fit his (lS_E G ft h fun sv v F' H' st q k => ?_)
  obtain ⟨F2, s2, q2⟩ := st.data G q
  exact ft.nx _ _ F2 H' (s2.g.set i (sv := .d (toD sv)) q2 Apart.d) s2.s k
theorem t_none : PTs X [] (lT C cYes) := ⟨fun pins s σ H Q I ⟨ρ, F, G, h⟩ => pts_nil.run pins s σ H Q I (h F H (Step.refl G))⟩
theorem t_one {c : Expr} {t : CF} (h : L2.PT X c (lT C t)) : PTs X [c] (lT C t) := pts_one h
end

/-! ### a def by its body -/
def startE (n : Nat) (ds : List D) : En := (ds.map fun x => some (SV.d x)) ++ List.replicate (n - ds.length) none
def PDof (r : R) : PD := { nx := fun _ => r = .ok (.d .non), rt := fun sv => r = .ok sv, bk := fun _ => False, ct := fun _ => False, ex := fun x p => r = .ex x p }
/-- what a def's body is to show -/
def Does (n : Nat) (w : SF) (fn : List D → Option R) : Prop := ∀ ds r, fn ds = some r → w (PDof r) (startE n ds)
section
variable {P : Program} {w : World} {K : PySem.W.Frag} {mg : Str → Option Value} {base : Heap}
theorem good_start {K : PySem.W.Frag} {mg : Str → Option Value} {F H : Hp} {W : WX} {hb : Bool} {N : List Str} {ds : List D} {vs : List V} (s : Same F H) (r : RepL K F ds vs) : Good ⟨K, mg, F, H, W, hb⟩ F H (L2.start N vs) (startE N.length ds) := by
  have hl := r.len
  refine ⟨s, Same.refl H, Same.refl F, fun b o z => .inl z, by unfold L2.start startE; simp [hl], fun i sv e => ?_, fun i j xs ys a _ e _ _ _ => ?_⟩
  · unfold startE at e
    unfold L2.start
    by_cases hi : i < ds.length
    · rw [List.getElem?_append_left (by simpa using hi), List.getElem?_map] at e
      cases z : ds[i]? with
      | none => rw [z] at e; cases e
      | some d =>
        rw [z] at e
        cases e
        obtain ⟨v, e1, q⟩ := r.get z
        exact ⟨v, by rw [List.getElem?_append_left (by simp; omega), List.getElem?_map, e1]; rfl, q⟩
    · rw [List.getElem?_append_right (by simpa using hi), List.getElem?_replicate] at e
      split at e <;> cases e
  · unfold startE at e
    by_cases hi : i < ds.length
    · rw [List.getElem?_append_left (by simpa using hi), List.getElem?_map] at e
      cases z : ds[i]? with
      | none => rw [z] at e; cases e
      | some d => rw [z] at e; cases e
    · rw [List.getElem?_append_right (by simpa using hi), List.getElem?_replicate] at e
      split at e <;> cases e
/-- a def keeps what its body does: C is the body's frame -/
theorem def_ok {x qual : Str} {params : Arguments} {body : List Stmt} {scope : Scope} {dvs : List V} {kws : List (Str × V)} {f : Addr} {fd : FuncData} {N ps : List Str} {k : Nat} {wb : SF} {fn : List D → Option R} (F : FunD K x qual params body scope dvs kws f fd) (S : FnScope N ps scope)
    (hb : ∀ (cdv : Value) (A : Around) (outer : List Env) (s : Shared) (H F0 : Hp) (E : XK) (X : Cx), X = cxOf (L2.CX P w) P w K mg base N qual scope f cdv A outer s H E → Room k X.A → Fit X ⟨K, mg, F0, H, fun cls d _ H => E cls d H, false⟩ → PSs X body (lS ⟨K, mg, F0, H, fun cls d _ H => E cls d H, false⟩ wb))
    (hl : ∀ ds r, fn ds = some r → ds.length = ps.length) (hw : Does N.length wb fn) : FnOk P w K mg base (L2.CX P w) (k + 1) f fd ps (spF K mg fn) := by
  refine F.ok S (fun vs H Q E h => ?_) fun cdv A outer s H vs Q E hr h => ?_
  · obtain ⟨F0, ds, _, r, h⟩ := h
    cases e : fn ds with
    | none => rw [e] at h; exact h.elim
    | some q => rw [← r.len]; exact hl ds q e
  · obtain ⟨F0, ds, s0, r, h⟩ := h
    refine ⟨_, hb cdv A outer s H F0 E _ rfl hr ⟨rfl, rfl, takes_of rfl rfl rfl rfl, fun _ => rfl, passes_of rfl⟩, ?_⟩
    cases e : fn ds with
    | none => rw [e] at h; exact h.elim
    | some q =>
      rw [e] at h
      refine ⟨_, F0, _, good_start s0 r, hw ds q e, ?_⟩
      refine ⟨fun σ ρ F1 H1 g t z => ?_, fun σ ρ F1 H1 v sv g t q' z => ?_, fun _ _ _ _ _ _ z => z.elim, fun _ _ _ _ _ _ z => z.elim, fun σ ρ F1 H1 y p cls d g t xr z => ?_⟩
      · have z : q = .ok (.d .non) := z
        subst z
        exact h .non F1 H1 g.f0 g.fh g.h0 g.nw .non
      · have z : q = .ok sv := z
        subst z
        exact h v F1 H1 g.f0 g.fh g.h0 g.nw q'
      · have z : q = .ex y p := z
        subst z
        exact h H1 cls d g.h0 xr
end
end PT
/-! PT: defs as they are called, the head's facts, a law's end. -/
namespace PT
open PySem PySem.Spec PyProof.Rows L2
/-! ### a def as its callers see it -/
def Cal (P : Program) (w : World) (K : PySem.W.Frag) (mg : Str → Option Value) (base : Heap) (x : Str) (k : Nat) (dds : List D) (fn : List D → Option R) : Prop :=
  ∃ (f : Addr) (fd : FuncData) (ps : List Str) (ds : List Value) (dvs : List V), FnOk P w K mg base (L2.CX P w) k f fd ps (spF K mg fn) ∧ mg x = some (.ref f) ∧ PySem.W.keepIn K (.ref f) = true ∧ Binds K fd ps ds ∧ Vals dvs ds ∧ ∀ F, RepL K F dds dvs
section
variable {X : Cx} {C : FR} {e : Expr} {es : List Expr} {ff : AF} {pos p : Pos}
theorem Fit.blk (ft : Fit X C) (s : Shared) (H : Hp) (scope : Scope) (cenv : Env) (fp : List Addr) : Fit (X.blk s H scope cenv fp) C.blk := ⟨ft.K, ft.mg, takes0, ft.calm, PassesOwn.never⟩
theorem x_cal {x : Str} {k j : Nat} {fn : List D → Option R} (ft : Fit X C) (c : Cal X.prog X.w C.K C.mg X.base x k [] fn) (hr : Room j X.A) (ha : PA X (e :: es) (lA C ff)) (hk : k ≤ j := by decide) (hg : Gl X x := by rfl) (hdb : (x == ("__debug__" : Str)) = false := by decide)
    (he : starEach (e :: es) X.env = (false, eval e X.env) :: starEach es X.env := by rfl) (hpl : (backTo pos (starEach es X.env)).any (·.1) = false := by rfl) : PE X (.Call (.Name x p) (e :: es) [] pos) (lE C (eCall fn ff)) := by
  obtain ⟨f, fd, ps, ds, dvs, F, m, kp, b, v, r⟩ := c
  have e1 := r (fun _ => none)
  have e2 : dvs = [] := by cases e1; rfl
  subst e2
  have e3 : ds = [] := by cases v; rfl
  subst e3
  exact x_calln ft (by rw [ft.K, ft.mg]; exact F.mono hk) hr hg m kp b ha hdb he hpl
theorem x_calD {x : Str} {k j : Nat} {dds : List D} {fn : List D → Option R} (ft : Fit X C) (c : Cal X.prog X.w C.K C.mg X.base x k dds fn) (hr : Room j X.A) (ha : PA X (e :: es) (lA C ff)) (hk : k ≤ j := by decide) (hg : Gl X x := by rfl) (hdb : (x == ("__debug__" : Str)) = false := by decide)
    (he : starEach (e :: es) X.env = (false, eval e X.env) :: starEach es X.env := by rfl) (hpl : (backTo pos (starEach es X.env)).any (·.1) = false := by rfl) : PE X (.Call (.Name x p) (e :: es) [] pos) (lE C (eCall (fun us => fn (us ++ dds)) ff)) := by
  obtain ⟨f, fd, ps, ds, dvs, F, m, kp, b, v, r⟩ := c
  exact x_call ft (by rw [ft.K, ft.mg]; exact F.mono hk) hr hg m kp b v r ha hdb he hpl
theorem x_cal0 {x : Str} {k j : Nat} {fn : List D → Option R} (ft : Fit X C) (c : Cal X.prog X.w C.K C.mg X.base x k [] fn) (hr : Room j X.A) (hk : k ≤ j := by decide) (hg : Gl X x := by rfl) (hdb : (x == ("__debug__" : Str)) = false := by decide)
    (hn : ∃ r, fn [] = some r) : PE X (.Call (.Name x p) [] [] pos) (lE C (eCall fn aNil)) := by
  obtain ⟨f, fd, ps, ds, dvs, F, m, kp, b, v, r⟩ := c
  have e1 := r (fun _ => none)
  have e2 : dvs = [] := by cases e1; rfl
  subst e2
  have e3 : ds = [] := by cases v; rfl
  subst e3
  have hp : ps = [] := by
    obtain ⟨q, hq⟩ := hn
    have := F.len [] (fun _ => none) (fun _ _ => True) (fun _ _ _ => True) ⟨fun _ => none, [], Same.refl _, .nil, by rw [hq]; cases q <;> simp⟩
    cases ps with
    | nil => rfl
    | cons _ _ => cases this
  subst hp
  exact x_call0 ft (by rw [ft.K, ft.mg]; exact F.mono hk) hr hg m kp b hdb
end
/-! ### the head's facts -/
abbrev AlP : Type := Bool × List He.FnW
def obsP (fa : List He.Fa) (fn : List He.DefD) (ex : List (PySem.W.Frag → Bool)) (K : PySem.W.Frag) : AlP := ((He.obsD fa fn K).1 && ex.all (fun e => e K), (He.obsD fa fn K).2)
def valP (fn : List He.DefD) : AlP := (true, fn.map He.DefD.val)
def SaysP (fa : List He.Fa) (fn : List He.DefD) (ex : List (PySem.W.Frag → Bool)) (K : PySem.W.Frag) : Prop := obsP fa fn ex K = valP fn
def obsPG (n : Nat) (fa : List He.Fa) (fn : List He.DefD) (ex : List (PySem.W.Frag → Bool)) (g : Addr → Option Obj) : AlP := obsP fa fn ex (He.frG g (He.asD g n))
def hookP (n : Nat) (fa : List He.Fa) (fn : List He.DefD) (ex : List (PySem.W.Frag → Bool)) : PySem.W.Hook where
  α := AlP
  obs := fun s => obsPG n fa fn ex s.heap.get?
  val := fun _ => valP fn
  says := fun _ h => ∃ K : PySem.W.Frag, K.In h ∧ SaysP fa fn ex K
  of := fun _ _ e => ⟨_, He.frG_in, e⟩
  keeps := fun _ _ _ ⟨K, hK, c⟩ k => ⟨K, PySem.W.Frag.In.keeps hK k, c⟩
theorem obsPG_eq {n : Nat} {fa : List He.Fa} {fn : List He.DefD} {ex : List (PySem.W.Frag → Bool)} {g : Addr → Option Obj} {s : Shared} (h : ∀ a, g a = s.heap.get? a) : obsPG n fa fn ex g = (hookP n fa fn ex).obs s := by
  rw [show g = s.heap.get? from funext h] <;> rfl
theorem SaysP.d {fa : List He.Fa} {fn : List He.DefD} {ex : List (PySem.W.Frag → Bool)} {K : PySem.W.Frag} (c : SaysP fa fn ex K) : He.SaysD fa fn K := by
  have c1 : ((He.obsD fa fn K).1 && ex.all (fun e => e K)) = true := congrArg (fun z : AlP => z.1) c
  have c2 : (He.obsD fa fn K).2 = fn.map He.DefD.val := congrArg (fun z : AlP => z.2) c
  rw [Bool.and_eq_true] at c1
  show He.obsD fa fn K = He.valD fn
  exact Prod.ext c1.1 c2
theorem SaysP.ex {fa : List He.Fa} {fn : List He.DefD} {ex : List (PySem.W.Frag → Bool)} {K : PySem.W.Frag} (c : SaysP fa fn ex K) (i : Nat) {e : PySem.W.Frag → Bool} (h : ex[i]? = some e := by rfl) : e K = true := by
  have c1 : ((He.obsD fa fn K).1 && ex.all (fun e => e K)) = true := congrArg (fun z : AlP => z.1) c
  rw [Bool.and_eq_true] at c1
  exact List.all_eq_true.mp c1.2 e (List.mem_of_getElem? h)
/-! data of the top -/
def isD (K : PySem.W.Frag) : Nat → D → Value → Bool
  | _, .non, .none => true
  | _, .bl b, .bool c => b == c
  | _, .int i, .int j _ => decide (i = j)
  | _, .str x, .str y _ => decide (x = y)
  | n + 1, .tup ds, .ref a => (match K.lookup a with
    | some ⟨.type c, _, .seq its _, _⟩ => decide (c = "tuple") && (decide (its.size ≤ sizeLine) && (decide (ds.length = its.toList.length) && (ds.zip its.toList).all fun q => isD K n q.1 q.2))
    | _ => false)
  | n + 1, .scr ds, .ref a => (match K.lookup a with
    | some ⟨.type c, none, .seq its _, _⟩ => decide (c = "list") && (decide (its.size ≤ sizeLine) && (decide (ds.length = its.toList.length) && (ds.zip its.toList).all fun q => isD K n q.1 q.2))
    | _ => false)
  | _, _, _ => false
theorem isD_all {K : PySem.W.Frag} {n : Nat} (ih : ∀ d u, isD K n d u = true → ∃ v, RelV v u ∧ ∀ F, Rep K F d v) : ∀ (ds : List D) (us : List Value), ds.length = us.length → ((ds.zip us).all fun q => isD K n q.1 q.2) = true → ∃ vs, Vals vs us ∧ ∀ F, RepL K F ds vs
  | [], [], _, _ => ⟨[], .nil, fun _ => .nil⟩
  | [], _ :: _, h, _ => by cases h
  | _ :: _, [], h, _ => by cases h
  | d :: ds, u :: us, h, k => by
    simp only [List.zip_cons_cons, List.all_cons, Bool.and_eq_true] at k
    obtain ⟨v, r, q⟩ := ih d u k.1
    obtain ⟨vs, r2, q2⟩ := isD_all ih ds us (by simpa using h) k.2
    exact ⟨v :: vs, .cons r r2, fun F => .cons (q F) (q2 F)⟩
theorem isD_ok {K : PySem.W.Frag} : ∀ (n : Nat) (d : D) (u : Value), isD K n d u = true → ∃ v, RelV v u ∧ ∀ F, Rep K F d v := by
  have flat : ∀ (n : Nat) (d : D) (u : Value), (∀ ds, d ≠ .tup ds) → (∀ ds, d ≠ .scr ds) → isD K n d u = true → ∃ v, RelV v u ∧ ∀ F, Rep K F d v := by
    intro n d u h1 h2 h
    cases d with
    | tup ds => exact absurd rfl (h1 ds)
    | scr ds => exact absurd rfl (h2 ds)
    | non => cases u <;> first | exact ⟨.non, rfl, fun _ => .non⟩ | (cases n <;> simp [isD] at h)
    | bl b => cases u <;> first | (have e : b = _ := eq_of_beq (by cases n <;> exact h); subst e; exact ⟨.bl b, rfl, fun _ => .bl b⟩) | (cases n <;> simp [isD] at h)
    | int i => cases u <;> first | (have e : i = _ := of_decide_eq_true (by cases n <;> exact h); subst e; exact ⟨.int i, ⟨_, rfl⟩, fun _ => .int i⟩) | (cases n <;> simp [isD] at h)
    | str x => cases u <;> first | (have e : x = _ := of_decide_eq_true (by cases n <;> exact h); subst e; exact ⟨.str x, ⟨_, rfl⟩, fun _ => .str x⟩) | (cases n <;> simp [isD] at h)
    | lst ds => cases n <;> cases u <;> simp [isD] at h
    | raw w => cases n <;> cases u <;> simp [isD] at h
    | box t ds => cases n <;> cases u <;> simp [isD] at h
  intro n
  induction n with
  | zero =>
    intro d u h
    refine flat 0 d u ?_ ?_ h
    · rintro ds rfl; cases u <;> simp [isD] at h
    · rintro ds rfl; cases u <;> simp [isD] at h
  | succ n ih =>
    intro d u h
    by_cases h1 : ∃ ds, d = .tup ds
    · obtain ⟨ds, rfl⟩ := h1
      cases u <;> first | (simp [isD] at h; done) | skip
      rename_i a
      unfold isD at h
      split at h
      · rename_i c od its m sl e
        simp only [Bool.and_eq_true] at h
        obtain ⟨vs, r, q⟩ := isD_all ih ds its.toList (of_decide_eq_true h.2.2.1) h.2.2.2
        exact ⟨.ref a, rfl, fun F => .tup (.inr ⟨_, its, m, e, congrArg Value.type (of_decide_eq_true h.1), rfl, of_decide_eq_true h.2.1, r⟩) (q F)⟩
      · cases h
    · by_cases h2 : ∃ ds, d = .scr ds
      · obtain ⟨ds, rfl⟩ := h2
        cases u <;> first | (simp [isD] at h; done) | skip
        rename_i a
        unfold isD at h
        split at h
        · rename_i c its m sl e
          simp only [Bool.and_eq_true] at h
          obtain ⟨vs, r, q⟩ := isD_all ih ds its.toList (of_decide_eq_true h.2.2.1) h.2.2.2
          exact ⟨.ref a, rfl, fun F => .scr (.inr ⟨_, its, m, e, congrArg Value.type (of_decide_eq_true h.1), rfl, rfl, of_decide_eq_true h.2.1, r⟩) (q F)⟩
        · cases h
      · exact flat _ d u (fun ds e => h1 ⟨ds, e⟩) (fun ds e => h2 ⟨ds, e⟩) h
/-- the module's name x holds the data d -/
def conD (x : Str) (d : D) (K : PySem.W.Frag) : Bool := match PySem.W.nsIn K mainGlobals x with
  | some (some u) => isD K 5 d u
  | _ => false
theorem conD_ok {K : PySem.W.Frag} {h : Heap} {mg : Str → Option Value} {x : Str} {d : D} (X : K.In h) (G : h.Ns mainGlobals mg) (c : conD x d K = true) : GC K mg x d := by
  unfold conD at c
  split at c
  · rename_i u e
    obtain ⟨v, r, q⟩ := isD_ok 5 d u c
    exact ⟨v, u, PySem.W.mg_of X G e, r, q⟩
  · cases c
/-! ### a law's end -/
theorem CX_not {P : Program} {w : World} {o : List Env} {H : Hp} {s s' : Shared} {e : Value} (h : L2.CX P w o H s (fun _ _ _ => False) e s') : False := by
  obtain ⟨_, _, _, _, _, _, _, _, _, _, _, _, z⟩ := h
  exact z
theorem law_end {l : PySem.W.OpenLaw} {q : Program} {loose : List Str} {XP : (Str → Option Value) → Heap → Prop} {YP : World → Heap → Prop} {d : DefRec} {x : Str} {k : Nat} (fn : List D → Option R)
    (hm : l.most = some 63) (hdf : d.params.defaults = []) (hr : Room k callerA)
    (F : ∀ (w : World) (mg : Str → Option Value) (fa : Addr) (h : Heap), YP w h → h.Ns mainGlobals mg → mg d.name = some (.ref fa) → ∃ (K : PySem.W.Frag) (fd : FuncData), K.In h ∧ (∀ (s : Shared) (u : Value), BindsTo s fd ⟨[u], []⟩ [(x, u)]) ∧
      ∀ base : Heap, K.In base → base.Ns mainGlobals mg → FnOk l.prog w K mg base (L2.CX l.prog w) k fa fd [x] (spF K mg fn))
    (hfn : ∀ ns : List Int, ns.length ≤ 63 → fn [.scr (ns.map D.int)] = some (.ok (.d (.bl true)))) : PySem.W.WalkO q loose XP YP l.row.toRowW d [] (fun f vs => PySem.call f vs) := by
  refine Att.attach_call hm hdf ?_
  intro w s₀ s₁ mg mb fa o pm cd doc a vs ns G Y ho hd hcd hmg hobj hints hlen hg
  obtain ⟨K, fd, KX, hb, hF⟩ := F w mg fa _ Y G.T.g hmg
  refine law_call KX G.T.g G.T.b G.T.builtins G.T.nolimit hg hobj hints (Nat.le_trans hlen (by rw [sizeLine_eq]; decide)) hr hF hb ?_ ?_
  · intro H hO hS
    refine ⟨H, [.scr (ns.map D.int)], Same.refl H, .cons (.scr hS (RepL.ofInts ns)) .nil, ?_⟩
    rw [hfn ns hlen]
    intro v F' H' _ _ _ _ r
    cases r
    rfl
  · intro H e s'
    exact CX_not
/-! ### raise -/
def XF (K : PySem.W.Frag) (mg : Str → Option Value) (x : Str) : Prop := ∃ Ca : Addr, mg x = some (.ref Ca) ∧ PySem.W.excIn K Ca He.veBase "ValueError.__new__" = true ∧ PySem.W.keepIn K (.ref Ca) = true ∧ PySem.W.subIn K (.ref Ca) (.type "BaseException") = some true ∧ PySem.W.typeIn K (.ref Ca) = some (.type "type")
theorem xf_of {K : PySem.W.Frag} {mg : Str → Option Value} {h : Heap} {x : Str} (X : K.In h) (G : h.Ns mainGlobals mg) (c1 : (He.Fa.glo x).ok K = true) (c2 : (He.Fa.exc x).ok K = true) : XF K mg x :=
  ⟨_, He.glo_ok X G c1, He.exc_ok c2⟩
theorem s_raise {X : Cx} {C : FR} {x m : Str} {j : Nat} {p p2 pos pos' : Pos} (ft : Fit X C) (h : XF C.K C.mg x) (hg : Gl X x := by rfl) (hdb : (x == ("__debug__" : Str)) = false := by decide) (hh : C.hot = false := by rfl) : PS X (.Raise (some (.Call (.Name x p) [.Constant (.str m) j p2] [] pos)) none pos') (lS C (wRaise x)) := by
  obtain ⟨Ca, h1, h2, h3, h4, h5⟩ := h
  refine PS.imp ?_ (ps_raise (ft.calm hh) ft.tk (pmk_own PySem.F.excBase_ValueError (by rw [ft.K]; exact h2) (by rw [ft.mg]; exact h1) (by rw [ft.K]; exact h3) (raises_own (by rw [ft.K]; exact h4) (by rw [ft.K]; exact h5)) hg hdb))
  rintro D σ H ⟨ρ, F, P, G, k, ht⟩
  exact ht.ex σ ρ F H x none (.ref Ca) none G (Same.refl F) ⟨h1, rfl⟩ k
/-! ### what stands of the built-ins -/
theorem hu65 {k : Nat} {A : Around} (r : Room k A) : A.units + 65 < cLine := by have := r.un; omega
theorem bt_len : bootBuiltins "len" = some (.builtin "len") := PySem.boot_len
theorem bt_abs : bootBuiltins "abs" = some (.builtin "abs") := PyProof.Rows.boot_abs
theorem bt_all : bootBuiltins "all" = some (.builtin "all") := PyProof.Rows.boot_all
theorem bt_any : bootBuiltins "any" = some (.builtin "any") := PyProof.Rows.boot_any
theorem bt_sum : bootBuiltins "sum" = some (.builtin "sum") := PyProof.Rows.boot_sum
theorem bt_min : bootBuiltins "min" = some (.builtin "min") := PyProof.Rows.boot_min
theorem bt_max : bootBuiltins "max" = some (.builtin "max") := PyProof.Rows.boot_max
theorem bt_sorted : bootBuiltins "sorted" = some (.builtin "sorted") := PyProof.Rows.boot_sorted
theorem bt_isinstance : bootBuiltins "isinstance" = some (.builtin "isinstance") := PyProof.Rows.boot_isinstance
theorem bt_int : bootBuiltins "int" = some (.type "int") := PyProof.Rows.boot_int
theorem bt_bool : bootBuiltins "bool" = some (.type "bool") := PyProof.Rows.boot_bool
theorem bt_str : bootBuiltins "str" = some (.type "str") := PyProof.Rows.boot_str
theorem bt_tuple : bootBuiltins "tuple" = some (.type "tuple") := PyProof.Rows.boot_tuple
theorem bt_list : bootBuiltins "list" = some (.type "list") := PyProof.Rows.boot_list
/-! ### an own list is read -/
def eLenO (i : Nat) : EF := fun ρ => match ρ[i]? with
  | some (some (.own xs)) => okI xs.length
  | _ => none
def eIxO (i : Nat) (f : EF) : EF := fun ρ => match ρ[i]? with
  | some (some (.own xs)) => bindR (f ρ) fun y => ixR (.lst xs) y
  | _ => none
section
variable {X : Cx} {C : FR} {b : Expr} {fb : EF} {pos p : Pos} {x : Str}
theorem x_ixO (i : Nat) (hb : PE X b (lE C fb)) (hN : X.N[i]? = some x := by rfl) (hv : Vis X.env.scope x := by first | exact Or.inl rfl | exact Or.inr (Or.inl rfl) | exact Or.inr (Or.inr rfl)) (hd : (x == ("__debug__" : Str)) = false := by decide)
    (hcd : (x == ("__classdict__" : Str)) = false := by decide) (hs : PlainIx b := by exact fun _ _ => rfl) : PE X (.Subscript (.Name x p) b pos) (lE C (eIxO i fb)) := by
  refine PE.imp ?_ (pe_ix IxR.any (pe_var hN hv hd hcd) hb hs)
  rintro σ H Q ⟨ρ, F, G, h⟩
  unfold eIxO at h
  split at h
  · rename_i xs e
    obtain ⟨v, e2, q⟩ := G.at_ i _ e
    refine ⟨v, e2, ρ, F, G, ?_⟩
    have h1 := PostE.bind G h
    cases e3 : fb ρ with
    | none => rw [e3] at h1; exact h1
    | some r =>
      rw [e3] at h1
      cases r with
      | ex x p => exact h1
      | ok sv =>
        intro w F' H' st qw
        obtain ⟨y, F1, st1, ry, h2⟩ := h1 w F' H' st qw
        obtain ⟨v', e4, p, vs, rfl, hp, rl, _⟩ := st1.g.at_ i _ e
        rw [e2] at e4
        cases e4
        cases y with
        | int k =>
          have h2 : PostE C σ ρ F1 H' (match atI xs k with
            | some x => okD x
            | none => none) Q := h2
          split at h2
          · rename_i d e5
            cases ry
            obtain ⟨u, e6, r1⟩ := rl.at e5
            exact ⟨_, ix_list, _, _, _, u, rfl, rfl, SqL.of hp, e6, h2.val st1.g r1⟩
          · exact h2.elim
        | _ => exact h2.elim
  · exact h.elim
theorem x_lenO {p2 : Pos} (ft : Fit X C) (hm : C.mg "len" = none) (i : Nat) (hg : Gl X "len" := by rfl) (hN : X.N[i]? = some x := by rfl) (hv : Vis X.env.scope x := by first | exact Or.inl rfl | exact Or.inr (Or.inl rfl) | exact Or.inr (Or.inr rfl)) (hd : (x == ("__debug__" : Str)) = false := by decide)
    (hcd : (x == ("__classdict__" : Str)) = false := by decide) (he : starEach [.Name x p2] X.env = (false, eval (.Name x p2) X.env) :: starEach [] X.env := by rfl) (hpl : (backTo pos (starEach [] X.env)).any (·.1) = false := by rfl) : PE X (.Call (.Name "len" p) [.Name x p2] [] pos) (lE C (eLenO i)) := by
  refine PE.imp ?_ (pe_callB call_len hg (by rw [ft.mg]; exact hm) bt_len (pa_cons (pe_var hN hv hd hcd) pa_nil he) (by decide) (by decide) he hpl)
  rintro σ H Q ⟨ρ, F, G, h⟩
  unfold eLenO at h
  split at h
  · rename_i xs e
    obtain ⟨v, e2, p, vs, rfl, hp, rl, _⟩ := G.at_ i _ e
    exact ⟨_, e2, _, _, rfl, .inl ⟨_, SqL.of hp, rfl⟩, by rw [← rl.len]; exact h.val G (.int _)⟩
  · exact h.elim
end
/-! ### functions of data by their number of arguments -/
def fn0 (r : Option R) : List D → Option R
  | [] => r
  | _ => none
def fn1 (g : D → Option R) : List D → Option R
  | [x] => g x
  | _ => none
def fn2 (g : D → D → Option R) : List D → Option R
  | [x, y] => g x y
  | _ => none
def fn3 (g : D → D → D → Option R) : List D → Option R
  | [x, y, z] => g x y z
  | _ => none
def fn4 (g : D → D → D → D → Option R) : List D → Option R
  | [x, y, z, u] => g x y z u
  | _ => none
def fn5 (g : D → D → D → D → D → Option R) : List D → Option R
  | [x, y, z, u, v] => g x y z u v
  | _ => none
theorem len0 {r : Option R} : ∀ ds q, fn0 r ds = some q → ds.length = 0
  | [], _, _ => rfl
theorem len1 {g : D → Option R} : ∀ ds q, fn1 g ds = some q → ds.length = 1
  | [_], _, _ => rfl
theorem len2 {g : D → D → Option R} : ∀ ds q, fn2 g ds = some q → ds.length = 2
  | [_, _], _, _ => rfl
theorem len3 {g : D → D → D → Option R} : ∀ ds q, fn3 g ds = some q → ds.length = 3
  | [_, _, _], _, _ => rfl
theorem len4 {g : D → D → D → D → Option R} : ∀ ds q, fn4 g ds = some q → ds.length = 4
  | [_, _, _, _], _, _ => rfl
theorem len5 {g : D → D → D → D → D → Option R} : ∀ ds q, fn5 g ds = some q → ds.length = 5
  | [_, _, _, _, _], _, _ => rfl
theorem does0 {n : Nat} {w : SF} {r : Option R} (h : ∀ q, r = some q → w (PDof q) (startE n [])) : Does n w (fn0 r)
  | [], q, e => h q e
theorem does1 {n : Nat} {w : SF} {g : D → Option R} (h : ∀ x q, g x = some q → w (PDof q) (startE n [x])) : Does n w (fn1 g)
  | [x], q, e => h x q e
theorem does2 {n : Nat} {w : SF} {g : D → D → Option R} (h : ∀ x y q, g x y = some q → w (PDof q) (startE n [x, y])) : Does n w (fn2 g)
  | [x, y], q, e => h x y q e
theorem does3 {n : Nat} {w : SF} {g : D → D → D → Option R} (h : ∀ x y z q, g x y z = some q → w (PDof q) (startE n [x, y, z])) : Does n w (fn3 g)
  | [x, y, z], q, e => h x y z q e
theorem does4 {n : Nat} {w : SF} {g : D → D → D → D → Option R} (h : ∀ x y z u q, g x y z u = some q → w (PDof q) (startE n [x, y, z, u])) : Does n w (fn4 g)
  | [x, y, z, u], q, e => h x y z u q e
theorem does5 {n : Nat} {w : SF} {g : D → D → D → D → D → Option R} (h : ∀ x y z u v q, g x y z u v = some q → w (PDof q) (startE n [x, y, z, u, v])) : Does n w (fn5 g)
  | [x, y, z, u, v], q, e => h x y z u v q e
/-- all arguments of a def with defaults are written -/
theorem bindsAll {K : PySem.W.Frag} {x qual : Str} {params : Arguments} {body : List Stmt} {scope : Scope} {dvs : List V} {kws : List (Str × V)} {f : Addr} {fd : FuncData} {ps : List Str} (F : FunD K x qual params body scope dvs kws f fd)
    (h : ∀ (dV kV doc pm : Value) (an : Option Addr) (cdv ct : Value) (us : List Value), us.length = ps.length → bindArgs (PySem.W.fnOf x qual params body scope dV kV doc pm an cdv ct) ⟨us, []⟩ = pure (ps.zip us)) : Binds K fd ps [] := by
  obtain ⟨oc, od, dV, kV, doc, pm, an, cdv, ct, osl, rfl, _⟩ := F.ex
  exact .all (h dV kV doc pm an cdv ct)
end PT
/-! PT: running meanings by simp. -/
namespace PT
open PySem PySem.Spec PyProof.Rows L2
theorem fmod_pos (i : Int) {j : Int} (h : 0 < j) : i.fmod j = i % j := Int.fmod_eq_emod_of_nonneg i (by omega)
theorem fdiv_pos (i : Int) {j : Int} (h : 0 < j) : i.fdiv j = i / j := Int.fdiv_eq_ediv_of_nonneg i (by omega)
theorem eqD_int (i j : Int) : eqD (.int i) (.int j) = (i == j) := by simp [eqD, toP, PyData.eqv]
theorem eqD_bl (i j : Bool) : eqD (.bl i) (.bl j) = (i == j) := by simp [eqD, toP, PyData.eqv]
theorem fine_int (n : Nat) (i : Int) : fine n (.int i) = true := by cases n <;> rfl
theorem fine_bl (n : Nat) (i : Bool) : fine n (.bl i) = true := by cases n <;> rfl
theorem fine_non (n : Nat) : fine n .non = true := by cases n <;> rfl
theorem fine_tup (n : Nat) (ds : List D) : fine (n + 1) (.tup ds) = ds.all (fine n) := rfl
theorem fine_lst (n : Nat) (ds : List D) : fine (n + 1) (.lst ds) = ds.all (fine n) := rfl
theorem eqR_int (i j : Int) : eqR (.int i) (.int j) = okB (i == j) := by simp [eqR, fine_int, eqD_int]
theorem neR_int (i j : Int) : neR (.int i) (.int j) = okB (!(i == j)) := by simp [neR, fine_int, eqD_int]
theorem eqR_bl (i j : Bool) : eqR (.bl i) (.bl j) = okB (i == j) := by simp [eqR, fine_bl, eqD_bl]
theorem neR_bl (i j : Bool) : neR (.bl i) (.bl j) = okB (!(i == j)) := by simp [neR, fine_bl, eqD_bl]
theorem modR_pos (i : Int) {j : Int} (h : 0 < j) : modD (.int i) (.int j) = okI (i % j) := by
  show (if j ≠ 0 then okI (i.fmod j) else none) = _
  rw [if_pos (by omega), fmod_pos i h]
theorem divR_pos (i : Int) {j : Int} (h : 0 < j) (h2 : j.natAbs.log2 < 9000) : fdivD (.int i) (.int j) = okI (i / j) := by
  show (if divOk j = true then okI (i.fdiv j) else none) = _
  rw [if_pos (by unfold divOk; simp [h2]; omega), fdiv_pos i h]
/-- how the body runs: one step of simp -/
local macro_rules | `(tactic| walk_at "pt") => `(tactic| simp only [wSeq, wSet, wOwn, wRet, wRetN, wRetV, wIf, wExpr, wApp, wRaise, wBreak, wCont, wFrz, wFor, wAsg, wPar, wNop, wR, wRB, wRL, eVar, eC, e1, e2, aNil, aCons, eCall, tupR, lstR, eTup, eLst, eIte, eLenO, eIxO,
  cT, cAnd, cOr, cNot, andV, orV, notD, truR, truD, bindR, bindRB, bindRL, bindL, bindB, bindBB, bindLL, toD, okD, okI, okB, gN, gNil, gCons, gTup, gLs, PDof, itA, itD, itemsOf,
  List.getElem?_cons_zero, List.getElem?_cons_succ, List.set_cons_zero, List.set_cons_succ, startE, List.map_cons, List.map_nil, List.length_cons, List.length_nil, List.replicate, List.cons_append, List.nil_append, List.append_nil,
  Nat.zero_add, Nat.reduceAdd, Nat.reduceSub, Nat.reduceLeDiff, if_true, if_false, ite_true, ite_false, Bool.false_eq_true, reduceIte,
  addD, subD, negD, ltR, leR, gtR, geR, eqR_int, neR_int, eqR_bl, neR_bl, absR, lenR, max2R, min2R, intR])
/-! ### the greatest shared number -/
theorem gcd_step (a b : Nat) (h : b ≠ 0) : Nat.gcd b (a % b) = Nat.gcd a b := by
  rw [Nat.gcd_comm a b, Nat.gcd_rec b a, Nat.gcd_comm]
end PT
/-! PT: helpers for the mathematics of the laws. -/
namespace PT
open PySem (Str)
/-! ### a law's own function -/
open Classical in
noncomputable def gLaw (x : D) : Option R := if ∃ ns : List Int, ns.length ≤ 63 ∧ x = .scr (ns.map D.int) then okB true else none
theorem gLaw_inv {x : D} {q : R} (h : gLaw x = some q) : ∃ ns : List Int, ns.length ≤ 63 ∧ x = .scr (ns.map D.int) ∧ q = .ok (.d (.bl true)) := by
  unfold gLaw at h
  split at h
  · rename_i e
    obtain ⟨ns, h1, h2⟩ := e
    exact ⟨ns, h1, h2, (Option.some.inj h).symm⟩
  · cases h
theorem gLaw_true (ns : List Int) (h : ns.length ≤ 63) : fn1 gLaw [.scr (ns.map D.int)] = some (.ok (.d (.bl true))) := by
  show gLaw _ = _
  unfold gLaw
  rw [if_pos ⟨ns, h, rfl⟩]
  rfl
theorem intsOf_map : ∀ ns : List Int, intsOf (ns.map D.int) = some ns
  | [] => rfl
  | n :: ns => by
    show (match intsOf (ns.map D.int) with
      | some bs => some (n :: bs)
      | none => none) = _
    rw [intsOf_map ns]
theorem blsOf_map : ∀ ns : List Bool, blsOf (ns.map D.bl) = some ns
  | [] => rfl
  | n :: ns => by
    show (match blsOf (ns.map D.bl) with
      | some bs => some (n :: bs)
      | none => none) = _
    rw [blsOf_map ns]
/-! ### statements, one after another -/
section
variable {P : PD} {ρ : En} {a b w : SF} {f : EF} {c : CF} {i j : Nat} {v v0 v1 : D} {sv : SV} {t : Bool} {x y : Int}
theorem q_set (h : f ρ = some (.ok (.d v))) (k : b P (ρ.set i (some (.d v)))) : wSeq (wSet i f) b P ρ := by
  show wR (f ρ) _ _
  rw [h]
  exact k
theorem z_set (h : f ρ = some (.ok (.d v))) (k : P.nx (ρ.set i (some (.d v)))) : wSet i f P ρ := by
  show wR (f ρ) _ _
  rw [h]
  exact k
theorem z_ret (h : f ρ = some (.ok sv)) (k : P.rt sv) : wRet f P ρ := by
  show wR (f ρ) _ _
  rw [h]
  exact k
theorem z_if (h : c ρ = some (.ok t)) (k1 : t = true → a P ρ) (k2 : t = false → b P ρ) : wIf c a b P ρ := by
  show wRB (c ρ) _ _
  rw [h]
  cases t with
  | true => exact k1 rfl
  | false => exact k2 rfl
theorem q_if (h : c ρ = some (.ok t)) (k1 : t = true → a { P with nx := fun ρ' => w P ρ' } ρ) (k2 : t = false → b { P with nx := fun ρ' => w P ρ' } ρ) : wSeq (wIf c a b) w P ρ := z_if h k1 k2
/-- if c: return e; then the rest -/
theorem q_ifret (h : c ρ = some (.ok t)) (k1 : t = true → f ρ = some (.ok sv) ∧ P.rt sv) (k2 : t = false → w P ρ) : wSeq (wIf c (wRet f) wNop) w P ρ :=
  z_if h (fun e => z_ret (k1 e).1 (k1 e).2) k2
/-- if c: name = e; then the rest: the value joined -/
theorem q_ifset (h : c ρ = some (.ok t)) (h0 : ρ[i]? = some (some (.d (.int y)))) (h1 : t = true → f ρ = some (.ok (.d (.int x)))) (k : w P (ρ.set i (some (.d (.int (if t = true then x else y)))))) : wSeq (wIf c (wSet i f) wNop) w P ρ := by
  refine z_if h (fun e => z_set (h1 e) ?_) fun e => ?_
  · rw [if_pos e] at k
    exact k
  · rw [if_neg (by rw [e]; exact Bool.false_ne_true)] at k
    have e2 : ρ.set i (some (.d (.int y))) = ρ := by
      apply List.ext_getElem?
      intro j
      by_cases hij : i = j
      · subst hij; rw [List.getElem?_set_self (List.getElem?_eq_some_iff.mp h0).1, h0]
      · rw [List.getElem?_set_ne hij]
    rw [e2] at k
    exact k
theorem q_par {fa : AF} {x y : D} (h : fa ρ = some (.ok [x, y])) (k : b P ((ρ.set i (some (.d x))).set j (some (.d y)))) : wSeq (wPar i j fa) b P ρ := by
  show wRL (fa ρ) _ _
  rw [h]
  exact k
theorem z_par {fa : AF} {x y : D} (h : fa ρ = some (.ok [x, y])) (k : P.nx ((ρ.set i (some (.d x))).set j (some (.d y)))) : wPar i j fa P ρ := by
  show wRL (fa ρ) _ _
  rw [h]
  exact k
theorem q_asg {g : GF} {ρ' : En} (h : f ρ = some (.ok sv)) (h2 : g (toD sv) ρ = some ρ') (k : b P ρ') : wSeq (wAsg f g) b P ρ := by
  show wR (f ρ) _ _
  rw [h]
  show (match g (toD sv) ρ with
    | some ρ' => b P ρ'
    | none => False)
  rw [h2]
  exact k
theorem z_for {it : AF} {g : GF} {ds : List D} (h : it ρ = some (.ok ds)) (k : wForL g b P ds ρ) : wFor it g b P ρ := by
  show wRL (it ρ) _ _
  rw [h]
  exact k
theorem q_for {it : AF} {g : GF} {ds : List D} (h : it ρ = some (.ok ds)) (k : wForL g b { P with nx := fun ρ' => w P ρ' } ds ρ) : wSeq (wFor it g b) w P ρ := z_for h k
theorem q_while (h : ∃ n, wWhileN c b { P with nx := fun ρ' => w P ρ' } n ρ) : wSeq (wWhile c b) w P ρ := h
theorem while_go {n : Nat} (h : c ρ = some (.ok true)) (k : b { P with nx := wWhileN c b P n, ct := wWhileN c b P n, bk := P.nx } ρ) : wWhileN c b P (n + 1) ρ := by
  show wRB (c ρ) _ _
  rw [h]
  exact k
theorem while_end {n : Nat} (h : c ρ = some (.ok false)) (k : P.nx ρ) : wWhileN c b P (n + 1) ρ := by
  show wRB (c ρ) _ _
  rw [h]
  exact k
end
/-! ### loops -/
/-- a for loop keeps I: the body, from any state of I, leads to what I leads to -/
theorem forL {g : GF} {b : SF} {P : PD} (I : En → Prop) : ∀ (ds : List D) (ρ : En), (∀ ρ, I ρ → P.nx ρ) → (∀ d ρ (K : En → Prop), d ∈ ds → I ρ → (∀ ρ', I ρ' → K ρ') → ∃ ρ1, g d ρ = some ρ1 ∧ b { P with nx := K, ct := K, bk := P.nx } ρ1) → I ρ → wForL g b P ds ρ
  | [], ρ, h0, _, h => h0 ρ h
  | d :: ds, ρ, h0, hs, h => by
    obtain ⟨ρ1, e, q⟩ := hs d ρ (wForL g b P ds) (List.mem_cons_self) h (fun ρ' h' => forL I ds ρ' h0 (fun d ρ K hd => hs d ρ K (List.mem_cons_of_mem _ hd)) h')
    show (match g d ρ with
      | some ρ1 => b { P with nx := wForL g b P ds, ct := wForL g b P ds, bk := P.nx } ρ1
      | none => False)
    rw [e]
    exact q
/-- .. by the number of the turn -/
theorem forN {g : GF} {b : SF} {P : PD} (I : Nat → En → Prop) : ∀ (ds : List D) (i : Nat) (ρ : En), (∀ ρ, I (i + ds.length) ρ → P.nx ρ) → (∀ (j : Nat) d ρ (K : En → Prop), ds[j]? = some d → I (i + j) ρ → (∀ ρ', I (i + j + 1) ρ' → K ρ') → ∃ ρ1, g d ρ = some ρ1 ∧ b { P with nx := K, ct := K, bk := P.nx } ρ1) → I i ρ → wForL g b P ds ρ
  | [], i, ρ, h0, _, h => h0 ρ h
  | d :: ds, i, ρ, h0, hs, h => by
    obtain ⟨ρ1, e, q⟩ := hs 0 d ρ (wForL g b P ds) rfl h (fun ρ' h' => forN I ds (i + 1) ρ' (fun ρ h => h0 ρ (by rw [List.length_cons]; rw [show i + (ds.length + 1) = i + 1 + ds.length by omega]; exact h))
      (fun j d ρ K hd hi hk => hs (j + 1) d ρ K (by simpa using hd) (by rw [show i + (j + 1) = i + 1 + j by omega]; exact hi) (fun ρ' h' => hk ρ' (by rw [show i + 1 + j + 1 = i + (j + 1) + 1 by omega]; exact h'))) h')
    show (match g d ρ with
      | some ρ1 => b { P with nx := wForL g b P ds, ct := wForL g b P ds, bk := P.nx } ρ1
      | none => False)
    rw [e]
    exact q
theorem mem_rangeC {lo c : Int} {n : Nat} {d : D} (h : d ∈ rangeC lo c n) : ∃ k : Nat, k < n ∧ d = .int (lo + k * c) := by
  unfold rangeC at h
  obtain ⟨k, hk, e⟩ := List.mem_map.mp h
  exact ⟨k, List.mem_range.mp hk, e.symm⟩
theorem mem_rangeD {lo : Int} {n : Nat} {d : D} (h : d ∈ rangeD lo n) : ∃ k : Nat, k < n ∧ d = .int (lo + k) := by
  unfold rangeD at h
  obtain ⟨k, hk, e⟩ := List.mem_map.mp h
  exact ⟨k, List.mem_range.mp hk, e.symm⟩
/-! ### sizes: B n x, x has at most n bits -/
def B (n : Nat) (x : Int) : Prop := x.natAbs < 2 ^ n
theorem B.mono {m n : Nat} {x : Int} (h : B m x) (l : m ≤ n) : B n x := Nat.lt_of_lt_of_le h (Nat.pow_le_pow_right (by decide) l)
theorem B.log {n : Nat} {x : Int} (h : B n x) : x.natAbs.log2 ≤ n := by
  by_cases h0 : x.natAbs = 0
  · rw [h0]; simp
  · exact Nat.le_of_lt ((Nat.log2_lt h0).mpr h)
theorem B.mulOk {m n : Nat} {x y : Int} (h : B m x) (k : B n y) (l : m + n < 4000000) : mulOk x y = true := by
  have := h.log
  have := k.log
  unfold PT.mulOk
  rw [Bool.or_eq_true]
  exact .inl (decide_eq_true (by omega))
theorem mulS {x y : Int} {n : Nat} (k : B n y) (l : n < 60) : mulD (.int x) (.int y) = okI (x * y) := by
  have := k.log
  show (if PT.mulOk x y = true then _ else _) = _
  rw [if_pos (by unfold PT.mulOk; rw [Bool.or_eq_true]; exact .inr (decide_eq_true (by omega)))]
theorem B.divOk {n : Nat} {y : Int} (h : B n y) (h0 : y ≠ 0) (l : n < 9000) : divOk y = true := by
  have := h.log
  unfold PT.divOk
  rw [decide_eq_true h0, decide_eq_true (by omega)]
  rfl
theorem B.add {m n k : Nat} {x y : Int} (h : B m x) (g : B n y) (l : max m n + 1 ≤ k) : B k (x + y) := by
  have h1 : x.natAbs < 2 ^ (max m n) := B.mono h (by omega)
  have h2 : y.natAbs < 2 ^ (max m n) := B.mono g (by omega)
  refine B.mono (m := max m n + 1) ?_ l
  show (x + y).natAbs < 2 ^ (max m n + 1)
  rw [Nat.pow_succ]
  omega
theorem B.neg {n : Nat} {x : Int} (h : B n x) : B n (-x) := by
  show (-x).natAbs < _
  rw [Int.natAbs_neg]; exact h
theorem B.sub {m n k : Nat} {x y : Int} (h : B m x) (g : B n y) (l : max m n + 1 ≤ k) : B k (x - y) := by
  rw [Int.sub_eq_add_neg]; exact h.add g.neg l
theorem B.mul {m n k : Nat} {x y : Int} (h : B m x) (g : B n y) (l : m + n ≤ k) : B k (x * y) := by
  refine B.mono (m := m + n) ?_ l
  show (x * y).natAbs < 2 ^ (m + n)
  rw [Int.natAbs_mul, Nat.pow_add]
  exact Nat.mul_lt_mul'' h g
theorem B.le {n : Nat} {x y : Int} (h : B n y) (l : x.natAbs ≤ y.natAbs) : B n x := Nat.lt_of_le_of_lt l h
theorem B.of {n : Nat} {x : Int} (h : -(2 ^ n : Nat) < x) (k : x < (2 ^ n : Nat)) : B n x := by
  show x.natAbs < 2 ^ n
  omega
theorem B.mod {n : Nat} {x y : Int} (h : B n y) (h0 : 0 < y) : B n (x % y) := h.le (by
  have := Int.emod_nonneg x (show y ≠ 0 by omega)
  have := Int.emod_lt_of_pos x h0
  omega)
theorem B.div {n : Nat} {x y : Int} (h : B n x) (hx : 0 ≤ x) (hy : 0 < y) : B n (x / y) := h.le (by
  have h1 := Int.ediv_nonneg hx (Int.le_of_lt hy)
  have h2 := Int.ediv_le_self y hx
  omega)
theorem mulR {m n : Nat} {x y : Int} (h : B m x) (k : B n y) (l : m + n < 4000000) : mulD (.int x) (.int y) = okI (x * y) := by
  show (if mulOk x y = true then okI (x * y) else none) = _
  rw [if_pos (h.mulOk k l)]
theorem powR {x y : Int} {n : Nat} (h : powOk x y = true) (e : y.toNat = n := by rfl) : powD (.int x) (.int y) = okI (x ^ n) := by
  show (if powOk x y = true then okI (x ^ y.toNat) else none) = _
  rw [if_pos h, e]
theorem divR {x y : Int} {n : Nat} (hy : 0 < y) (h : B n y) (l : n < 9000) : fdivD (.int x) (.int y) = okI (x / y) := by
  show (if divOk y = true then okI (x.fdiv y) else none) = _
  rw [if_pos (h.divOk (by omega) l), fdiv_pos x hy]
theorem modR {x y : Int} (hy : 0 < y) : modD (.int x) (.int y) = okI (x % y) := modR_pos x hy
/-! sizes by instances -/
class Bd (x : Int) (n : outParam Nat) : Prop where
  b : B n x
instance (k : Nat) : Bd (no_index (OfNat.ofNat k)) (k.log2 + 1) := ⟨by
  show (Int.natAbs (OfNat.ofNat k)) < _
  have e : (Int.natAbs (OfNat.ofNat k)) = k := rfl
  rw [e]
  exact Nat.lt_log2_self⟩
instance {x y : Int} {m n : Nat} [h : Bd x m] [g : Bd y n] : Bd (x + y) (max m n + 1) := ⟨h.b.add g.b (Nat.le_refl _)⟩
instance {x y : Int} {m n : Nat} [h : Bd x m] [g : Bd y n] : Bd (x - y) (max m n + 1) := ⟨h.b.sub g.b (Nat.le_refl _)⟩
instance {x y : Int} {m n : Nat} [h : Bd x m] [g : Bd y n] : Bd (x * y) (m + n) := ⟨h.b.mul g.b (Nat.le_refl _)⟩
instance {x : Int} {m : Nat} [h : Bd x m] : Bd (-x) m := ⟨h.b.neg⟩
instance {x y : Int} {m n : Nat} {c : Prop} [Decidable c] [h : Bd x m] [g : Bd y n] : Bd (if c then x else y) (max m n) := ⟨by
  split
  · exact h.b.mono (by omega)
  · exact g.b.mono (by omega)⟩
theorem B.pow {x : Int} {m : Nat} (h : B m x) : ∀ k : Nat, B (m * k + 1) (x ^ k)
  | 0 => by rw [Int.pow_zero]; show (1 : Int).natAbs < 2 ^ (m * 0 + 1); rw [Nat.mul_zero]; decide
  | k + 1 => by
    rw [Int.pow_succ]
    exact (h.pow k).mul h (by rw [Nat.mul_succ]; omega)
instance {x : Int} {m k : Nat} [h : Bd x m] : Bd (x ^ k) (m * k + 1) := ⟨h.b.pow k⟩
theorem ediv_abs (x y : Int) : (x / y).natAbs ≤ x.natAbs := Int.natAbs_ediv_le_natAbs x y
theorem emod_abs (x : Int) {y : Int} (h : y ≠ 0) : (x % y).natAbs < y.natAbs := by
  have h2 := Int.emod_nonneg x h
  have h3 := Int.emod_lt x h
  omega
instance {x y : Int} {m : Nat} [h : Bd x m] : Bd (x / y) m := ⟨h.b.le (ediv_abs x y)⟩
instance {x : Int} {k : Nat} [NeZero k] : Bd (x % no_index (OfNat.ofNat k)) (k.log2 + 1) := ⟨by
  have h : (OfNat.ofNat k : Int) ≠ 0 := by
    show (k : Int) ≠ 0
    have := NeZero.ne k
    omega
  have := emod_abs x h
  have b : B (k.log2 + 1) (OfNat.ofNat k) := Bd.b
  exact b.le (Nat.le_of_lt this)⟩
theorem mulRi {x y : Int} {m n : Nat} [h : Bd x m] [g : Bd y n] (l : m + n < 4000000) : mulD (.int x) (.int y) = okI (x * y) := mulR h.b g.b l
theorem divRi {x y : Int} {n : Nat} [g : Bd y n] (hy : 0 < y) (l : n < 9000) : fdivD (.int x) (.int y) = okI (x / y) := divR hy g.b l
theorem powRi {x y : Int} (h : powOk x y = true) : powD (.int x) (.int y) = okI (x ^ y.toNat) := by
  show (if powOk x y = true then okI (x ^ y.toNat) else none) = _
  rw [if_pos h]
example (x y : Int) [Bd x 100] : mulD (.int (x * 48271 + 12 % 77)) (.int (x / y)) = okI ((x * 48271 + 12 % 77) * (x / y)) := by
  simp (disch := decide) only [mulRi]
theorem absI (a : Int) : (if a < 0 then -a else a) = (a.natAbs : Int) := by split <;> omega
/-! ### whole numbers told -/
def g_whole : D → Option R
  | .int _ => okB true
  | .raw _ => none
  | _ => okB false
theorem isi_int {x : D} : isiR [x, .raw (.ty "int")] = (match tyD x with
    | some t => okB (t == "int" || t == "bool")
    | none => none) := by
  cases x <;> rfl
theorem isi_bool {x : D} : isiR [x, .raw (.ty "bool")] = (match tyD x with
    | some t => okB (t == "bool")
    | none => none) := by
  cases x <;> rfl
theorem isi_tuple {x : D} : isiR [x, .raw (.ty "tuple")] = (match tyD x with
    | some t => okB (t == "tuple")
    | none => none) := by
  cases x <;> rfl
theorem isi_list {x : D} : isiR [x, .raw (.ty "list")] = (match tyD x with
    | some t => okB (t == "list")
    | none => none) := by
  cases x <;> rfl
theorem ix_nat {ds : List D} {k : Nat} {d : D} (h : ds[k]? = some d) : ixR (.scr ds) (.int k) = okD d := by
  show (match L2.atI ds (k : Int) with
    | some x => okD x
    | none => none) = _
  rw [L2.atI_nat h]
theorem ix_lst {ds : List D} {k : Nat} {d : D} (h : ds[k]? = some d) : ixR (.lst ds) (.int k) = okD d := by
  show (match L2.atI ds (k : Int) with
    | some x => okD x
    | none => none) = _
  rw [L2.atI_nat h]
theorem ix_tup {ds : List D} {k : Nat} {d : D} (h : ds[k]? = some d) : ixR (.tup ds) (.int k) = okD d := by
  show (match L2.atI ds (k : Int) with
    | some x => okD x
    | none => none) = _
  rw [L2.atI_nat h]
theorem range3_step {lo hi c : Int} (h : rng3 lo hi c = true) : range3L [.int lo, .int hi, .int c] = some (.ok (rangeC lo c (PySem.Builtin.Range.rangeSize lo hi c).toNat)) := by
  show (if rng3 lo hi c = true then _ else none) = _
  rw [if_pos h]
end PT
/-! PT: a body has one outcome; so a def's function is the body's outcome. -/
namespace PT
open PySem (Str)
structure Two (P Q : PD) (p : Prop) : Prop where
  nx : ∀ ρ, P.nx ρ → Q.nx ρ → p
  rt : ∀ v, P.rt v → Q.rt v → p
  bk : ∀ ρ, P.bk ρ → Q.bk ρ → p
  ct : ∀ ρ, P.ct ρ → Q.ct ρ → p
  ex : ∀ x o, P.ex x o → Q.ex x o → p
class Det (w : SF) : Prop where
  one : ∀ {P Q : PD} {p : Prop} {ρ : En}, Two P Q p → w P ρ → w Q ρ → p
theorem wR_two {r : Option R} {k k' : SV → Prop} {e e' : Str → Option Int → Prop} {p : Prop} (hk : ∀ v, k v → k' v → p) (he : ∀ x o, e x o → e' x o → p) (h : wR r k e) (h' : wR r k' e') : p := by
  cases r with
  | none => exact h.elim
  | some r => cases r with
    | ok sv => exact hk sv h h'
    | ex x o => exact he x o h h'
theorem wRB_two {r : Option RB} {k k' : Bool → Prop} {e e' : Str → Option Int → Prop} {p : Prop} (hk : ∀ v, k v → k' v → p) (he : ∀ x o, e x o → e' x o → p) (h : wRB r k e) (h' : wRB r k' e') : p := by
  cases r with
  | none => exact h.elim
  | some r => cases r with
    | ok sv => exact hk sv h h'
    | ex x o => exact he x o h h'
theorem wRL_two {r : Option RL} {k k' : List D → Prop} {e e' : Str → Option Int → Prop} {p : Prop} (hk : ∀ v, k v → k' v → p) (he : ∀ x o, e x o → e' x o → p) (h : wRL r k e) (h' : wRL r k' e') : p := by
  cases r with
  | none => exact h.elim
  | some r => cases r with
    | ok sv => exact hk sv h h'
    | ex x o => exact he x o h h'
instance : Det wNop := ⟨fun t h h' => t.nx _ h h'⟩
instance {a b : SF} [A : Det a] [Bb : Det b] : Det (wSeq a b) := ⟨fun {P Q p ρ} t h h' => A.one (P := { P with nx := fun ρ' => b P ρ' }) (Q := { Q with nx := fun ρ' => b Q ρ' }) (ρ := ρ) ⟨fun ρ x y => Bb.one t x y, t.rt, t.bk, t.ct, t.ex⟩ h h'⟩
instance {i : Nat} {f : EF} : Det (wSet i f) := ⟨fun t h h' => wR_two (fun _ => t.nx _) t.ex h h'⟩
instance {i : Nat} {f : EF} : Det (wOwn i f) := ⟨fun t h h' => wR_two (fun _ => t.nx _) t.ex h h'⟩
instance {f : EF} : Det (wRet f) := ⟨fun t h h' => wR_two t.rt t.ex h h'⟩
instance : Det wRetN := ⟨fun t h h' => t.rt _ h h'⟩
instance {i : Nat} : Det (wRetV i) := ⟨fun {P Q p ρ} t h h' => by
  unfold wRetV at h h'
  split at h
  · rename_i e; rw [e] at h'; exact t.rt _ h h'
  · exact h.elim⟩
instance {c : CF} {a b : SF} [A : Det a] [Bb : Det b] : Det (wIf c a b) := ⟨fun t h h' => wRB_two (fun v x y => by
  cases v with
  | true => exact A.one t x y
  | false => exact Bb.one t x y) t.ex h h'⟩
instance {f : EF} : Det (wExpr f) := ⟨fun t h h' => wR_two (fun _ => t.nx _) t.ex h h'⟩
instance {i : Nat} {f : EF} : Det (wApp i f) := ⟨fun {P Q p ρ} t h h' => by
  unfold wApp at h h'
  split at h
  · rename_i e; rw [e] at h'; exact wR_two (fun _ x y => t.nx _ x.2 y.2) t.ex h h'
  · exact h.elim⟩
instance {x : Str} : Det (wRaise x) := ⟨fun t h h' => t.ex _ _ h h'⟩
instance : Det wBreak := ⟨fun t h h' => t.bk _ h h'⟩
instance : Det wCont := ⟨fun t h h' => t.ct _ h h'⟩
instance {i : Nat} {w : SF} [A : Det w] : Det (wFrz i w) := ⟨fun {P Q p ρ} t h h' => by
  unfold wFrz at h h'
  split at h
  · rename_i e; rw [e] at h'; exact A.one t h h'
  · rename_i e
    split at h'
    · rename_i e'; exact (e _ e').elim
    · exact A.one t h h'⟩
theorem det_while {c : CF} {b : SF} [A : Det b] {P Q : PD} {p : Prop} (t : Two P Q p) : ∀ (n m : Nat) (ρ : En), wWhileN c b P n ρ → wWhileN c b Q m ρ → p
  | 0, _, _, h, _ => h.elim
  | _ + 1, 0, _, _, h => h.elim
  | n + 1, m + 1, ρ, h, h' => wRB_two (fun v x y => by
      cases v with
      | true => exact A.one (P := { P with nx := wWhileN c b P n, ct := wWhileN c b P n, bk := P.nx }) (Q := { Q with nx := wWhileN c b Q m, ct := wWhileN c b Q m, bk := Q.nx }) ⟨fun ρ => det_while t n m ρ, t.rt, t.nx, fun ρ => det_while t n m ρ, t.ex⟩ x y
      | false => exact t.nx _ x y) t.ex h h'
instance {c : CF} {b : SF} [A : Det b] : Det (wWhile c b) := ⟨fun t ⟨n, h⟩ ⟨m, h'⟩ => det_while t n m _ h h'⟩
instance {f : EF} {g : GF} : Det (wAsg f g) := ⟨fun {P Q p ρ} t h h' => wR_two (fun v x y => by
  revert x y
  generalize g (toD v) ρ = o
  cases o with
  | some ρ' => exact t.nx _
  | none => exact fun x => x.elim) t.ex h h'⟩
instance {i j : Nat} {fa : AF} : Det (wPar i j fa) := ⟨fun t h h' => wRL_two (fun v x y => by
  revert x y
  split
  · exact t.nx _
  · exact fun x => x.elim) t.ex h h'⟩
theorem det_for {g : GF} {b : SF} [A : Det b] {P Q : PD} {p : Prop} (t : Two P Q p) : ∀ (ds : List D) (ρ : En), wForL g b P ds ρ → wForL g b Q ds ρ → p
  | [], ρ, h, h' => t.nx ρ h h'
  | d :: ds, ρ, h, h' => by
    unfold wForL at h h'
    revert h h'
    generalize g d ρ = o
    cases o with
    | some ρ1 => exact fun h h' => A.one (P := { P with nx := wForL g b P ds, ct := wForL g b P ds, bk := P.nx }) (Q := { Q with nx := wForL g b Q ds, ct := wForL g b Q ds, bk := Q.nx }) ⟨fun ρ => det_for t ds ρ, t.rt, t.nx, fun ρ => det_for t ds ρ, t.ex⟩ h h'
    | none => exact fun x => x.elim
instance {it : AF} {g : GF} {b : SF} [A : Det b] : Det (wFor it g b) := ⟨fun t h h' => wRL_two (fun v x y => det_for t v _ x y) t.ex h h'⟩
/-! ### a def's function -/
open Classical in
/-- k parameters, n slots -/
noncomputable def outF (k n : Nat) (w : SF) : List D → Option R := fun ds =>
  if h : ds.length = k ∧ ∃ r, w (PDof r) (startE n ds) then some h.2.choose else none
theorem outF_len {k n : Nat} {w : SF} : ∀ ds r, outF k n w ds = some r → ds.length = k := fun ds r h => by
  unfold outF at h
  split at h
  · rename_i z; exact z.1
  · cases h
theorem outF_does {k n : Nat} {w : SF} : Does n w (outF k n w) := fun ds r h => by
  unfold outF at h
  split at h
  · rename_i z; cases h; exact z.2.choose_spec
  · cases h
theorem PDof_two (r r' : R) : Two (PDof r) (PDof r') (r = r') :=
  ⟨fun _ x y => x.trans y.symm, fun _ x y => x.trans y.symm, fun _ x => x.elim, fun _ x => x.elim, fun _ _ x y => x.trans y.symm⟩
/-- what a def's function answers: run the body -/
theorem outF_ev {k n : Nat} {w : SF} [A : Det w] {ds : List D} {r : R} (hl : ds.length = k) (h : w (PDof r) (startE n ds)) : outF k n w ds = some r := by
  unfold outF
  have z : ds.length = k ∧ ∃ r, w (PDof r) (startE n ds) := ⟨hl, r, h⟩
  rw [dif_pos z]
  exact congrArg some (A.one (PDof_two _ _) z.2.choose_spec h)
/-! ### from what is shown of the outcome to the outcome -/
structure Le (P Q : PD) : Prop where
  nx : ∀ ρ, P.nx ρ → Q.nx ρ
  rt : ∀ v, P.rt v → Q.rt v
  bk : ∀ ρ, P.bk ρ → Q.bk ρ
  ct : ∀ ρ, P.ct ρ → Q.ct ρ
  ex : ∀ x o, P.ex x o → Q.ex x o
def PDno : PD := ⟨fun _ => False, fun _ => False, fun _ => False, fun _ => False, fun _ _ => False⟩
def PDnx (ρ : En) : PD := { PDno with nx := fun ρ' => ρ' = ρ }
def PDrt (v : SV) : PD := { PDno with rt := fun v' => v' = v }
def PDbk (ρ : En) : PD := { PDno with bk := fun ρ' => ρ' = ρ }
def PDct (ρ : En) : PD := { PDno with ct := fun ρ' => ρ' = ρ }
def PDex (x : Str) (o : Option Int) : PD := { PDno with ex := fun x' o' => x' = x ∧ o' = o }
inductive Pick (P : PD) (S : PD → Prop) : Prop
  | nx (ρ : En) : P.nx ρ → S (PDnx ρ) → Pick P S
  | rt (v : SV) : P.rt v → S (PDrt v) → Pick P S
  | bk (ρ : En) : P.bk ρ → S (PDbk ρ) → Pick P S
  | ct (ρ : En) : P.ct ρ → S (PDct ρ) → Pick P S
  | ex (x : Str) (o : Option Int) : P.ex x o → S (PDex x o) → Pick P S
theorem Pick.map {P : PD} {S T : PD → Prop} (h : Pick P S) (f : ∀ Q, S Q → T Q) : Pick P T := by
  cases h with
  | nx ρ a b => exact .nx ρ a (f _ b)
  | rt ρ a b => exact .rt ρ a (f _ b)
  | bk ρ a b => exact .bk ρ a (f _ b)
  | ct ρ a b => exact .ct ρ a (f _ b)
  | ex x o a b => exact .ex x o a (f _ b)
theorem Le.nx1 {ρ : En} {Q : PD} (h : Q.nx ρ) : Le (PDnx ρ) Q := ⟨fun _ e => by rw [show _ = ρ from e]; exact h, fun _ e => e.elim, fun _ e => e.elim, fun _ e => e.elim, fun _ _ e => e.elim⟩
theorem Le.rt1 {v : SV} {Q : PD} (h : Q.rt v) : Le (PDrt v) Q := ⟨fun _ e => e.elim, fun _ e => by rw [show _ = v from e]; exact h, fun _ e => e.elim, fun _ e => e.elim, fun _ _ e => e.elim⟩
theorem Le.bk1 {ρ : En} {Q : PD} (h : Q.bk ρ) : Le (PDbk ρ) Q := ⟨fun _ e => e.elim, fun _ e => e.elim, fun _ e => by rw [show _ = ρ from e]; exact h, fun _ e => e.elim, fun _ _ e => e.elim⟩
theorem Le.ct1 {ρ : En} {Q : PD} (h : Q.ct ρ) : Le (PDct ρ) Q := ⟨fun _ e => e.elim, fun _ e => e.elim, fun _ e => e.elim, fun _ e => by rw [show _ = ρ from e]; exact h, fun _ _ e => e.elim⟩
theorem Le.ex1 {x : Str} {o : Option Int} {Q : PD} (h : Q.ex x o) : Le (PDex x o) Q := ⟨fun _ e => e.elim, fun _ e => e.elim, fun _ e => e.elim, fun _ e => e.elim, fun _ _ e => by rw [e.1, e.2]; exact h⟩
class Out (w : SF) : Prop where
  mono : ∀ {P Q : PD} {ρ : En}, Le P Q → w P ρ → w Q ρ
  pick : ∀ {P : PD} {ρ : En}, w P ρ → Pick P fun Q => w Q ρ
theorem wR_mono {r : Option R} {k k' : SV → Prop} {e e' : Str → Option Int → Prop} (hk : ∀ v, k v → k' v) (he : ∀ x o, e x o → e' x o) (h : wR r k e) : wR r k' e' := by
  cases r with
  | none => exact h
  | some r => cases r with
    | ok sv => exact hk sv h
    | ex x o => exact he x o h
theorem wRB_mono {r : Option RB} {k k' : Bool → Prop} {e e' : Str → Option Int → Prop} (hk : ∀ v, k v → k' v) (he : ∀ x o, e x o → e' x o) (h : wRB r k e) : wRB r k' e' := by
  cases r with
  | none => exact h
  | some r => cases r with
    | ok sv => exact hk sv h
    | ex x o => exact he x o h
theorem wRL_mono {r : Option RL} {k k' : List D → Prop} {e e' : Str → Option Int → Prop} (hk : ∀ v, k v → k' v) (he : ∀ x o, e x o → e' x o) (h : wRL r k e) : wRL r k' e' := by
  cases r with
  | none => exact h
  | some r => cases r with
    | ok sv => exact hk sv h
    | ex x o => exact he x o h
instance : Out wNop := ⟨fun t h => t.nx _ h, fun h => .nx _ h rfl⟩
instance {a b : SF} [A : Out a] [Bb : Out b] : Out (wSeq a b) := by
  refine ⟨fun {P Q ρ} t h => A.mono (P := { P with nx := fun ρ' => b P ρ' }) ⟨fun ρ => Bb.mono t, t.rt, t.bk, t.ct, t.ex⟩ h, fun {P ρ} h => ?_⟩
  cases A.pick (P := { P with nx := fun ρ' => b P ρ' }) h with
  | nx ρ' x y => exact (Bb.pick (show b P ρ' from x)).map fun Q z => A.mono (Le.nx1 z) y
  | rt v x y => exact .rt v x (A.mono (Le.rt1 rfl) y)
  | bk v x y => exact .bk v x (A.mono (Le.bk1 rfl) y)
  | ct v x y => exact .ct v x (A.mono (Le.ct1 rfl) y)
  | ex v o x y => exact .ex v o x (A.mono (Le.ex1 ⟨rfl, rfl⟩) y)
theorem wR_nx {r : Option R} {P : PD} {k : SV → En} (h : wR r (fun v => P.nx (k v)) P.ex) : Pick P fun Q => wR r (fun v => Q.nx (k v)) Q.ex := by
  cases r with
  | none => exact h.elim
  | some r => cases r with
    | ok sv => exact .nx _ h rfl
    | ex x o => exact .ex x o h ⟨rfl, rfl⟩
instance {i : Nat} {f : EF} : Out (wSet i f) := ⟨fun t h => wR_mono (fun _ => t.nx _) t.ex h, fun {P ρ} h => wR_nx (P := P) (k := fun sv => ρ.set i (some (.d (toD sv)))) h⟩
instance {i : Nat} {f : EF} : Out (wOwn i f) := ⟨fun t h => wR_mono (fun _ => t.nx _) t.ex h, fun {P ρ} h => wR_nx (P := P) (k := fun sv => ρ.set i (some sv)) h⟩
instance {f : EF} : Out (wExpr f) := ⟨fun t h => wR_mono (fun _ => t.nx _) t.ex h, fun {P ρ} h => wR_nx (P := P) (k := fun sv => ρ) h⟩
instance {f : EF} : Out (wRet f) := ⟨fun t h => wR_mono t.rt t.ex h, fun {P ρ} h => by
  show Pick P fun Q => wR (f ρ) Q.rt Q.ex
  have h : wR (f ρ) P.rt P.ex := h
  cases e : f ρ with
  | none => rw [e] at h; exact h.elim
  | some r => rw [e] at h; cases r with
    | ok sv => exact .rt _ h rfl
    | ex x o => exact .ex x o h ⟨rfl, rfl⟩⟩
instance : Out wRetN := ⟨fun t h => t.rt _ h, fun h => .rt _ h rfl⟩
instance {i : Nat} : Out (wRetV i) := by
  refine ⟨fun {P Q ρ} t h => ?_, fun {P ρ} h => ?_⟩
  · have h : (match ρ[i]? with | some (some sv) => P.rt sv | _ => False) := h
    show (match ρ[i]? with | some (some sv) => Q.rt sv | _ => False)
    revert h
    generalize ρ[i]? = o
    rcases o with _ | _ | sv
    · exact id
    · exact id
    · exact t.rt _
  · have h : (match ρ[i]? with | some (some sv) => P.rt sv | _ => False) := h
    show Pick P fun Q => (match ρ[i]? with | some (some sv) => Q.rt sv | _ => False)
    revert h
    generalize ρ[i]? = o
    rcases o with _ | _ | sv
    · exact fun h => h.elim
    · exact fun h => h.elim
    · exact fun h => .rt _ h rfl
instance {c : CF} {a b : SF} [A : Out a] [Bb : Out b] : Out (wIf c a b) := by
  refine ⟨fun {P Q ρ} t h => wRB_mono (fun v => ?_) t.ex h, fun {P ρ} h => ?_⟩
  · cases v with
    | true => exact A.mono t
    | false => exact Bb.mono t
  · show Pick P fun Q => wRB (c ρ) (fun t => if t then a Q ρ else b Q ρ) Q.ex
    have h : wRB (c ρ) (fun t => if t then a P ρ else b P ρ) P.ex := h
    cases e : c ρ with
    | none => rw [e] at h; exact h.elim
    | some r => rw [e] at h; cases r with
      | ok v => cases v with
        | true => exact A.pick h
        | false => exact Bb.pick h
      | ex x o => exact .ex x o h ⟨rfl, rfl⟩
instance {i : Nat} {f : EF} : Out (wApp i f) := by
  refine ⟨fun {P Q ρ} t h => ?_, fun {P ρ} h => ?_⟩
  · have h : (match ρ[i]? with | some (some (.own xs)) => wR (f ρ) (fun sv => xs.length ≤ 1000000 ∧ P.nx (ρ.set i (some (.own (xs ++ [toD sv]))))) P.ex | _ => False) := h
    show (match ρ[i]? with | some (some (.own xs)) => wR (f ρ) (fun sv => xs.length ≤ 1000000 ∧ Q.nx (ρ.set i (some (.own (xs ++ [toD sv]))))) Q.ex | _ => False)
    revert h
    generalize ρ[i]? = o
    rcases o with _ | _ | ⟨x⟩ | ⟨xs⟩
    · exact id
    · exact id
    · exact id
    · exact fun h => wR_mono (fun _ x => ⟨x.1, t.nx _ x.2⟩) t.ex h
  · have h : (match ρ[i]? with | some (some (.own xs)) => wR (f ρ) (fun sv => xs.length ≤ 1000000 ∧ P.nx (ρ.set i (some (.own (xs ++ [toD sv]))))) P.ex | _ => False) := h
    show Pick P fun Q => (match ρ[i]? with | some (some (.own xs)) => wR (f ρ) (fun sv => xs.length ≤ 1000000 ∧ Q.nx (ρ.set i (some (.own (xs ++ [toD sv]))))) Q.ex | _ => False)
    revert h
    generalize ρ[i]? = o
    rcases o with _ | _ | ⟨x⟩ | ⟨xs⟩
    · exact fun h => h.elim
    · exact fun h => h.elim
    · exact fun h => h.elim
    · intro h
      have h : wR (f ρ) (fun sv => xs.length ≤ 1000000 ∧ P.nx (ρ.set i (some (.own (xs ++ [toD sv]))))) P.ex := h
      show Pick P fun Q => wR (f ρ) (fun sv => xs.length ≤ 1000000 ∧ Q.nx (ρ.set i (some (.own (xs ++ [toD sv]))))) Q.ex
      cases e2 : f ρ with
      | none => rw [e2] at h; exact h.elim
      | some r => rw [e2] at h; cases r with
        | ok sv => exact .nx _ h.2 ⟨h.1, rfl⟩
        | ex x o => exact .ex x o h ⟨rfl, rfl⟩
instance {x : Str} : Out (wRaise x) := ⟨fun t h => t.ex _ _ h, fun h => .ex _ _ h ⟨rfl, rfl⟩⟩
instance : Out wBreak := ⟨fun t h => t.bk _ h, fun h => .bk _ h rfl⟩
instance : Out wCont := ⟨fun t h => t.ct _ h, fun h => .ct _ h rfl⟩
instance {i : Nat} {w : SF} [A : Out w] : Out (wFrz i w) := by
  refine ⟨fun {P Q ρ} t h => ?_, fun {P ρ} h => ?_⟩
  · unfold wFrz at h ⊢
    revert h
    split <;> exact A.mono t
  · unfold wFrz at h ⊢
    revert h
    split <;> exact A.pick
theorem while_mono {c : CF} {b : SF} [A : Out b] {P Q : PD} (t : Le P Q) : ∀ (n : Nat) (ρ : En), wWhileN c b P n ρ → wWhileN c b Q n ρ
  | 0, _, h => h
  | n + 1, ρ, h => wRB_mono (fun v x => by
      cases v with
      | true => exact A.mono (P := { P with nx := wWhileN c b P n, ct := wWhileN c b P n, bk := P.nx }) ⟨while_mono t n, t.rt, t.nx, while_mono t n, t.ex⟩ x
      | false => exact t.nx _ x) t.ex h
theorem while_pick {c : CF} {b : SF} [A : Out b] {P : PD} : ∀ (n : Nat) (ρ : En), wWhileN c b P n ρ → Pick P fun Q => ∃ m, wWhileN c b Q m ρ
  | 0, _, h => h.elim
  | n + 1, ρ, h => by
    have h : wRB (c ρ) (fun t => if t then b { P with nx := wWhileN c b P n, ct := wWhileN c b P n, bk := P.nx } ρ else P.nx ρ) P.ex := h
    have up : ∀ (Q : PD) (m : Nat) , c ρ = some (.ok true) → b { Q with nx := wWhileN c b Q m, ct := wWhileN c b Q m, bk := Q.nx } ρ → wWhileN c b Q (m + 1) ρ := fun Q m e z => by
      show wRB (c ρ) _ _
      rw [e]
      exact z
    cases e : c ρ with
    | none => rw [e] at h; exact h.elim
    | some r => rw [e] at h; cases r with
      | ex x o => exact .ex x o h ⟨1, by show wRB (c ρ) _ _; rw [e]; exact ⟨rfl, rfl⟩⟩
      | ok v => cases v with
        | false => exact .nx ρ h ⟨1, by show wRB (c ρ) _ _; rw [e]; exact rfl⟩
        | true =>
          have h : b { P with nx := wWhileN c b P n, ct := wWhileN c b P n, bk := P.nx } ρ := h
          cases A.pick h with
          | nx ρ' x y => exact (while_pick n ρ' x).map fun Q ⟨m, z⟩ => ⟨m + 1, up Q m e (A.mono (Le.nx1 z) y)⟩
          | ct ρ' x y => exact (while_pick n ρ' x).map fun Q ⟨m, z⟩ => ⟨m + 1, up Q m e (A.mono (Le.ct1 z) y)⟩
          | bk ρ' x y => exact .nx ρ' x ⟨1, up _ 0 e (A.mono (Le.bk1 rfl) y)⟩
          | rt v x y => exact .rt v x ⟨1, up _ 0 e (A.mono (Le.rt1 rfl) y)⟩
          | ex v o x y => exact .ex v o x ⟨1, up _ 0 e (A.mono (Le.ex1 ⟨rfl, rfl⟩) y)⟩
instance {c : CF} {b : SF} [A : Out b] : Out (wWhile c b) := ⟨fun t ⟨n, h⟩ => ⟨n, while_mono t n _ h⟩, fun ⟨n, h⟩ => while_pick n _ h⟩
instance {f : EF} {g : GF} : Out (wAsg f g) := by
  refine ⟨fun {P Q ρ} t h => wR_mono (fun v x => ?_) t.ex h, fun {P ρ} h => ?_⟩
  · revert x
    generalize g (toD v) ρ = o
    cases o with
    | some ρ' => exact t.nx _
    | none => exact id
  · show Pick P fun Q => wR (f ρ) (fun sv => match g (toD sv) ρ with
      | some ρ' => Q.nx ρ'
      | none => False) Q.ex
    have h : wR (f ρ) (fun sv => match g (toD sv) ρ with
      | some ρ' => P.nx ρ'
      | none => False) P.ex := h
    cases e : f ρ with
    | none => rw [e] at h; exact h.elim
    | some r => rw [e] at h; cases r with
      | ex x o => exact .ex x o h ⟨rfl, rfl⟩
      | ok v =>
        have h : (match g (toD v) ρ with
          | some ρ' => P.nx ρ'
          | none => False) := h
        show Pick P fun Q => (match g (toD v) ρ with
          | some ρ' => Q.nx ρ'
          | none => False)
        revert h
        generalize g (toD v) ρ = o
        cases o with
        | some ρ' => exact fun h => .nx _ h rfl
        | none => exact fun h => h.elim
instance {i j : Nat} {fa : AF} : Out (wPar i j fa) := by
  refine ⟨fun {P Q ρ} t h => wRL_mono (fun v x => ?_) t.ex h, fun {P ρ} h => ?_⟩
  · revert x
    split
    · exact t.nx _
    · exact id
  · have h : wRL (fa ρ) (fun ds => match ds with
      | [x, y] => P.nx ((ρ.set i (some (.d x))).set j (some (.d y)))
      | _ => False) P.ex := h
    show Pick P fun Q => wRL (fa ρ) (fun ds => match ds with
      | [x, y] => Q.nx ((ρ.set i (some (.d x))).set j (some (.d y)))
      | _ => False) Q.ex
    cases e : fa ρ with
    | none => rw [e] at h; exact h.elim
    | some r => rw [e] at h; cases r with
      | ex x o => exact .ex x o h ⟨rfl, rfl⟩
      | ok v => match v, h with
        | [x, y], h => exact .nx _ h rfl
theorem for_mono {g : GF} {b : SF} [A : Out b] {P Q : PD} (t : Le P Q) : ∀ (ds : List D) (ρ : En), wForL g b P ds ρ → wForL g b Q ds ρ
  | [], ρ, h => t.nx ρ h
  | d :: ds, ρ, h => by
    unfold wForL at h ⊢
    revert h
    generalize g d ρ = o
    cases o with
    | some ρ1 => exact fun h => A.mono (P := { P with nx := wForL g b P ds, ct := wForL g b P ds, bk := P.nx }) ⟨for_mono t ds, t.rt, t.nx, for_mono t ds, t.ex⟩ h
    | none => exact id
theorem for_pick {g : GF} {b : SF} [A : Out b] {P : PD} : ∀ (ds : List D) (ρ : En), wForL g b P ds ρ → Pick P fun Q => wForL g b Q ds ρ
  | [], ρ, h => .nx ρ h rfl
  | d :: ds, ρ, h => by
    unfold wForL at h ⊢
    revert h
    generalize g d ρ = o
    cases o with
    | none => exact fun h => h.elim
    | some ρ1 =>
      intro h
      have h : b { P with nx := wForL g b P ds, ct := wForL g b P ds, bk := P.nx } ρ1 := h
      cases A.pick h with
      | nx ρ' x y => exact (for_pick ds ρ' x).map fun Q z => A.mono (Le.nx1 z) y
      | ct ρ' x y => exact (for_pick ds ρ' x).map fun Q z => A.mono (Le.ct1 z) y
      | bk ρ' x y => exact .nx ρ' x (A.mono (Le.bk1 rfl) y)
      | rt v x y => exact .rt v x (A.mono (Le.rt1 rfl) y)
      | ex v o x y => exact .ex v o x (A.mono (Le.ex1 ⟨rfl, rfl⟩) y)
instance {it : AF} {g : GF} {b : SF} [A : Out b] : Out (wFor it g b) := by
  refine ⟨fun {P Q ρ} t h => wRL_mono (fun v => for_mono t v _) t.ex h, fun {P ρ} h => ?_⟩
  show Pick P fun Q => wRL (it ρ) (fun ds => wForL g b Q ds ρ) Q.ex
  have h : wRL (it ρ) (fun ds => wForL g b P ds ρ) P.ex := h
  cases e : it ρ with
  | none => rw [e] at h; exact h.elim
  | some r => rw [e] at h; cases r with
    | ex x o => exact .ex x o h ⟨rfl, rfl⟩
    | ok v => exact for_pick v ρ h
/-- a def's answer has Φ -/
def PDp (Φ : R → Prop) : PD := { nx := fun _ => Φ (.ok (.d .non)), rt := fun sv => Φ (.ok sv), bk := fun _ => False, ct := fun _ => False, ex := fun x p => Φ (.ex x p) }
theorem outF_post {k n : Nat} {w : SF} [Det w] [A : Out w] {ds : List D} {Φ : R → Prop} (hl : ds.length = k) (h : w (PDp Φ) (startE n ds)) : ∃ r, outF k n w ds = some r ∧ Φ r := by
  cases A.pick h with
  | nx ρ x y => exact ⟨_, outF_ev (r := .ok (.d .non)) hl (A.mono (Le.nx1 rfl) y), x⟩
  | rt v x y => exact ⟨_, outF_ev (r := .ok v) hl (A.mono (Le.rt1 rfl) y), x⟩
  | bk _ x _ => exact x.elim
  | ct _ x _ => exact x.elim
  | ex v o x y => exact ⟨_, outF_ev (r := .ex v o) hl (A.mono (Le.ex1 rfl) y), x⟩
theorem postI {k n : Nat} {w : SF} [Det w] [A : Out w] {ds : List D} {Q : Int → Prop} (hl : ds.length = k) (h : w (PDp fun r => ∃ x, Q x ∧ r = .ok (.d (.int x))) (startE n ds)) : ∃ x, Q x ∧ outF k n w ds = okI x := by
  obtain ⟨r, e, x, hx, rfl⟩ := outF_post hl h
  exact ⟨x, hx, e⟩
theorem postD {k n : Nat} {w : SF} [Det w] [A : Out w] {ds : List D} {Q : D → Prop} (hl : ds.length = k) (h : w (PDp fun r => ∃ x, Q x ∧ r = .ok (.d x)) (startE n ds)) : ∃ x, Q x ∧ outF k n w ds = okD x := by
  obtain ⟨r, e, x, hx, rfl⟩ := outF_post hl h
  exact ⟨x, hx, e⟩
/-- an if whose ends have I in common -/
theorem q_ifJ {P : PD} {ρ : En} {c : CF} {a b w : SF} {t : Bool} (I : En → Prop) (h : c ρ = some (.ok t)) (k : ∀ ρ', I ρ' → w P ρ') (k1 : ∀ K : En → Prop, (∀ ρ', I ρ' → K ρ') → t = true → a { P with nx := K } ρ) (k2 : ∀ K : En → Prop, (∀ ρ', I ρ' → K ρ') → t = false → b { P with nx := K } ρ) : wSeq (wIf c a b) w P ρ :=
  q_if h (k1 _ k) (k2 _ k)
/-- an if without else, which leaves the body -/
theorem q_ifN {P : PD} {ρ : En} {c : CF} {a w : SF} {t : Bool} (h : c ρ = some (.ok t)) (k1 : t = true → a { P with nx := fun ρ' => w P ρ' } ρ) (k2 : t = false → w P ρ) : wSeq (wIf c a wNop) w P ρ :=
  q_if h k1 k2
/-- a for loop that keeps I, and what follows it -/
theorem q_forL {P : PD} {ρ : En} {it : AF} {g : GF} {b w : SF} {ds : List D} (I : En → Prop) (h : it ρ = some (.ok ds)) (h1 : I ρ) (h2 : ∀ ρ, I ρ → w P ρ) (h3 : ∀ d ρ (K : En → Prop), d ∈ ds → I ρ → (∀ ρ', I ρ' → K ρ') → ∃ ρ1, g d ρ = some ρ1 ∧ b { P with nx := K, ct := K, bk := fun ρ' => w P ρ' } ρ1) : wSeq (wFor it g b) w P ρ :=
  q_for h (forL I ds ρ h2 h3 h1)
theorem q_forN {P : PD} {ρ : En} {it : AF} {g : GF} {b w : SF} {ds : List D} (I : Nat → En → Prop) (h : it ρ = some (.ok ds)) (h1 : I 0 ρ) (h2 : ∀ ρ, I ds.length ρ → w P ρ) (h3 : ∀ (j : Nat) d ρ (K : En → Prop), ds[j]? = some d → I j ρ → (∀ ρ', I (j + 1) ρ' → K ρ') → ∃ ρ1, g d ρ = some ρ1 ∧ b { P with nx := K, ct := K, bk := fun ρ' => w P ρ' } ρ1) : wSeq (wFor it g b) w P ρ :=
  q_for h (forN I ds 0 ρ (fun ρ z => h2 ρ (by rw [Nat.zero_add] at z; exact z)) (fun j d ρ K hd hi hk => h3 j d ρ K hd (by rw [Nat.zero_add] at hi; exact hi) (fun ρ' z => hk ρ' (by rw [Nat.zero_add]; exact z))) h1)
/-- .. at the end of a body -/
theorem z_forL {P : PD} {ρ : En} {it : AF} {g : GF} {b : SF} {ds : List D} (I : En → Prop) (h : it ρ = some (.ok ds)) (h1 : I ρ) (h2 : ∀ ρ, I ρ → P.nx ρ) (h3 : ∀ d ρ (K : En → Prop), d ∈ ds → I ρ → (∀ ρ', I ρ' → K ρ') → ∃ ρ1, g d ρ = some ρ1 ∧ b { P with nx := K, ct := K, bk := P.nx } ρ1) : wFor it g b P ρ :=
  z_for h (forL I ds ρ h2 h3 h1)
end PT
/-! PM: fractions as data; sizes. -/
namespace PT
open PySem (Str)
def fr (q : Rat) : D := .tup [.int q.num, .int q.den]
theorem ix_fr0 (q : Rat) : ixR (fr q) (.int 0) = okD (.int q.num) := rfl
theorem ix_fr1 (q : Rat) : ixR (fr q) (.int 1) = okD (.int q.den) := rfl
theorem fr_inj {q r : Rat} (h : fr q = fr r) : q = r := by
  unfold fr at h
  injection h with h
  injection h with h1 h
  injection h with h2 _
  injection h1 with h1
  injection h2 with h2
  exact Rat.ext h1 (by omega)
theorem eqD_pair (a b c d : Int) : eqD (.tup [.int a, .int b]) (.tup [.int c, .int d]) = (a == c && b == d) := by
  simp [eqD, toP, toPs, PySem.PyData.eqv, PySem.PyData.eqvAll]
theorem eqD_fr (q r : Rat) : eqD (fr q) (fr r) = decide (q = r) := by
  unfold fr
  rw [eqD_pair, Bool.eq_iff_iff]
  simp only [Bool.and_eq_true, beq_iff_eq, decide_eq_true_eq]
  constructor
  · rintro ⟨h1, h2⟩; exact Rat.ext h1 (by omega)
  · rintro rfl; exact ⟨rfl, rfl⟩
theorem fine_fr (n : Nat) (q : Rat) : fine (n + 1) (fr q) = true := by
  unfold fr
  rw [fine_tup]
  simp [fine_int]
theorem eqR_fr (q r : Rat) : eqR (fr q) (fr r) = okB (decide (q = r)) := by
  simp [eqR, fine_fr, eqD_fr]
theorem neR_fr (q r : Rat) : neR (fr q) (fr r) = okB (!decide (q = r)) := by
  simp [neR, fine_fr, eqD_fr]
theorem eqR_pair (a b c d : Int) : eqR (.tup [.int a, .int b]) (.tup [.int c, .int d]) = okB (a == c && b == d) := by
  simp [eqR, fine_tup, fine_int, eqD_pair]
/-- a table -/
structure Tb where
  a : Rat
  b : Rat
  c : Rat
  d : Rat
deriving DecidableEq
def tb (t : Tb) : D := .tup [fr t.a, fr t.b, fr t.c, fr t.d]
theorem ix_tb0 (t : Tb) : ixR (tb t) (.int 0) = okD (fr t.a) := rfl
theorem ix_tb1 (t : Tb) : ixR (tb t) (.int 1) = okD (fr t.b) := rfl
theorem ix_tb2 (t : Tb) : ixR (tb t) (.int 2) = okD (fr t.c) := rfl
theorem ix_tb3 (t : Tb) : ixR (tb t) (.int 3) = okD (fr t.d) := rfl
theorem eqD_tup4 (a b c d a' b' c' d' : D) : eqD (.tup [a, b, c, d]) (.tup [a', b', c', d']) = (eqD a a' && (eqD b b' && (eqD c c' && eqD d d'))) := by
  simp [eqD, toP, toPs, PySem.PyData.eqv, PySem.PyData.eqvAll]
theorem eqD_tb (s t : Tb) : eqD (tb s) (tb t) = decide (s = t) := by
  unfold tb
  rw [eqD_tup4, eqD_fr, eqD_fr, eqD_fr, eqD_fr, Bool.eq_iff_iff]
  cases s; cases t
  simp
theorem fine_tb (n : Nat) (t : Tb) : fine (n + 2) (tb t) = true := by
  unfold tb
  rw [fine_tup]
  simp [fine_fr]
theorem eqR_tb (s t : Tb) : eqR (tb s) (tb t) = okB (decide (s = t)) := by
  simp [eqR, fine_tb, eqD_tb]
theorem neR_tb (s t : Tb) : neR (tb s) (tb t) = okB (!decide (s = t)) := by
  simp [neR, fine_tb, eqD_tb]
theorem tb_mk (a b c d : Rat) : D.tup [fr a, fr b, fr c, fr d] = tb ⟨a, b, c, d⟩ := rfl
/-! ### lowest terms -/
/-- t / b in lowest terms -/
theorem low_num {t b : Int} (hb : b ≠ 0) : t.fdiv (if b < 0 then -(Int.gcd t b : Int) else (Int.gcd t b : Int)) = (Rat.divInt t b).num := by
  have hg : (Int.gcd t b : Int) ∣ t := Int.gcd_dvd_left ..
  rw [Rat.num_divInt, Int.gcd_comm b t]
  split
  · rename_i h
    rw [Int.sign_eq_neg_one_of_neg h, Int.fdiv_eq_ediv_of_dvd (Int.neg_dvd.mpr hg), Int.ediv_neg, Int.neg_mul, Int.one_mul, Int.neg_ediv_of_dvd hg]
  · rename_i h
    rw [Int.sign_eq_one_of_pos (by omega), Int.fdiv_eq_ediv_of_dvd hg, Int.one_mul]
theorem low_den {t b : Int} (hb : b ≠ 0) : b.fdiv (if b < 0 then -(Int.gcd t b : Int) else (Int.gcd t b : Int)) = ((Rat.divInt t b).den : Int) := by
  have hg : (Int.gcd t b : Int) ∣ b := Int.gcd_dvd_right ..
  rw [Rat.den_divInt, if_neg hb, Int.gcd_comm b t]
  have e : ((b.natAbs / Int.gcd t b : Nat) : Int) = (b.natAbs : Int) / (Int.gcd t b : Int) := Int.natCast_ediv ..
  rw [e]
  split
  · rename_i h
    rw [Int.fdiv_eq_ediv_of_dvd (Int.neg_dvd.mpr hg), Int.ediv_neg, ← Int.neg_ediv_of_dvd hg]
    congr 1
    omega
  · rename_i h
    rw [Int.fdiv_eq_ediv_of_dvd hg]
    congr 1
    omega
theorem fr_low {t b : Int} (hb : b ≠ 0) : D.tup [.int (t.fdiv (if b < 0 then -(Int.gcd t b : Int) else (Int.gcd t b : Int))), .int (b.fdiv (if b < 0 then -(Int.gcd t b : Int) else (Int.gcd t b : Int)))] = fr (Rat.divInt t b) := by
  rw [low_num hb, low_den hb]; rfl
/-! ### sizes -/
instance {n : Nat} {x : Int} : Decidable (B n x) := inferInstanceAs (Decidable (x.natAbs < 2 ^ n))
class Qd (q : Rat) (n : outParam Nat) : Prop where
  num : B n q.num
  den : B n (q.den : Int)
instance {q : Rat} {n : Nat} [h : Qd q n] : Bd q.num n := ⟨h.num⟩
instance {q : Rat} {n : Nat} [h : Qd q n] : Bd (q.den : Int) n := ⟨h.den⟩
theorem B.divInt {t b : Int} {n : Nat} (ht : B n t) (hb : B n b) (h0 : b ≠ 0) : Qd (Rat.divInt t b) n := by
  refine ⟨?_, ?_⟩
  · refine ht.le ?_
    rw [← low_num h0, Int.fdiv_eq_ediv_of_dvd]
    · exact ediv_abs _ _
    · have hg : (Int.gcd t b : Int) ∣ t := Int.gcd_dvd_left ..
      split
      · exact Int.neg_dvd.mpr hg
      · exact hg
  · refine hb.le ?_
    rw [← low_den h0, Int.fdiv_eq_ediv_of_dvd]
    · exact ediv_abs _ _
    · have hg : (Int.gcd t b : Int) ∣ b := Int.gcd_dvd_right ..
      split
      · exact Int.neg_dvd.mpr hg
      · exact hg
theorem den_ne (q : Rat) : (q.den : Int) ≠ 0 := by have := q.den_nz; omega
theorem den_pos (q : Rat) : 0 < (q.den : Int) := by have := q.den_pos; omega
theorem add_low (q r : Rat) : Rat.divInt (q.num * r.den + r.num * q.den) (q.den * r.den) = q + r := by
  rw [Rat.add_def', ← Rat.divInt_ofNat]; norm_cast
theorem sub_low (q r : Rat) : Rat.divInt (q.num * r.den - r.num * q.den) (q.den * r.den) = q - r := by
  rw [Rat.sub_def', ← Rat.divInt_ofNat]; norm_cast
theorem mul_low (q r : Rat) : Rat.divInt (q.num * r.num) (q.den * r.den) = q * r := by
  rw [Rat.mul_def', ← Rat.divInt_ofNat]; norm_cast
theorem div_low (q r : Rat) : Rat.divInt (q.num * r.den) (q.den * r.num) = q / r := by
  rw [Rat.div_def, ← Rat.divInt_mul_divInt, Rat.num_divInt_den, ← Rat.inv_divInt, Rat.num_divInt_den]
theorem int_low (t b : Int) : Rat.divInt t b = (t : Rat) / (b : Rat) := Rat.divInt_eq_div t b
instance {q r : Rat} {m n : Nat} [h : Qd q m] [g : Qd r n] : Qd (q + r) (m + n + 1) := by
  rw [← add_low]
  exact B.divInt (Bd.b (n := max (m + n) (n + m) + 1) |>.mono (by omega)) (Bd.b (n := m + n) |>.mono (by omega)) (Int.mul_ne_zero (den_ne q) (den_ne r))
instance {q r : Rat} {m n : Nat} [h : Qd q m] [g : Qd r n] : Qd (q - r) (m + n + 1) := by
  rw [← sub_low]
  exact B.divInt (Bd.b (n := max (m + n) (n + m) + 1) |>.mono (by omega)) (Bd.b (n := m + n) |>.mono (by omega)) (Int.mul_ne_zero (den_ne q) (den_ne r))
instance {q r : Rat} {m n : Nat} [h : Qd q m] [g : Qd r n] : Qd (q * r) (m + n) := by
  rw [← mul_low]
  exact B.divInt (Bd.b (n := m + n)) (Bd.b (n := m + n)) (Int.mul_ne_zero (den_ne q) (den_ne r))
instance {q : Rat} {m : Nat} [h : Qd q m] : Qd (-q) m := ⟨by rw [Rat.neg_num]; exact h.num.neg, by rw [Rat.neg_den]; exact h.den⟩
theorem Qd.inv {q : Rat} {m : Nat} (h : Qd q m) : Qd q⁻¹ m := by
  by_cases h0 : q = 0
  · rw [h0, Rat.inv_zero, ← h0]; exact h
  · have e : q⁻¹ = Rat.divInt q.den q.num := by
      rw [← Rat.inv_divInt, Rat.num_divInt_den]
    rw [e]
    exact B.divInt h.den h.num (fun z => h0 (Rat.num_eq_zero.mp z))
instance {q : Rat} {m : Nat} [h : Qd q m] : Qd q⁻¹ m := h.inv
instance {q r : Rat} {m n : Nat} [h : Qd q m] [g : Qd r n] : Qd (q / r) (m + n) := by
  rw [Rat.div_def]; infer_instance
theorem Qd.mono {q : Rat} {m n : Nat} (h : Qd q m) (l : m ≤ n) : Qd q n := ⟨h.num.mono l, h.den.mono l⟩
instance : Qd (0 : Rat) 1 := ⟨by decide, by decide⟩
instance : Qd (1 : Rat) 1 := ⟨by decide, by decide⟩
instance : Qd (2 : Rat) 2 := ⟨by decide, by decide⟩
class Td (t : Tb) (n : outParam Nat) : Prop where
  a : Qd t.a n
  b : Qd t.b n
  c : Qd t.c n
  d : Qd t.d n
instance {t : Tb} {n : Nat} [h : Td t n] : Qd t.a n := h.a
instance {t : Tb} {n : Nat} [h : Td t n] : Qd t.b n := h.b
instance {t : Tb} {n : Nat} [h : Td t n] : Qd t.c n := h.c
instance {t : Tb} {n : Nat} [h : Td t n] : Qd t.d n := h.d
theorem Td.mk' {a b c d : Rat} {k l m n o : Nat} (h1 : Qd a k) (h2 : Qd b l) (h3 : Qd c m) (h4 : Qd d n) (l1 : k ≤ o) (l2 : l ≤ o) (l3 : m ≤ o) (l4 : n ≤ o) : Td ⟨a, b, c, d⟩ o := ⟨h1.mono l1, h2.mono l2, h3.mono l3, h4.mono l4⟩
theorem Td.mono {t : Tb} {m n : Nat} (h : Td t m) (l : m ≤ n) : Td t n := ⟨h.a.mono l, h.b.mono l, h.c.mono l, h.d.mono l⟩
theorem fr_num {q : Rat} : q.num = 0 ↔ q = 0 := Rat.num_eq_zero
theorem items_tup (ds : List D) : itemsOf (.tup ds) = some (.ok ds) := rfl
theorem items_lst (ds : List D) : itemsOf (.lst ds) = some (.ok ds) := rfl
theorem items_scr (ds : List D) : itemsOf (.scr ds) = some (.ok ds) := rfl
theorem len_tup (ds : List D) : lenR [.tup ds] = okI ds.length := rfl
theorem len_lst (ds : List D) : lenR [.lst ds] = okI ds.length := rfl
theorem len_scr (ds : List D) : lenR [.scr ds] = okI ds.length := rfl
theorem tuple_lst (ds : List D) : tupleR [.lst ds] = okD (.tup ds) := rfl
theorem len_fr (q : Rat) : lenR [fr q] = okI 2 := rfl
theorem len_tb (t : Tb) : lenR [tb t] = okI 4 := rfl
theorem isiT_fr (q : Rat) : isiR [fr q, .raw (.ty "tuple")] = okB true := rfl
theorem isiT_tb (t : Tb) : isiR [tb t, .raw (.ty "tuple")] = okB true := rfl
theorem isiI_int (i : Int) : isiR [.int i, .raw (.ty "int")] = okB true := rfl
theorem isiB_int (i : Int) : isiR [.int i, .raw (.ty "bool")] = okB false := rfl
theorem isiB_bl (i : Bool) : isiR [.bl i, .raw (.ty "bool")] = okB true := rfl
theorem isiL_lst (ds : List D) : isiR [.lst ds, .raw (.ty "list")] = okB true := rfl
theorem isiT_tup (ds : List D) : isiR [.tup ds, .raw (.ty "tuple")] = okB true := rfl
theorem gTup_tup (gs : GLF) (ds : List D) (ρ : En) : gTup gs (.tup ds) ρ = gs ds ρ := rfl
theorem gTup_tb (gs : GLF) (t : Tb) (ρ : En) : gTup gs (tb t) ρ = gs [fr t.a, fr t.b, fr t.c, fr t.d] ρ := rfl
theorem gTup_fr (gs : GLF) (q : Rat) (ρ : En) : gTup gs (fr q) ρ = gs [.int q.num, .int q.den] ρ := rfl
theorem gLs_lst (gs : GLF) (ds : List D) (ρ : En) : gLs gs (.lst ds) ρ = gs ds ρ := rfl
theorem items_tb (t : Tb) : itemsOf (tb t) = some (.ok [fr t.a, fr t.b, fr t.c, fr t.d]) := rfl
theorem items_fr (q : Rat) : itemsOf (fr q) = some (.ok [.int q.num, .int q.den]) := rfl
theorem zip_tb (s t : Tb) : zipL [tb s, tb t] = some (.ok [.tup [fr s.a, fr t.a], .tup [fr s.b, fr t.b], .tup [fr s.c, fr t.c], .tup [fr s.d, fr t.d]]) := rfl
theorem range1_4 : range1L [.int 4] = some (.ok [.int 0, .int 1, .int 2, .int 3]) := by
  have e : r62 4 = true := by decide +kernel
  show (if r62 4 = true then _ else none) = _
  rw [if_pos e]; rfl
theorem ten60 : (0 : Int) < 10 ^ 60 := by decide
theorem all4 (a b c d : Bool) : allR [.lst [.bl a, .bl b, .bl c, .bl d]] = okB (a && (b && (c && (d && true)))) := rfl
theorem addD_tup2 (a b c d : D) : addD (.tup [a, b]) (.tup [c, d]) = okD (.tup [a, b, c, d]) := by
  simp [addD]
theorem addD_lst2 (a b c d : D) : addD (.lst [a, b]) (.lst [c, d]) = some (.ok (.own [a, b, c, d])) := by
  simp [addD]
theorem Tb.eq_iff (s t : Tb) : s = t ↔ s.a = t.a ∧ s.b = t.b ∧ s.c = t.c ∧ s.d = t.d := by
  cases s; cases t; simp
theorem postQ {k n : Nat} {w : SF} [Det w] [A : Out w] {ds : List D} {Q : Rat → Prop} (hl : ds.length = k) (h : w (PDp fun r => ∃ x, Q x ∧ r = .ok (.d (fr x))) (startE n ds)) : ∃ x, Q x ∧ outF k n w ds = okD (fr x) := by
  obtain ⟨r, e, x, hx, rfl⟩ := outF_post hl h
  exact ⟨x, hx, e⟩
theorem postT {k n : Nat} {w : SF} [Det w] [A : Out w] {ds : List D} {Q : Tb → Prop} (hl : ds.length = k) (h : w (PDp fun r => ∃ x, Q x ∧ r = .ok (.d (tb x))) (startE n ds)) : ∃ x, Q x ∧ outF k n w ds = okD (tb x) := by
  obtain ⟨r, e, x, hx, rfl⟩ := outF_post hl h
  exact ⟨x, hx, e⟩
theorem fr_int (x : Int) : D.tup [.int x, .int 1] = fr (x : Rat) := rfl
theorem Qd.int {x : Int} {n : Nat} (h : B n x) (l : 1 ≤ n) : Qd (x : Rat) n := ⟨h, B.mono (m := 1) (show B 1 1 by decide) l⟩
theorem map_get {ns : List Int} {k : Nat} (h : k < ns.length) : (ns.map D.int)[k]? = some (.int (ns.getD k 0)) := by
  rw [List.getElem?_map, List.getElem?_eq_getElem h, List.getD_eq_getElem?_getD, List.getElem?_eq_getElem h]
  rfl
theorem range1_ev {j : Int} (h : 0 ≤ j) (h2 : j < 1000000) : range1L [.int j] = some (.ok (rangeD 0 j.toNat)) := by
  show (if r62 j = true then _ else none) = _
  rw [if_pos (r62_iff.mpr (by omega))]
theorem range2_ev {i j : Int} (h : -1000000 ≤ i) (h2 : j < 1000000) (h3 : i < 1000000) (h4 : -1000000 ≤ j) : range2L [.int i, .int j] = some (.ok (rangeD i (j - i).toNat)) := by
  show (if (r62 i && r62 j) = true then _ else none) = _
  rw [r62_iff.mpr (by omega), r62_iff.mpr (by omega)]; rfl
/-- the number of turns: 1 + min(c, len) // 4 -/
theorem turns {c : Int} {n : Nat} (hc : 0 ≤ c) (hc2 : c ≤ 63) (hn : n ≤ 63) : ∃ m : Nat, m ≤ 16 ∧ 4 * ((m : Int) - 1) ≤ n ∧ 4 * ((m : Int) - 1) ≤ c ∧ (1 + (if (n : Int) < c then (n : Int) else c) / 4) = (m : Int) := by
  refine ⟨(1 + (if (n : Int) < c then (n : Int) else c) / 4).toNat, ?_, ?_, ?_, ?_⟩ <;> (split <;> omega)
/-- an item by any index that there is -/
theorem atI_any {xs : List D} {i : Int} (h : -(xs.length : Int) ≤ i) (h2 : i < xs.length) : ∃ d, d ∈ xs ∧ L2.atI xs i = some d := by
  unfold L2.atI L2.ixN
  by_cases h0 : 0 ≤ i
  · have hl : i.toNat < xs.length := by omega
    refine ⟨xs[i.toNat], List.getElem_mem hl, ?_⟩
    rw [if_pos h0, if_pos h2]
    exact List.getElem?_eq_getElem hl
  · have hl : (i + xs.length).toNat < xs.length := by omega
    refine ⟨xs[(i + xs.length).toNat], List.getElem_mem hl, ?_⟩
    rw [if_neg h0, if_pos h]
    exact List.getElem?_eq_getElem hl
theorem ix_any {xs : List D} {i : Int} (h : -(xs.length : Int) ≤ i) (h2 : i < xs.length) : ∃ d, d ∈ xs ∧ ixR (.lst xs) (.int i) = okD d := by
  obtain ⟨d, m, e⟩ := atI_any h h2
  refine ⟨d, m, ?_⟩
  show (match L2.atI xs i with
    | some x => okD x
    | none => none) = _
  rw [e]
theorem z_app {P : PD} {ρ : En} {i : Nat} {f : EF} {xs : List D} {v : D} (h0 : ρ[i]? = some (some (.own xs))) (h : f ρ = some (.ok (.d v))) (hl : xs.length ≤ 1000000) (k : P.nx (ρ.set i (some (.own (xs ++ [v]))))) : wApp i f P ρ := by
  unfold wApp
  rw [h0]
  show wR (f ρ) _ _
  rw [h]
  exact ⟨hl, k⟩
theorem q_app {P : PD} {ρ : En} {i : Nat} {f : EF} {w : SF} {xs : List D} {v : D} (h0 : ρ[i]? = some (some (.own xs))) (h : f ρ = some (.ok (.d v))) (hl : xs.length ≤ 1000000) (k : w P (ρ.set i (some (.own (xs ++ [v]))))) : wSeq (wApp i f) w P ρ := z_app h0 h hl k
theorem q_own {P : PD} {ρ : En} {i : Nat} {f : EF} {w : SF} {sv : SV} (h : f ρ = some (.ok sv)) (k : w P (ρ.set i (some sv))) : wSeq (wOwn i f) w P ρ := by
  show wR (f ρ) _ _
  rw [h]
  exact k
theorem z_frz {P : PD} {ρ : En} {i : Nat} {w : SF} {sv : SV} (h : ρ[i]? = some (some sv)) (k : w P (ρ.set i (some (.d (toD sv))))) : wFrz i w P ρ := by
  unfold wFrz
  rw [h]
  exact k
theorem get_rangeD {lo : Int} {n j : Nat} {d : D} (h : (rangeD lo n)[j]? = some d) : j < n ∧ d = .int (lo + j) := by
  unfold rangeD at h
  rw [List.getElem?_map] at h
  obtain ⟨k, h, e⟩ := Option.map_eq_some_iff.mp h
  obtain ⟨h1, h2⟩ := List.getElem?_eq_some_iff.mp h
  rw [List.length_range] at h1
  simp only [List.getElem_range] at h2
  subst h2
  exact ⟨h1, e.symm⟩
theorem q_setL {P : PD} {ρ : En} {i : Nat} {f : EF} {w : SF} {ds : List D} (h : f ρ = some (.ok (.own ds))) (k : w P (ρ.set i (some (.d (.lst ds))))) : wSeq (wSet i f) w P ρ := by
  show wR (f ρ) _ _
  rw [h]
  exact k
theorem z_setL {P : PD} {ρ : En} {i : Nat} {f : EF} {ds : List D} (h : f ρ = some (.ok (.own ds))) (k : P.nx (ρ.set i (some (.d (.lst ds))))) : wSet i f P ρ := by
  show wR (f ρ) _ _
  rw [h]
  exact k
theorem range1_any {j : Int} (h : -1000000 < j) (h2 : j < 1000000) : range1L [.int j] = some (.ok (rangeD 0 j.toNat)) := by
  show (if r62 j = true then _ else none) = _
  rw [if_pos (r62_iff.mpr (by omega))]
end PT
open PT
local macro_rules
  | `(tactic| simp! [$ls,*]) => `(tactic| (simp (disch := first | decide | assumption | omega) only [startE, List.map_cons, List.map_nil, List.replicate, eVar, eC, PT.e1, PT.e2, aNil, aCons, eCall, tupR, lstR, eTup, eLst, eIte, eLenO, eIxO, cT, cAnd, cOr, cNot, andV, orV, notD, truR, truD, bindR, bindRB, bindRL, bindL, bindB, bindBB, bindLL, toD, okD, okI, okB, itA, itD, items_tup, items_lst, items_scr, len_tup, len_lst, len_scr, List.getElem?_cons_zero, List.getElem?_cons_succ, List.length_cons, List.length_nil, List.length_map, List.cons_append, List.nil_append, List.append_nil, Nat.zero_add, Nat.reduceAdd, Nat.reduceSub, Nat.reduceLeDiff, if_true, if_false, ite_true, ite_false, Bool.false_eq_true, reduceIte, Bool.not_true, Bool.not_false, Int.reducePow, Int.reduceToNat, Int.reduceMul, Int.reduceAdd, Int.reduceSub, addD, subD, negD, ltR, leR, gtR, geR, eqR_int, neR_int, eqR_bl, neR_bl, absR, max2R, min2R, intR, mulRi, divRi, powRi, modR, absI, len_fr, len_tb, isiT_fr, isiT_tb, isiI_int, isiB_int, isiB_bl, isiL_lst, isiT_tup, items_tb, items_fr, zip_tb, all4, addD_tup2, addD_lst2, eLc, lcL, cYes, wipeE, gN, gTup_tup, gTup_tb, gTup_fr, gLs_lst, gCons, gNil, tuple_lst, List.set_cons_zero, List.set_cons_succ, List.set_nil, ix_fr0, ix_fr1, ix_tb0, ix_tb1, ix_tb2, ix_tb3, eqR_fr, neR_fr, eqR_tb, neR_tb, $ls,*]; try rfl))
local macro_rules
  | `(tactic| dsimp! [$ls,*]) => `(tactic| (simp (disch := first | decide | assumption | omega) only [startE, List.map_cons, List.map_nil, List.replicate, eVar, eC, PT.e1, PT.e2, aNil, aCons, eCall, tupR, lstR, eTup, eLst, eIte, eLenO, eIxO, cT, cAnd, cOr, cNot, andV, orV, notD, truR, truD, bindR, bindRB, bindRL, bindL, bindB, bindBB, bindLL, toD, okD, okI, okB, itA, itD, items_tup, items_lst, items_scr, len_tup, len_lst, len_scr, List.getElem?_cons_zero, List.getElem?_cons_succ, List.length_cons, List.length_nil, List.length_map, List.cons_append, List.nil_append, List.append_nil, Nat.zero_add, Nat.reduceAdd, Nat.reduceSub, Nat.reduceLeDiff, if_true, if_false, ite_true, ite_false, Bool.false_eq_true, reduceIte, Bool.not_true, Bool.not_false, Int.reducePow, Int.reduceToNat, Int.reduceMul, Int.reduceAdd, Int.reduceSub, addD, subD, negD, ltR, leR, gtR, geR, eqR_int, neR_int, eqR_bl, neR_bl, absR, max2R, min2R, intR, mulRi, divRi, powRi, modR, absI, len_fr, len_tb, isiT_fr, isiT_tb, isiI_int, isiB_int, isiB_bl, isiL_lst, isiT_tup, items_tb, items_fr, zip_tb, all4, addD_tup2, addD_lst2, eLc, lcL, cYes, wipeE, gN, gTup_tup, gTup_tb, gTup_fr, gLs_lst, gCons, gNil, tuple_lst, List.set_cons_zero, List.set_cons_succ, List.set_nil, ix_fr0, ix_fr1, ix_tb0, ix_tb1, ix_tb2, ix_tb3, eqR_fr, neR_fr, eqR_tb, neR_tb, $ls,*]))
local macro_rules
  | `(tactic| simp_all! [$ls,*]) => `(tactic| (simp (disch := first | decide | assumption | omega) only [startE, List.map_cons, List.map_nil, List.replicate, eVar, eC, PT.e1, PT.e2, aNil, aCons, eCall, tupR, lstR, eTup, eLst, eIte, eLenO, eIxO, cT, cAnd, cOr, cNot, andV, orV, notD, truR, truD, bindR, bindRB, bindRL, bindL, bindB, bindBB, bindLL, toD, okD, okI, okB, itA, itD, items_tup, items_lst, items_scr, len_tup, len_lst, len_scr, List.getElem?_cons_zero, List.getElem?_cons_succ, List.length_cons, List.length_nil, List.length_map, List.cons_append, List.nil_append, List.append_nil, Nat.zero_add, Nat.reduceAdd, Nat.reduceSub, Nat.reduceLeDiff, if_true, if_false, ite_true, ite_false, Bool.false_eq_true, reduceIte, Bool.not_true, Bool.not_false, Int.reducePow, Int.reduceToNat, Int.reduceMul, Int.reduceAdd, Int.reduceSub, addD, subD, negD, ltR, leR, gtR, geR, eqR_int, neR_int, eqR_bl, neR_bl, absR, max2R, min2R, intR, mulRi, divRi, powRi, modR, absI, len_fr, len_tb, isiT_fr, isiT_tb, isiI_int, isiB_int, isiB_bl, isiL_lst, isiT_tup, items_tb, items_fr, zip_tb, all4, addD_tup2, addD_lst2, eLc, lcL, cYes, wipeE, gN, gTup_tup, gTup_tb, gTup_fr, gLs_lst, gCons, gNil, tuple_lst, List.set_cons_zero, List.set_cons_succ, List.set_nil, ix_fr0, ix_fr1, ix_tb0, ix_tb1, ix_tb2, ix_tb3, eqR_fr, neR_fr, eqR_tb, neR_tb, startE, List.map_cons, List.map_nil, List.replicate, PDof, PDp, wSeq, wSet, wOwn, wRet, wRetN, wIf, wR, wRB, wRL, wExpr, wRaise, wNop, wAsg, wPar, R.ok.injEq, SV.d.injEq, D.int.injEq, D.bl.injEq, $ls,*]))
local macro_rules
  | `(tactic| simp_arith!) => `(tactic| try simp only [List.set_cons_zero, List.set_cons_succ, startE, List.map_cons, List.map_nil, List.replicate, List.cons_append, List.nil_append, List.append_nil, List.length_cons, List.length_nil, Nat.zero_add, Nat.reduceAdd, Nat.reduceSub])
/-! PM: fractions of the package: what their functions answer. -/
namespace PT
open PySem (Str)
abbrev k_NOUGHT : D := .tup [.int 0, .int 1]
abbrev k_ONE : D := .tup [.int 1, .int 1]
theorem fr_0 : D.tup [.int 0, .int 1] = fr 0 := rfl
theorem fr_1 : D.tup [.int 1, .int 1] = fr 1 := rfl
theorem fr_2 : D.tup [.int 2, .int 1] = fr 2 := rfl
/-- shared(one, other): slots one, other -/
def w_shared : SF := wSeq (wSet 0 (eCall absR (aCons (eVar 0) (aNil)))) (wSeq (wSet 1 (eCall absR (aCons (eVar 1) (aNil)))) (wSeq (wWhile (cT (e2 neR (eVar 1) (eC (.int 0)))) (wPar 0 1 (aCons (eVar 1) (aCons (e2 modD (eVar 0) (eVar 1)) (aNil))))) (wRet (eVar 0))))
instance : Det w_shared := by unfold w_shared; infer_instance
instance : Out w_shared := by unfold w_shared; infer_instance
noncomputable def f_shared : List D → Option R := outF 2 2 w_shared
theorem len_shared : ∀ ds r, f_shared ds = some r → ds.length = 2 := outF_len
theorem does_shared : Does 2 w_shared f_shared := outF_does
/-- fraction(top, bottom): slots top, bottom, by -/
def w_fraction : SF := wSeq (wIf (cT (e2 eqR (eVar 1) (eC (.int 0)))) (wRaise "NoFraction") (wNop)) (wSeq (wSet 2 (eCall f_shared (aCons (eVar 0) (aCons (eVar 1) (aNil))))) (wSeq (wIf (cT (e2 ltR (eVar 1) (eC (.int 0)))) (wSet 2 (e1 negD (eVar 2))) (wNop)) (wRet (eTup (aCons (e2 fdivD (eVar 0) (eVar 2)) (aCons (e2 fdivD (eVar 1) (eVar 2)) (aNil)))))))
instance : Det w_fraction := by unfold w_fraction; infer_instance
instance : Out w_fraction := by unfold w_fraction; infer_instance
noncomputable def f_fraction : List D → Option R := outF 2 3 w_fraction
theorem len_fraction : ∀ ds r, f_fraction ds = some r → ds.length = 2 := outF_len
theorem does_fraction : Does 3 w_fraction f_fraction := outF_does
/-- plus(a, b): slots a, b -/
def w_plus : SF := wRet (eCall f_fraction (aCons (e2 addD (e2 mulD (e2 ixR (eVar 0) (eC (.int 0))) (e2 ixR (eVar 1) (eC (.int 1)))) (e2 mulD (e2 ixR (eVar 1) (eC (.int 0))) (e2 ixR (eVar 0) (eC (.int 1))))) (aCons (e2 mulD (e2 ixR (eVar 0) (eC (.int 1))) (e2 ixR (eVar 1) (eC (.int 1)))) (aNil))))
instance : Det w_plus := by unfold w_plus; infer_instance
instance : Out w_plus := by unfold w_plus; infer_instance
noncomputable def f_plus : List D → Option R := outF 2 2 w_plus
theorem len_plus : ∀ ds r, f_plus ds = some r → ds.length = 2 := outF_len
theorem does_plus : Does 2 w_plus f_plus := outF_does

/-- minus(a, b): slots a, b -/
def w_minus : SF := wRet (eCall f_fraction (aCons (e2 subD (e2 mulD (e2 ixR (eVar 0) (eC (.int 0))) (e2 ixR (eVar 1) (eC (.int 1)))) (e2 mulD (e2 ixR (eVar 1) (eC (.int 0))) (e2 ixR (eVar 0) (eC (.int 1))))) (aCons (e2 mulD (e2 ixR (eVar 0) (eC (.int 1))) (e2 ixR (eVar 1) (eC (.int 1)))) (aNil))))
instance : Det w_minus := by unfold w_minus; infer_instance
instance : Out w_minus := by unfold w_minus; infer_instance
noncomputable def f_minus : List D → Option R := outF 2 2 w_minus
theorem len_minus : ∀ ds r, f_minus ds = some r → ds.length = 2 := outF_len
theorem does_minus : Does 2 w_minus f_minus := outF_does
/-- times(a, b): slots a, b -/
def w_times : SF := wRet (eCall f_fraction (aCons (e2 mulD (e2 ixR (eVar 0) (eC (.int 0))) (e2 ixR (eVar 1) (eC (.int 0)))) (aCons (e2 mulD (e2 ixR (eVar 0) (eC (.int 1))) (e2 ixR (eVar 1) (eC (.int 1)))) (aNil))))
instance : Det w_times := by unfold w_times; infer_instance
instance : Out w_times := by unfold w_times; infer_instance
noncomputable def f_times : List D → Option R := outF 2 2 w_times
theorem len_times : ∀ ds r, f_times ds = some r → ds.length = 2 := outF_len
theorem does_times : Does 2 w_times f_times := outF_does

/-- over(a, b): slots a, b -/
def w_over : SF := wRet (eCall f_fraction (aCons (e2 mulD (e2 ixR (eVar 0) (eC (.int 0))) (e2 ixR (eVar 1) (eC (.int 1)))) (aCons (e2 mulD (e2 ixR (eVar 0) (eC (.int 1))) (e2 ixR (eVar 1) (eC (.int 0)))) (aNil))))
instance : Det w_over := by unfold w_over; infer_instance
instance : Out w_over := by unfold w_over; infer_instance
noncomputable def f_over : List D → Option R := outF 2 2 w_over
theorem len_over : ∀ ds r, f_over ds = some r → ds.length = 2 := outF_len
theorem does_over : Does 2 w_over f_over := outF_does

theorem loop_shared (P : PD) : ∀ (n a b : Nat), b < n → P.nx [some (.d (.int (Nat.gcd a b : Nat))), some (.d (.int 0))] →
    wWhileN (cT (e2 neR (eVar 1) (eC (.int 0)))) (wPar 0 1 (aCons (eVar 1) (aCons (e2 modD (eVar 0) (eVar 1)) aNil))) P n [some (.d (.int a)), some (.d (.int b))] := by
  intro n
  induction n with
  | zero => intro a b h; omega
  | succ n ih =>
    intro a b h hp
    by_cases hb : b = 0
    · subst hb
      exact while_end (by simp! []) (by simpa using hp)
    · have e : (((b : Int) == 0)) = false := by simp [hb]
      refine while_go (by simp! [e]) (z_par (by simp! []) ?_)
      simp_arith!
      have := ih b (a % b) (by have := Nat.mod_lt a (Nat.pos_of_ne_zero hb); omega) (by rw [gcd_step a b hb]; exact hp)
      simpa using this
theorem ev_shared (a b : Int) : f_shared [.int a, .int b] = okI (Int.gcd a b) := by
  refine outF_ev rfl ?_
  refine q_set (by simp! []) ?_
  simp_arith!
  refine q_set (by simp! []) ?_
  simp_arith!
  refine q_while ⟨b.natAbs + 1, loop_shared _ _ _ _ (Nat.lt_succ_self _) ?_⟩
  simp_arith!
  exact z_ret (by simp! []) rfl
/-- sizes that a fraction's parts may have -/
theorem gcd_bd {t b : Int} {n : Nat} (h : B n b) (h0 : b ≠ 0) : B n (Int.gcd t b : Int) := h.le (by
  have := Int.gcd_le_natAbs_right t h0
  omega)
theorem gcd_ne {t b : Int} (h0 : b ≠ 0) : (Int.gcd t b : Int) ≠ 0 := by
  have := Int.gcd_ne_zero_right (a := t) h0
  omega
theorem fdivR {x y : Int} {n : Nat} (hy : y ≠ 0) (h : B n y) (l : n < 9000) : fdivD (.int x) (.int y) = okI (x.fdiv y) := by
  show (if divOk y = true then okI (x.fdiv y) else none) = _
  rw [if_pos (h.divOk hy l)]
theorem ev_fraction {t b : Int} {n : Nat} (hb : B n b) (h0 : b ≠ 0) (l : n < 9000) : f_fraction [.int t, .int b] = okD (fr (Rat.divInt t b)) := by
  refine outF_ev rfl ?_
  have e0 : (b == 0) = false := by simpa using h0
  simp_arith!
  refine q_if (t := false) (by simp! [e0]) (fun z => by cases z) fun _ => ?_
  refine q_set (v := .int (Int.gcd t b)) (by simp! [ev_shared]) ?_
  simp_arith!
  have hg : B n (if b < 0 then -(Int.gcd t b : Int) else (Int.gcd t b : Int)) := by
    split
    · exact (gcd_bd hb h0).neg
    · exact gcd_bd hb h0
  have h1 : (if b < 0 then -(Int.gcd t b : Int) else (Int.gcd t b : Int)) ≠ 0 := by
    have := gcd_ne (t := t) h0
    split <;> omega
  refine q_ifset (t := decide (b < 0)) (x := -(Int.gcd t b : Int)) (y := Int.gcd t b) (by simp! []) rfl (fun _ => by simp! []) ?_
  simp_arith!
  simp only [decide_eq_true_eq]
  refine z_ret (sv := .d (fr (Rat.divInt t b))) ?_ rfl
  simp! [fdivR h1 hg l, fr_low h0]
theorem ev_fraction0 (t : Int) : f_fraction [.int t, .int 0] = some (.ex "NoFraction" none) := by
  refine outF_ev rfl ?_
  exact q_if (t := true) (by simp! []) (fun _ => rfl) fun z => by cases z
theorem ev_fraction' {t b : Int} {n : Nat} [h : Bd b n] (h0 : b ≠ 0) (l : n < 9000) : f_fraction [.int t, .int b] = okD (fr (Rat.divInt t b)) := ev_fraction h.b h0 l
theorem ev_plus {q r : Rat} {m n : Nat} [Qd q m] [Qd r n] (l : m + n < 9000) : f_plus [fr q, fr r] = okD (fr (q + r)) := by
  have h0 : (q.den : Int) * r.den ≠ 0 := Int.mul_ne_zero (den_ne q) (den_ne r)
  refine outF_ev rfl (z_ret (sv := .d (fr (q + r))) ?_ rfl)
  have l1 : m + n < 1000000 := by omega
  have l2 : n + m < 1000000 := by omega
  simp_arith!
  simp! [ev_fraction' h0 l, add_low]
theorem ev_minus {q r : Rat} {m n : Nat} [Qd q m] [Qd r n] (l : m + n < 9000) : f_minus [fr q, fr r] = okD (fr (q - r)) := by
  have h0 : (q.den : Int) * r.den ≠ 0 := Int.mul_ne_zero (den_ne q) (den_ne r)
  refine outF_ev rfl (z_ret (sv := .d (fr (q - r))) ?_ rfl)
  have l1 : m + n < 1000000 := by omega
  have l2 : n + m < 1000000 := by omega
  simp_arith!
  simp! [ev_fraction' h0 l, sub_low]
theorem ev_times {q r : Rat} {m n : Nat} [Qd q m] [Qd r n] (l : m + n < 9000) : f_times [fr q, fr r] = okD (fr (q * r)) := by
  have h0 : (q.den : Int) * r.den ≠ 0 := Int.mul_ne_zero (den_ne q) (den_ne r)
  refine outF_ev rfl (z_ret (sv := .d (fr (q * r))) ?_ rfl)
  have l1 : m + n < 1000000 := by omega
  simp_arith!
  simp! [ev_fraction' h0 l, mul_low]
theorem ev_over {q r : Rat} {m n : Nat} [Qd q m] [Qd r n] (hr : r ≠ 0) (l : m + n < 9000) : f_over [fr q, fr r] = okD (fr (q / r)) := by
  have h0 : (q.den : Int) * r.num ≠ 0 := Int.mul_ne_zero (den_ne q) (fun z => hr (fr_num.mp z))
  refine outF_ev rfl (z_ret (sv := .d (fr (q / r))) ?_ rfl)
  have l1 : m + n < 1000000 := by omega
  simp_arith!
  simp! [ev_fraction' h0 l, div_low]
theorem ev_over0 {q : Rat} {m : Nat} [Qd q m] (l : m < 9000) : f_over [fr q, fr 0] = some (.ex "NoFraction" none) := by
  refine outF_ev rfl ?_
  have l1 : m + 1 < 1000000 := by omega
  have e0 : (q.den : Int) * (0 : Rat).num = 0 := Int.mul_zero _
  have e1 : f_over = f_over := rfl
  simp_arith!
  show wR _ _ _
  have e : (eCall f_fraction (aCons (e2 mulD (e2 ixR (eVar 0) (eC (.int 0))) (e2 ixR (eVar 1) (eC (.int 1)))) (aCons (e2 mulD (e2 ixR (eVar 0) (eC (.int 1))) (e2 ixR (eVar 1) (eC (.int 0)))) (aNil)))) [some (SV.d (fr q)), some (SV.d (fr 0))] = some (.ex "NoFraction" none) := by
    simp! [e0, ev_fraction0]
  rw [e]
  rfl
end PT
/-! PM: tables of the package: what their functions answer. -/
namespace PT
open PySem (Str)
/-- one_table(): slots  -/
def w_one_table : SF := wRet (eTup (aCons (eC k_ONE) (aCons (eC k_NOUGHT) (aCons (eC k_NOUGHT) (aCons (eC k_ONE) (aNil))))))
instance : Det w_one_table := by unfold w_one_table; infer_instance
instance : Out w_one_table := by unfold w_one_table; infer_instance
noncomputable def f_one_table : List D → Option R := outF 0 0 w_one_table
theorem len_one_table : ∀ ds r, f_one_table ds = some r → ds.length = 0 := outF_len
theorem does_one_table : Does 0 w_one_table f_one_table := outF_does
/-- measure(table): slots table, a, b, c, d -/
def w_measure : SF := wSeq (wAsg (eVar 0) (gTup (gCons (gN 1) (gCons (gN 2) (gCons (gN 3) (gCons (gN 4) (gNil))))))) (wRet (eCall f_minus (aCons (eCall f_times (aCons (eVar 1) (aCons (eVar 4) (aNil)))) (aCons (eCall f_times (aCons (eVar 2) (aCons (eVar 3) (aNil)))) (aNil)))))
instance : Det w_measure := by unfold w_measure; infer_instance
instance : Out w_measure := by unfold w_measure; infer_instance
noncomputable def f_measure : List D → Option R := outF 1 5 w_measure
theorem len_measure : ∀ ds r, f_measure ds = some r → ds.length = 1 := outF_len
theorem does_measure : Does 5 w_measure f_measure := outF_does
/-- trace(table): slots table -/
def w_trace : SF := wRet (eCall f_plus (aCons (e2 ixR (eVar 0) (eC (.int 0))) (aCons (e2 ixR (eVar 0) (eC (.int 3))) (aNil))))
instance : Det w_trace := by unfold w_trace; infer_instance
instance : Out w_trace := by unfold w_trace; infer_instance
noncomputable def f_trace : List D → Option R := outF 1 1 w_trace
theorem len_trace : ∀ ds r, f_trace ds = some r → ds.length = 1 := outF_len
theorem does_trace : Does 1 w_trace f_trace := outF_does
/-- table_of(a, b, c, d): slots a, b, c, d, table -/
def w_table_of : SF := wSeq (wSet 4 (eTup (aCons (eVar 0) (aCons (eVar 1) (aCons (eVar 2) (aCons (eVar 3) (aNil))))))) (wSeq (wIf (cT (e2 eqR (eCall f_measure (aCons (eVar 4) (aNil))) (eC k_NOUGHT))) (wRaise "NoTable") (wNop)) (wRet (eVar 4)))
instance : Det w_table_of := by unfold w_table_of; infer_instance
instance : Out w_table_of := by unfold w_table_of; infer_instance
noncomputable def f_table_of : List D → Option R := outF 4 5 w_table_of
theorem len_table_of : ∀ ds r, f_table_of ds = some r → ds.length = 4 := outF_len
theorem does_table_of : Does 5 w_table_of f_table_of := outF_does

/-- product(one, other): slots one, other, a, b, c, d, e, f, g, h, upper, lower -/
def w_product : SF := wSeq (wAsg (eVar 0) (gTup (gCons (gN 2) (gCons (gN 3) (gCons (gN 4) (gCons (gN 5) (gNil))))))) (wSeq (wAsg (eVar 1) (gTup (gCons (gN 6) (gCons (gN 7) (gCons (gN 8) (gCons (gN 9) (gNil))))))) (wSeq (wSet 10 (eTup (aCons (eCall f_plus (aCons (eCall f_times (aCons (eVar 2) (aCons (eVar 6) (aNil)))) (aCons (eCall f_times (aCons (eVar 3) (aCons (eVar 8) (aNil)))) (aNil)))) (aCons (eCall f_plus (aCons (eCall f_times (aCons (eVar 2) (aCons (eVar 7) (aNil)))) (aCons (eCall f_times (aCons (eVar 3) (aCons (eVar 9) (aNil)))) (aNil)))) (aNil))))) (wSeq (wSet 11 (eTup (aCons (eCall f_plus (aCons (eCall f_times (aCons (eVar 4) (aCons (eVar 6) (aNil)))) (aCons (eCall f_times (aCons (eVar 5) (aCons (eVar 8) (aNil)))) (aNil)))) (aCons (eCall f_plus (aCons (eCall f_times (aCons (eVar 4) (aCons (eVar 7) (aNil)))) (aCons (eCall f_times (aCons (eVar 5) (aCons (eVar 9) (aNil)))) (aNil)))) (aNil))))) (wRet (e2 addD (eVar 10) (eVar 11))))))
instance : Det w_product := by unfold w_product; infer_instance
instance : Out w_product := by unfold w_product; infer_instance
noncomputable def f_product : List D → Option R := outF 2 12 w_product
theorem len_product : ∀ ds r, f_product ds = some r → ds.length = 2 := outF_len
theorem does_product : Does 12 w_product f_product := outF_does
/-- turned_over(table): slots table, a, b, c, d, by -/
def w_turned_over : SF := wSeq (wAsg (eVar 0) (gTup (gCons (gN 1) (gCons (gN 2) (gCons (gN 3) (gCons (gN 4) (gNil))))))) (wSeq (wSet 5 (eCall f_measure (aCons (eVar 0) (aNil)))) (wRet (eTup (aCons (eCall f_over (aCons (eVar 4) (aCons (eVar 5) (aNil)))) (aCons (eCall f_over (aCons (eCall f_minus (aCons (eC k_NOUGHT) (aCons (eVar 2) (aNil)))) (aCons (eVar 5) (aNil)))) (aCons (eCall f_over (aCons (eCall f_minus (aCons (eC k_NOUGHT) (aCons (eVar 3) (aNil)))) (aCons (eVar 5) (aNil)))) (aCons (eCall f_over (aCons (eVar 1) (aCons (eVar 5) (aNil)))) (aNil))))))))
instance : Det w_turned_over := by unfold w_turned_over; infer_instance
instance : Out w_turned_over := by unfold w_turned_over; infer_instance
noncomputable def f_turned_over : List D → Option R := outF 1 6 w_turned_over
theorem len_turned_over : ∀ ds r, f_turned_over ds = some r → ds.length = 1 := outF_len
theorem does_turned_over : Does 6 w_turned_over f_turned_over := outF_does

/-- stretched(table, a): slots table, a, part -/
def w_stretched : SF := wSeq (wIf (cT (e2 eqR (eVar 1) (eC k_NOUGHT))) (wRaise "NoTable") (wNop)) (wRet (eCall tupleR (aCons (eLc (itD (eVar 0)) (gN 2) (cYes) (eCall f_times (aCons (eVar 2) (aCons (eVar 1) (aNil)))) [2]) (aNil))))
instance : Det w_stretched := by unfold w_stretched; infer_instance
instance : Out w_stretched := by unfold w_stretched; infer_instance
noncomputable def f_stretched : List D → Option R := outF 2 3 w_stretched
theorem len_stretched : ∀ ds r, f_stretched ds = some r → ds.length = 2 := outF_len
theorem does_stretched : Does 3 w_stretched f_stretched := outF_does

def det (t : Tb) : Rat := t.a * t.d - t.b * t.c
def tbMul (s t : Tb) : Tb := ⟨s.a * t.a + s.b * t.c, s.a * t.b + s.b * t.d, s.c * t.a + s.d * t.c, s.c * t.b + s.d * t.d⟩
def tbInv (t : Tb) : Tb := ⟨t.d / det t, (0 - t.b) / det t, (0 - t.c) / det t, t.a / det t⟩
def tbSc (t : Tb) (q : Rat) : Tb := ⟨t.a * q, t.b * q, t.c * q, t.d * q⟩
def tb1 : Tb := ⟨1, 0, 0, 1⟩
instance {t : Tb} {n : Nat} [h : Td t n] : Qd (det t) (n + n + (n + n) + 1) := by unfold det; infer_instance
instance {s t : Tb} {m n : Nat} [h : Td s m] [h : Td t n] : Td (tbMul s t) (m + n + (m + n) + 1) := ⟨inferInstanceAs (Qd (_ + _) _), inferInstanceAs (Qd (_ + _) _), inferInstanceAs (Qd (_ + _) _), inferInstanceAs (Qd (_ + _) _)⟩
instance {t : Tb} {q : Rat} {m n : Nat} [h : Td t m] [h : Qd q n] : Td (tbSc t q) (m + n) := ⟨inferInstanceAs (Qd (_ * _) _), inferInstanceAs (Qd (_ * _) _), inferInstanceAs (Qd (_ * _) _), inferInstanceAs (Qd (_ * _) _)⟩
instance : Td tb1 1 := ⟨inferInstanceAs (Qd 1 1), inferInstanceAs (Qd 0 1), inferInstanceAs (Qd 0 1), inferInstanceAs (Qd 1 1)⟩
instance {t : Tb} {n : Nat} [h : Td t n] : Td (tbInv t) (1 + n + 1 + (n + n + (n + n) + 1)) := by
  have a : Qd (t.d / det t) (n + (n + n + (n + n) + 1)) := inferInstance
  have b : Qd ((0 - t.b) / det t) (1 + n + 1 + (n + n + (n + n) + 1)) := inferInstance
  have c : Qd ((0 - t.c) / det t) (1 + n + 1 + (n + n + (n + n) + 1)) := inferInstance
  have d : Qd (t.a / det t) (n + (n + n + (n + n) + 1)) := inferInstance
  exact ⟨a.mono (by omega), b, c, d.mono (by omega)⟩
theorem ev_one_table : f_one_table [] = okD (tb tb1) := by
  refine outF_ev rfl (z_ret (sv := .d (tb tb1)) ?_ rfl)
  rfl
theorem h1_one_table : ∃ r, f_one_table [] = some r := ⟨_, ev_one_table⟩
theorem ev_measure {t : Tb} {n : Nat} [Td t n] (l : n < 2250) : f_measure [tb t] = okD (fr (det t)) := by
  have l1 : n + n < 9000 := by omega
  have l2 : n + n + (n + n) < 9000 := by omega
  refine outF_ev rfl ?_
  simp_all! [w_measure, ev_times, ev_minus]
  rfl
theorem ev_trace {t : Tb} {n : Nat} [Td t n] (l : n < 2000) : f_trace [tb t] = okD (fr (t.a + t.d)) := by
  have l1 : n + n < 9000 := by omega
  refine outF_ev rfl ?_
  simp_all! [w_trace, ev_plus]
theorem ev_table_of {t : Tb} {n : Nat} [Td t n] (l : n < 2000) (h : det t ≠ 0) : f_table_of [fr t.a, fr t.b, fr t.c, fr t.d] = okD (tb t) := by
  have l : n < 2250 := by omega
  refine outF_ev rfl ?_
  have e : decide (det t = 0) = false := decide_eq_false h
  simp_all! [w_table_of, tb_mk, ev_measure, fr_0, k_NOUGHT, e]
theorem ev_product {s t : Tb} {m n : Nat} [Td s m] [Td t n] (l : m + n < 2000) : f_product [tb s, tb t] = okD (tb (tbMul s t)) := by
  have l1 : m + n < 9000 := by omega
  have l2 : m + n + (m + n) < 9000 := by omega
  refine outF_ev rfl ?_
  simp_all! [w_product, ev_plus, ev_times]
  rfl
theorem ev_turned_over {t : Tb} {n : Nat} [Td t n] (l : n < 1000) (h : det t ≠ 0) : f_turned_over [tb t] = okD (tb (tbInv t)) := by
  have l1 : n < 2250 := by omega
  have l2 : n + (n + n + (n + n) + 1) < 9000 := by omega
  have l3 : 1 + n < 9000 := by omega
  have l4 : 1 + n + 1 + (n + n + (n + n) + 1) < 9000 := by omega
  refine outF_ev rfl ?_
  simp_all! [w_turned_over, k_NOUGHT, fr_0, ev_measure, ev_over, ev_minus]
  rfl
theorem ev_stretched {t : Tb} {q : Rat} {m n : Nat} [Td t m] [Qd q n] (l : m + n < 9000) (h : q ≠ 0) : f_stretched [tb t, fr q] = okD (tb (tbSc t q)) := by
  have e : decide (q = 0) = false := decide_eq_false h
  refine outF_ev rfl ?_
  simp_all! [w_stretched, k_NOUGHT, fr_0, e, ev_times]
  rfl
end PT
/-! PM: whole numbers and a prime: what the package's functions answer. -/
namespace PT
open PySem (Str)
/-- power_of(p, n): slots p, n, power -/
def w_power_of : SF := wSeq (wIf (cT (e2 eqR (eVar 1) (eC (.int 0)))) (wRet (eC .non)) (wNop)) (wSeq (wSet 2 (eC (.int 0))) (wSeq (wWhile (cT (e2 eqR (e2 modD (eVar 1) (eVar 0)) (eC (.int 0)))) (wSeq (wSet 1 (e2 fdivD (eVar 1) (eVar 0))) (wSet 2 (e2 addD (eVar 2) (eC (.int 1)))))) (wRet (eVar 2))))
instance : Det w_power_of := by unfold w_power_of; infer_instance
instance : Out w_power_of := by unfold w_power_of; infer_instance
noncomputable def f_power_of : List D → Option R := outF 2 3 w_power_of
theorem len_power_of : ∀ ds r, f_power_of ds = some r → ds.length = 2 := outF_len
theorem does_power_of : Does 3 w_power_of f_power_of := outF_does
/-- raised(number, k): slots number, k, found -/
def w_raised : SF := wSeq (wSet 2 (eC (.int 1))) (wSeq (wWhile (cT (e2 gtR (eVar 1) (eC (.int 0)))) (wSeq (wIf (cT (e2 eqR (e2 modD (eVar 1) (eC (.int 2))) (eC (.int 1)))) (wSet 2 (e2 mulD (eVar 2) (eVar 0))) (wNop)) (wSeq (wSet 0 (e2 mulD (eVar 0) (eVar 0))) (wSet 1 (e2 fdivD (eVar 1) (eC (.int 2))))))) (wRet (eVar 2)))
instance : Det w_raised := by unfold w_raised; infer_instance
instance : Out w_raised := by unfold w_raised; infer_instance
noncomputable def f_raised : List D → Option R := outF 2 3 w_raised
theorem len_raised : ∀ ds r, f_raised ds = some r → ds.length = 2 := outF_len
theorem does_raised : Does 3 w_raised f_raised := outF_does
/-- over_by(p, n, k): slots p, n, k, found, sure -/
def w_over_by : SF := wSeq (wIf (cT (e2 eqR (eVar 2) (eC (.int 0)))) (wRet (eC (.int 0))) (wNop)) (wSeq (wSet 3 (eC (.int 1))) (wSeq (wWhile (cT (e2 neR (e2 modD (e2 mulD (eVar 1) (eVar 3)) (eVar 0)) (eC (.int 1)))) (wSet 3 (e2 addD (eVar 3) (eC (.int 1))))) (wSeq (wSet 4 (eC (.int 1))) (wSeq (wWhile (cT (e2 ltR (eVar 4) (eVar 2))) (wSeq (wSet 4 (eCall min2R (aCons (e2 mulD (eC (.int 2)) (eVar 4)) (aCons (eVar 2) (aNil))))) (wSet 3 (e2 modD (e2 mulD (eVar 3) (e2 subD (eC (.int 2)) (e2 mulD (eVar 1) (eVar 3)))) (eCall f_raised (aCons (eVar 0) (aCons (eVar 4) (aNil)))))))) (wRet (eVar 3))))))
instance : Det w_over_by := by unfold w_over_by; infer_instance
instance : Out w_over_by := by unfold w_over_by; infer_instance
noncomputable def f_over_by : List D → Option R := outF 3 5 w_over_by
theorem len_over_by : ∀ ds r, f_over_by ds = some r → ds.length = 3 := outF_len
theorem does_over_by : Does 5 w_over_by f_over_by := outF_does

def Pr (p : Int) : Prop := p = 2 ∨ p = 3 ∨ p = 5 ∨ p = 7
theorem Pr.pos {p : Int} (h : Pr p) : 0 < p := by rcases h with rfl | rfl | rfl | rfl <;> decide
theorem Pr.two {p : Int} (h : Pr p) : 2 ≤ p := by rcases h with rfl | rfl | rfl | rfl <;> decide
theorem Pr.le {p : Int} (h : Pr p) : p ≤ 7 := by rcases h with rfl | rfl | rfl | rfl <;> decide
theorem Pr.ne {p : Int} (h : Pr p) : p ≠ 0 := by have := h.pos; omega
theorem Pr.bd {p : Int} (h : Pr p) : B 3 p := by rcases h with rfl | rfl | rfl | rfl <;> decide
theorem res_mul (q : Nat) (hq : 0 < q) (h : ∀ r, r < q → ∀ s, s < q → (r * s) % q = 0 → r = 0 ∨ s = 0) {a b : Int} (z : (q : Int) ∣ a * b) : (q : Int) ∣ a ∨ (q : Int) ∣ b := by
  have hq' : (q : Int) ≠ 0 := by omega
  rw [Int.dvd_iff_emod_eq_zero, Int.mul_emod] at z
  rw [Int.dvd_iff_emod_eq_zero, Int.dvd_iff_emod_eq_zero]
  have a1 := Int.emod_nonneg a hq'
  have b1 := Int.emod_nonneg b hq'
  have a2 := Int.emod_lt_of_pos a (show (0 : Int) < q by omega)
  have b2 := Int.emod_lt_of_pos b (show (0 : Int) < q by omega)
  obtain ⟨r, hr⟩ : ∃ r : Nat, a % q = r := ⟨(a % q).toNat, by omega⟩
  obtain ⟨s, hs⟩ : ∃ s : Nat, b % q = s := ⟨(b % q).toNat, by omega⟩
  rw [hr, hs] at z
  have z : ((r * s % q : Nat) : Int) = 0 := by push_cast; exact z
  rcases h r (by omega) s (by omega) (by omega) with h | h <;> omega
theorem Pr.mul {p a b : Int} (h : Pr p) (z : p ∣ a * b) : p ∣ a ∨ p ∣ b := by
  rcases h with rfl | rfl | rfl | rfl
  · exact res_mul 2 (by decide) (by decide) z
  · exact res_mul 3 (by decide) (by decide) z
  · exact res_mul 5 (by decide) (by decide) z
  · exact res_mul 7 (by decide) (by decide) z
theorem res_inv (q : Nat) (hq : 0 < q) (h : ∀ r, r < q → r ≠ 0 → ∃ x, x < q ∧ (r * x) % q = 1) {n : Int} (z : ¬ (q : Int) ∣ n) : ∃ x : Nat, x < q ∧ n * x % q = 1 := by
  have hq' : (q : Int) ≠ 0 := by omega
  rw [Int.dvd_iff_emod_eq_zero] at z
  have a1 := Int.emod_nonneg n hq'
  have a2 := Int.emod_lt_of_pos n (show (0 : Int) < q by omega)
  obtain ⟨r, hr⟩ : ∃ r : Nat, n % q = r := ⟨(n % q).toNat, by omega⟩
  obtain ⟨x, hx, e⟩ := h r (by omega) (by omega)
  refine ⟨x, hx, ?_⟩
  rw [Int.mul_emod, hr]
  have : ((r * x % q : Nat) : Int) = 1 := by rw [e]; rfl
  rw [← this]
  push_cast
  rw [Int.emod_eq_of_lt (show (0 : Int) ≤ x by omega) (show (x : Int) < q by omega)]
theorem Pr.inv {p n : Int} (h : Pr p) (z : ¬ p ∣ n) : ∃ x : Nat, (x : Int) < p ∧ n * x % p = 1 := by
  rcases h with rfl | rfl | rfl | rfl
  · obtain ⟨x, a, b⟩ := res_inv 2 (by decide) (by decide) z; exact ⟨x, by omega, b⟩
  · obtain ⟨x, a, b⟩ := res_inv 3 (by decide) (by decide) z; exact ⟨x, by omega, b⟩
  · obtain ⟨x, a, b⟩ := res_inv 5 (by decide) (by decide) z; exact ⟨x, by omega, b⟩
  · obtain ⟨x, a, b⟩ := res_inv 7 (by decide) (by decide) z; exact ⟨x, by omega, b⟩
/-- p divides n k times and no more -/
def Vk (p n : Int) (k : Nat) : Prop := ∃ m, n = p ^ k * m ∧ ¬ p ∣ m
theorem Vk.one {p n : Int} {k l : Nat} (hp : p ≠ 0) (h : Vk p n k) (h' : Vk p n l) : k = l := by
  have go : ∀ {k l : Nat}, Vk p n k → Vk p n l → ¬ k < l := by
    rintro k l ⟨m, e, z⟩ ⟨m', e', z'⟩ hlt
    apply z
    obtain ⟨d, rfl⟩ : ∃ d, l = k + 1 + d := ⟨l - k - 1, by omega⟩
    rw [e, Int.pow_add, Int.pow_succ, Int.mul_assoc, Int.mul_assoc] at e'
    have := Int.eq_of_mul_eq_mul_left (Int.pow_ne_zero hp) e'
    exact ⟨p ^ d * m', this⟩
  have a := go h h'
  have b := go h' h
  omega
theorem Vk.ex {p : Int} (hp : 2 ≤ p) : ∀ (N : Nat) (n : Int), n.natAbs ≤ N → n ≠ 0 → ∃ k, k ≤ N ∧ Vk p n k
  | 0, n, h, h0 => by omega
  | N + 1, n, h, h0 => by
    by_cases hd : p ∣ n
    · obtain ⟨m, rfl⟩ := hd
      have hm : m ≠ 0 := fun z => h0 (by rw [z, Int.mul_zero])
      have hlt : m.natAbs ≤ N := by
        rw [Int.natAbs_mul] at h
        have h2 : 2 ≤ p.natAbs := by omega
        have := Nat.mul_le_mul_right m.natAbs h2
        omega
      obtain ⟨k, hk, m', e, z⟩ := Vk.ex hp N m hlt hm
      exact ⟨k + 1, by omega, m', by rw [Int.pow_succ, e, ← Int.mul_assoc, Int.mul_comm p], z⟩
    · exact ⟨0, by omega, n, by rw [Int.pow_zero, Int.one_mul], hd⟩
open Classical in
noncomputable def vp (p n : Int) : Nat := if h : ∃ k, Vk p n k then h.choose else 0
theorem vp_eq {p n : Int} {k : Nat} (hp : p ≠ 0) (h : Vk p n k) : vp p n = k := by
  unfold vp
  have z : ∃ k, Vk p n k := ⟨k, h⟩
  rw [dif_pos z]
  exact z.choose_spec.one hp h
theorem vp_spec {p n : Int} (hp : 2 ≤ p) (h : n ≠ 0) : Vk p n (vp p n) := by
  obtain ⟨k, -, hk⟩ := Vk.ex hp n.natAbs n (Nat.le_refl _) h
  rw [vp_eq (by omega) hk]; exact hk
theorem pow_natAbs_le {p : Int} (hp : 2 ≤ p) (k : Nat) {m : Int} (hm : m ≠ 0) : 2 ^ k ≤ (p ^ k * m).natAbs := by
  rw [Int.natAbs_mul, Int.natAbs_pow]
  have h1 : 2 ^ k ≤ p.natAbs ^ k := Nat.pow_le_pow_left (by omega) k
  have h2 : 1 ≤ m.natAbs := by omega
  calc 2 ^ k ≤ p.natAbs ^ k := h1
    _ = p.natAbs ^ k * 1 := by rw [Nat.mul_one]
    _ ≤ p.natAbs ^ k * m.natAbs := Nat.mul_le_mul_left _ h2
theorem vp_lt {p n : Int} {b : Nat} (hp : 2 ≤ p) (h : n ≠ 0) (hb : B b n) : vp p n < b := by
  obtain ⟨m, e, z⟩ := vp_spec hp h
  have hm : m ≠ 0 := fun y => z (by rw [y]; exact Int.dvd_zero p)
  have := pow_natAbs_le hp (vp p n) hm
  rw [← e] at this
  have h3 : 2 ^ vp p n < 2 ^ b := Nat.lt_of_le_of_lt this hb
  exact (Nat.pow_lt_pow_iff_right (by decide)).mp h3
/-! ### the power of a number -/
theorem mod_zero {p n : Int} : (n % p == 0) = decide (p ∣ n) := by
  rw [Bool.eq_iff_iff, beq_iff_eq, decide_eq_true_iff, Int.dvd_iff_emod_eq_zero]
theorem loop_power (P : PD) {p : Int} (hp : Pr p) : ∀ (k n : Nat) (x c : Int), k < n → Vk p x k → (∀ y, P.nx [some (.d (.int p)), some (.d (.int y)), some (.d (.int (c + k)))]) →
    wWhileN (cT (e2 eqR (e2 modD (eVar 1) (eVar 0)) (eC (.int 0)))) (wSeq (wSet 1 (e2 fdivD (eVar 1) (eVar 0))) (wSet 2 (e2 addD (eVar 2) (eC (.int 1))))) P n [some (.d (.int p)), some (.d (.int x)), some (.d (.int c))] := by
  intro k
  have pp := hp.pos
  have bp : Bd p 3 := ⟨hp.bd⟩
  induction k with
  | zero =>
    rintro (_ | n) x c h ⟨m, e, z⟩ hP
    · omega
    rw [Int.pow_zero, Int.one_mul] at e
    subst e
    have e0 : decide (p ∣ x) = false := decide_eq_false z
    exact while_end (by simp! [mod_zero, e0]) (by have := hP x; simpa using this)
  | succ k ih =>
    rintro (_ | n) x c h ⟨m, e, z⟩ hP
    · omega
    have e0 : decide (p ∣ x) = true := decide_eq_true ⟨p ^ k * m, by rw [e, Int.pow_succ, Int.mul_comm (p ^ k), Int.mul_assoc]⟩
    have e3 : x / p = p ^ k * m := by
      rw [e, Int.pow_succ, Int.mul_comm (p ^ k), Int.mul_assoc, Int.mul_ediv_cancel_left _ hp.ne]
    refine while_go (by simp! [mod_zero, e0]) (q_set (v := .int (x / p)) (by simp! []) ?_)
    simp_arith!
    refine z_set (v := .int (c + 1)) (by simp! []) ?_
    simp_arith!
    rw [e3]
    exact ih n _ _ (by omega) ⟨m, rfl, z⟩ fun y => by
      have := hP y
      rw [show c + ((k + 1 : Nat) : Int) = c + 1 + k by push_cast; omega] at this
      exact this
theorem ev_power_of {p n : Int} (hp : Pr p) (h : n ≠ 0) : f_power_of [.int p, .int n] = okI (vp p n) := by
  refine outF_ev rfl ?_
  have e0 : (n == 0) = false := by simpa using h
  simp_arith!
  refine q_ifN (t := false) (by simp! [e0]) (fun z => by cases z) fun _ => ?_
  refine q_set (v := .int 0) (by simp! []) ?_
  simp_arith!
  refine q_while ⟨vp p n + 1, loop_power _ hp _ _ _ _ (Nat.lt_succ_self _) (vp_spec hp.two h) fun y => ?_⟩
  simp_arith!
  rw [Int.zero_add]
  exact z_ret (by simp! []) rfl
theorem ev_power_of0 {p : Int} : f_power_of [.int p, .int 0] = okD .non := by
  refine outF_ev rfl ?_
  have e0 : ((0 : Int) == 0) = true := rfl
  simp_arith!
  exact q_ifN (t := true) (by simp! [e0]) (fun _ => z_ret (by simp! []) rfl) fun z => by cases z
/-! ### powers -/
theorem loop_raised (P : PD) : ∀ (n k b c : Nat) (x f : Int), k < n → B b x → B c f → c + b * k ≤ 400000 → (∀ y, P.nx [some (.d (.int y)), some (.d (.int 0)), some (.d (.int (f * x ^ k)))]) →
    wWhileN (cT (e2 gtR (eVar 1) (eC (.int 0)))) (wSeq (wIf (cT (e2 eqR (e2 modD (eVar 1) (eC (.int 2))) (eC (.int 1)))) (wSet 2 (e2 mulD (eVar 2) (eVar 0))) (wNop)) (wSeq (wSet 0 (e2 mulD (eVar 0) (eVar 0))) (wSet 1 (e2 fdivD (eVar 1) (eC (.int 2)))))) P n [some (.d (.int x)), some (.d (.int k)), some (.d (.int f))] := by
  intro n
  induction n with
  | zero => intro k b c x f h; omega
  | succ n ih =>
    intro k b c x f h hx hf hs hP
    by_cases hk : k = 0
    · subst hk
      have e0 : decide ((0 : Int) < ((0 : Nat) : Int)) = false := by decide
      exact while_end (by simp! [e0]) (by have := hP x; simpa using this)
    · have e0 : decide ((0 : Int) < (k : Int)) = true := decide_eq_true (by omega)
      have hbk : b * 1 ≤ b * k := Nat.mul_le_mul_left b (by omega)
      have bx : Bd x b := ⟨hx⟩
      have bf : Bd f c := ⟨hf⟩
      have l1 : c + b < 1000000 := by omega
      have l2 : b + b < 1000000 := by omega
      have hd : ((k : Int) / 2) = ((k / 2 : Nat) : Int) := by omega
      have eo : ((k : Int) % 2 == 1) = decide (k % 2 = 1) := by
        rw [Bool.eq_iff_iff, beq_iff_eq, decide_eq_true_iff]; omega
      have hbk2 : b * (k / 2) * 2 ≤ b * k := by rw [Nat.mul_assoc]; exact Nat.mul_le_mul_left b (by omega)
      refine while_go (by simp! [e0]) ?_
      refine q_ifJ (fun ρ => ρ = [some (.d (.int x)), some (.d (.int k)), some (.d (.int (if k % 2 = 1 then f * x else f)))]) (t := decide (k % 2 = 1)) (by simp! [eo]) ?_ ?_ ?_
      · rintro ρ rfl
        refine q_set (v := .int (x * x)) (by simp! []) ?_
        simp_arith!
        refine z_set (v := .int ((k / 2 : Nat) : Int)) (by simp! [hd]) ?_
        simp_arith!
        refine ih (k / 2) (b + b) (if k % 2 = 1 then c + b else c) _ _ (by omega) (hx.mul hx (Nat.le_refl _)) ?_ ?_ fun y => ?_
        · split
          · exact hf.mul hx (Nat.le_refl _)
          · exact hf
        · have h1 : (b + b) * (k / 2) = b * (k / 2) * 2 := by rw [Nat.add_mul]; omega
          rw [h1]
          split
          · rename_i ho
            have h2 : b * (k / 2) * 2 + b = b * k := by
              rw [Nat.mul_assoc]
              have : b * (k / 2 * 2) + b * 1 = b * (k / 2 * 2 + 1) := (Nat.mul_add _ _ _).symm
              rw [Nat.mul_one] at this
              rw [this, show k / 2 * 2 + 1 = k by omega]
            omega
          · omega
        · have h3 : (if k % 2 = 1 then f * x else f) * (x * x) ^ (k / 2) = f * x ^ k := by
            rw [show x * x = x ^ 2 by rw [Int.pow_succ, Int.pow_succ, Int.pow_zero, Int.one_mul], ← Int.pow_mul]
            split
            · rename_i ho
              rw [Int.mul_assoc, Int.mul_comm x, ← Int.pow_succ, show (2 * (k / 2)).succ = k by omega]
            · rw [show 2 * (k / 2) = k by omega]
          rw [h3]
          exact hP y
      · intro K hK ht
        have ho := of_decide_eq_true ht
        exact z_set (v := .int (f * x)) (by simp! []) (hK _ (by rw [if_pos ho]; rfl))
      · intro K hK ht
        have ho := of_decide_eq_false ht
        exact hK _ (by rw [if_neg ho])
theorem ev_raised {x : Int} {b k : Nat} (hx : B b x) (l : b * k ≤ 300000) : f_raised [.int x, .int k] = okI (x ^ k) := by
  refine outF_ev rfl ?_
  simp_arith!
  refine q_set (v := .int 1) (by simp! []) ?_
  simp_arith!
  refine q_while ⟨k + 1, loop_raised _ _ k b 1 x 1 (Nat.lt_succ_self _) hx (by decide) (by omega) fun y => ?_⟩
  simp_arith!
  rw [Int.one_mul]
  exact z_ret (by simp! []) rfl
/-! ### turned over by a power of the prime -/
theorem Pr.pow_bd {p : Int} (hp : Pr p) (k : Nat) : B (3 * k + 1) (p ^ k) := hp.bd.pow k
theorem Pr.pow_pos {p : Int} (hp : Pr p) (k : Nat) : 0 < p ^ k := Int.pow_pos hp.pos
theorem bd_lt {x y : Int} {b : Nat} (h0 : 0 ≤ x) (h : x < y) (hy : B b y) : B b x := hy.le (by omega)
theorem loop_find (P : PD) {p n : Int} {b : Nat} (hp : Pr p) (hn : B b n) (l : b < 900000) (x2 x4 : Option SV) (x : Nat) (hx : (x : Int) < p) (he : n * x % p = 1) (hP : ∀ f : Int, 1 ≤ f → f < p → n * f % p = 1 → P.nx [some (.d (.int p)), some (.d (.int n)), x2, some (.d (.int f)), x4]) : ∀ (d c : Nat), c + d = x → 1 ≤ c →
    wWhileN (cT (e2 neR (e2 modD (e2 mulD (eVar 1) (eVar 3)) (eVar 0)) (eC (.int 1)))) (wSet 3 (e2 addD (eVar 3) (eC (.int 1)))) P (d + 1) [some (.d (.int p)), some (.d (.int n)), x2, some (.d (.int c)), x4] := by
  intro d
  have pp := hp.pos
  have p7 := hp.le
  have bn : Bd n b := ⟨hn⟩
  have l1 : b + 10 < 1000000 := by omega
  induction d with
  | zero =>
    intro c hc h1
    have bc : Bd (c : Int) 10 := ⟨B.of (by omega) (by omega)⟩
    have e0 : (n * (c : Int) % p == 1) = true := by rw [show c = x by omega, he]; rfl
    exact while_end (by simp! [e0]) (hP c (by omega) (by omega) (by rw [show c = x by omega]; exact he))
  | succ d ih =>
    intro c hc h1
    have bc : Bd (c : Int) 10 := ⟨B.of (by omega) (by omega)⟩
    by_cases hz : n * (c : Int) % p = 1
    · have e0 : (n * (c : Int) % p == 1) = true := by rw [hz]; rfl
      exact while_end (by simp! [e0]) (hP c (by omega) (by omega) hz)
    · have e0 : (n * (c : Int) % p == 1) = false := by simpa using hz
      refine while_go (by simp! [e0]) (z_set (v := .int ((c + 1 : Nat) : Int)) (by simp! []) ?_)
      simp_arith!
      exact ih (c + 1) (by omega) (by omega)
theorem newton {p n f M : Int} {s t : Nat} (hM : M = p ^ t) (hp : 0 < p) (ht : t ≤ 2 * s) (h : p ^ s ∣ n * f - 1) : M ∣ n * (f * (2 - n * f) % M) - 1 := by
  obtain ⟨c, hc⟩ := h
  have e : n * (f * (2 - n * f) % M) - 1 = M * (-(p ^ (2 * s - t) * (c * c)) - n * (f * (2 - n * f) / M)) := by
    rw [Int.emod_def]
    have e2 : M * p ^ (2 * s - t) = p ^ s * p ^ s := by
      rw [hM, ← Int.pow_add, ← Int.pow_add]; congr 1; omega
    have e3 : n * f = p ^ s * c + 1 := by omega
    generalize f * (2 - n * f) / M = q
    grind
  exact ⟨_, e⟩
theorem loop_newton (P : PD) {p n : Int} {b k : Nat} (hp : Pr p) (hn : B b n) (l : b ≤ 100000) (lk : k ≤ 10000) (hP : ∀ f : Int, 0 ≤ f → f < p ^ k → p ^ k ∣ n * f - 1 → P.nx [some (.d (.int p)), some (.d (.int n)), some (.d (.int k)), some (.d (.int f)), some (.d (.int k))]) : ∀ (m s : Nat) (f : Int), k - s < m → 1 ≤ s → s ≤ k → 0 ≤ f → f < p ^ s → p ^ s ∣ n * f - 1 →
    wWhileN (cT (e2 ltR (eVar 4) (eVar 2))) (wSeq (wSet 4 (eCall min2R (aCons (e2 mulD (eC (.int 2)) (eVar 4)) (aCons (eVar 2) (aNil))))) (wSet 3 (e2 modD (e2 mulD (eVar 3) (e2 subD (eC (.int 2)) (e2 mulD (eVar 1) (eVar 3)))) (eCall f_raised (aCons (eVar 0) (aCons (eVar 4) (aNil))))))) P m [some (.d (.int p)), some (.d (.int n)), some (.d (.int k)), some (.d (.int f)), some (.d (.int s))] := by
  intro m
  induction m with
  | zero => intro s f h; omega
  | succ m ih =>
    intro s f h h1 hs h0 hf hd
    by_cases hk : s = k
    · subst hk
      have e0 : decide ((s : Int) < (s : Int)) = false := decide_eq_false (by omega)
      exact while_end (by simp! [e0]) (hP f h0 hf hd)
    · have e0 : decide ((s : Int) < (k : Int)) = true := decide_eq_true (by omega)
      obtain ⟨t, ht, e1⟩ : ∃ t : Nat, (s < t ∧ t ≤ k ∧ t ≤ 2 * s) ∧ (if (k : Int) < 2 * (s : Int) then (k : Int) else 2 * (s : Int)) = (t : Int) := by
        by_cases h2 : k < 2 * s
        · exact ⟨k, ⟨by omega, by omega, by omega⟩, by rw [if_pos (by omega)]⟩
        · exact ⟨2 * s, ⟨by omega, by omega, by omega⟩, by rw [if_neg (by omega)]; push_cast; rfl⟩
      have bs : Bd (s : Int) 20 := ⟨B.of (by omega) (by omega)⟩
      have bf : Bd f 30001 := ⟨(bd_lt h0 hf (hp.pow_bd s)).mono (by omega)⟩
      have bn : Bd n 100000 := ⟨hn.mono l⟩
      have pt := hp.pow_pos t
      refine while_go (by simp! [e0]) (q_set (v := .int t) (by simp! [e1]) ?_)
      simp_arith!
      refine z_set (v := .int (f * (2 - n * f) % p ^ t)) (by simp! [ev_raised (k := t) hp.bd (by omega)]) ?_
      simp_arith!
      exact ih t _ (by omega) (by omega) (by omega) (Int.emod_nonneg _ (by omega)) (Int.emod_lt_of_pos _ pt) (newton rfl hp.pos ht.2.2 hd)
theorem ev_over_by {p n : Int} {b k : Nat} (hp : Pr p) (hn : B b n) (hd : 0 < k → ¬ p ∣ n) (l : b ≤ 100000) (lk : k ≤ 10000) : ∃ x : Int, (0 ≤ x ∧ x < p ^ k ∧ p ^ k ∣ n * x - 1) ∧ f_over_by [.int p, .int n, .int k] = okI x := by
  refine postI rfl ?_
  simp_arith!
  by_cases hk : k = 0
  · subst hk
    have e0 : (((0 : Nat) : Int) == 0) = true := rfl
    exact q_ifN (t := true) (by simp! [e0]) (fun _ => z_ret (by simp! []) ⟨0, ⟨by decide, by rw [Int.pow_zero]; decide, by rw [Int.pow_zero]; exact Int.one_dvd _⟩, rfl⟩) fun z => by cases z
  · have e0 : ((k : Int) == 0) = false := by simpa using hk
    obtain ⟨x, hx, he⟩ := hp.inv (hd (by omega))
    have hx1 : 1 ≤ x := by
      rcases Nat.eq_zero_or_pos x with z | z
      · rw [z] at he; simp at he
      · exact z
    refine q_ifN (t := false) (by simp! [e0]) (fun z => by cases z) fun _ => ?_
    refine q_set (v := .int 1) (by simp! []) ?_
    simp_arith!
    refine q_while ⟨x - 1 + 1, loop_find _ hp hn (by omega) _ _ x hx he (fun f h1 h2 h3 => ?_) (x - 1) 1 (by omega) (by decide)⟩
    simp_arith!
    refine q_set (v := .int 1) (by simp! []) ?_
    simp_arith!
    refine q_while ⟨k + 1, loop_newton _ hp hn l lk (fun g g1 g2 g3 => ?_) (k + 1) 1 f (by omega) (by decide) (by omega) (by omega) (by rw [Int.pow_succ, Int.pow_zero, Int.one_mul]; exact h2) ?_⟩
    · simp_arith!
      exact z_ret (by simp! []) ⟨g, ⟨g1, g2, g3⟩, rfl⟩
    · rw [Int.pow_succ, Int.pow_zero, Int.one_mul]
      exact Int.dvd_of_emod_eq_zero (by
        rw [Int.sub_emod, h3]
        have := hp.two
        rw [Int.emod_eq_of_lt (show (0 : Int) ≤ 1 by decide) (by omega)]
        rfl)
end PT
/-! PM: fractions and the power of a prime in them. -/
namespace PT
open PySem (Str)
theorem not_dvd_mul {p a b : Int} (hp : Pr p) (ha : ¬ p ∣ a) (hb : ¬ p ∣ b) : ¬ p ∣ a * b := fun h => (hp.mul h).elim ha hb
theorem Vk.mul {p x y : Int} {i j : Nat} (hp : Pr p) (h : Vk p x i) (g : Vk p y j) : Vk p (x * y) (i + j) := by
  obtain ⟨m, rfl, a⟩ := h
  obtain ⟨m', rfl, b⟩ := g
  exact ⟨m * m', by rw [Int.pow_add]; grind, not_dvd_mul hp a b⟩
theorem vp_mul {p x y : Int} (hp : Pr p) (hx : x ≠ 0) (hy : y ≠ 0) : vp p (x * y) = vp p x + vp p y := vp_eq hp.ne ((vp_spec hp.two hx).mul hp (vp_spec hp.two hy))
theorem not_one {p : Int} (hp : Pr p) : ¬ p ∣ 1 := fun h => by
  have := Int.le_of_dvd (by decide) h
  have := hp.two
  omega
theorem vp_pow {p : Int} (hp : Pr p) (k : Nat) : vp p (p ^ k) = k := vp_eq hp.ne ⟨1, by rw [Int.mul_one], not_one hp⟩
theorem vp_one {p : Int} (hp : Pr p) : vp p 1 = 0 := vp_eq hp.ne ⟨1, by rw [Int.pow_zero]; rfl, not_one hp⟩
theorem vp_zero {p n : Int} (hp : Pr p) (h : ¬ p ∣ n) : vp p n = 0 := vp_eq hp.ne ⟨n, by rw [Int.pow_zero, Int.one_mul], h⟩
theorem vp_neg {p n : Int} (hp : Pr p) : vp p (-n) = vp p n := by
  by_cases h : n = 0
  · rw [h]; rfl
  · obtain ⟨m, e, z⟩ := vp_spec hp.two h
    exact vp_eq hp.ne ⟨-m, by rw [Int.mul_neg, ← e], fun y => z (Int.dvd_neg.mp y)⟩
/-- the power of a fraction -/
noncomputable def vq (p : Int) (q : Rat) : Int := (vp p q.num : Int) - vp p q.den
theorem cast_ne {b : Int} (h : b ≠ 0) : (b : Rat) ≠ 0 := by
  intro z; apply h; exact_mod_cast z
theorem vq_div {p a b : Int} (hp : Pr p) (ha : a ≠ 0) (hb : b ≠ 0) : vq p ((a : Rat) / (b : Rat)) = vp p a - vp p b := by
  have hb' := cast_ne hb
  have ha' := cast_ne ha
  generalize hq : (a : Rat) / (b : Rat) = q
  have hq0 : q ≠ 0 := by rw [← hq]; intro z; grind
  have hn : q.num ≠ 0 := fun z => hq0 (fr_num.mp z)
  have e : q.num * b = a * q.den := by
    have h1 : ((q.num : Int) : Rat) / ((q.den : Int) : Rat) = q := by rw [← Rat.divInt_eq_div, Rat.num_divInt_den]
    have hd : ((q.den : Int) : Rat) ≠ 0 := cast_ne (den_ne q)
    have h2 : (q.num : Rat) * (b : Rat) = (a : Rat) * ((q.den : Int) : Rat) := by
      generalize (q.num : Rat) = N at *
      generalize ((q.den : Int) : Rat) = M at *
      generalize (a : Rat) = a' at *
      generalize (b : Rat) = b' at *
      subst hq
      clear hq0
      grind
    exact_mod_cast h2
  have h1 := vp_mul hp hn hb
  have h2 := vp_mul hp ha (den_ne q)
  rw [e, h2] at h1
  unfold vq
  omega
theorem num_den (q : Rat) : ((q.num : Int) : Rat) / ((q.den : Int) : Rat) = q := by rw [← Rat.divInt_eq_div, Rat.num_divInt_den]
theorem vq_mul {p : Int} {q r : Rat} (hp : Pr p) (hq : q ≠ 0) (hr : r ≠ 0) : vq p (q * r) = vq p q + vq p r := by
  have h1 : q.num ≠ 0 := fun z => hq (fr_num.mp z)
  have h2 : r.num ≠ 0 := fun z => hr (fr_num.mp z)
  have e : q * r = ((q.num * r.num : Int) : Rat) / ((q.den * r.den : Int) : Rat) := by
    have a := num_den q
    have b := num_den r
    have c := cast_ne (den_ne q)
    have d := cast_ne (den_ne r)
    push_cast at *
    grind
  rw [e, vq_div hp (Int.mul_ne_zero h1 h2) (Int.mul_ne_zero (den_ne q) (den_ne r)), vp_mul hp h1 h2, vp_mul hp (den_ne q) (den_ne r)]
  unfold vq
  omega
theorem vq_int {p a : Int} (hp : Pr p) : vq p (a : Rat) = vp p a := by
  unfold vq
  have : ((a : Rat).den : Int) = 1 := rfl
  rw [this, vp_one hp]
  have : (a : Rat).num = a := rfl
  rw [this]; omega
theorem vq_one {p : Int} (hp : Pr p) : vq p 1 = 0 := by
  have := vq_int (a := 1) hp
  rw [vp_one hp] at this
  exact this
theorem vq_neg {p : Int} {q : Rat} (hp : Pr p) : vq p (-q) = vq p q := by
  unfold vq
  rw [Rat.neg_num, Rat.neg_den, vp_neg hp]
theorem vq_inv {p : Int} {q : Rat} (hp : Pr p) (hq : q ≠ 0) : vq p q⁻¹ = -vq p q := by
  have h : q⁻¹ ≠ 0 := by intro z; grind
  have e : q * q⁻¹ = 1 := by grind
  have := vq_mul hp hq h
  rw [e, vq_one hp] at this
  omega
theorem vq_dv {p : Int} {q r : Rat} (hp : Pr p) (hq : q ≠ 0) (hr : r ≠ 0) : vq p (q / r) = vq p q - vq p r := by
  have h : r⁻¹ ≠ 0 := by intro z; grind
  rw [Rat.div_def, vq_mul hp hq h, vq_inv hp hr]
  omega
/-! powers of the prime -/
noncomputable def pz (p k : Int) : Rat := (p : Rat) ^ k
theorem Pr.cne {p : Int} (hp : Pr p) : (p : Rat) ≠ 0 := cast_ne hp.ne
theorem pz_add {p : Int} (hp : Pr p) (j k : Int) : pz p (j + k) = pz p j * pz p k := Rat.zpow_add hp.cne j k
theorem pz_zero (p : Int) : pz p 0 = 1 := Rat.zpow_zero _
theorem pz_nat (p : Int) (k : Nat) : pz p k = ((p ^ k : Int) : Rat) := by
  unfold pz
  rw [Rat.zpow_natCast]
  push_cast
  rfl
theorem pz_neg (p k : Int) : pz p (-k) = (pz p k)⁻¹ := Rat.zpow_neg _ _
theorem Pr.cpos {p : Int} (hp : Pr p) : (0 : Rat) < (p : Rat) := by exact_mod_cast hp.pos
theorem pz_pos {p : Int} (hp : Pr p) (k : Int) : 0 < pz p k := Rat.zpow_pos hp.cpos
theorem pz_ne {p : Int} (hp : Pr p) (k : Int) : pz p k ≠ 0 := fun z => by
  have := pz_pos hp k
  rw [z] at this
  exact absurd this (by decide)
theorem vq_pz {p : Int} (hp : Pr p) (k : Int) : vq p (pz p k) = k := by
  have nat : ∀ n : Nat, vq p (pz p n) = n := fun n => by rw [pz_nat, vq_int hp, vp_pow hp]
  rcases Int.le_total 0 k with h | h
  · obtain ⟨n, rfl⟩ : ∃ n : Nat, k = n := ⟨k.toNat, by omega⟩
    exact nat n
  · obtain ⟨n, rfl⟩ : ∃ n : Nat, k = -n := ⟨(-k).toNat, by omega⟩
    rw [pz_neg, vq_inv hp (pz_ne hp _), nat]
/-- alike to 0 by p ** k -/
def Al (p k : Int) (q : Rat) : Prop := q = 0 ∨ k ≤ vq p q
theorem vq_num_den {p : Int} (hp : Pr p) {q : Rat} (hq : q ≠ 0) : ∃ a b : Int, ¬ p ∣ a ∧ ¬ p ∣ b ∧ q = pz p (vq p q) * ((a : Rat) / (b : Rat)) := by
  have h1 : q.num ≠ 0 := fun z => hq (fr_num.mp z)
  obtain ⟨a, ea, za⟩ := vp_spec hp.two h1
  obtain ⟨b, eb, zb⟩ := vp_spec hp.two (den_ne q)
  refine ⟨a, b, za, zb, ?_⟩
  have e := num_den q
  have b0 : (b : Rat) ≠ 0 := cast_ne fun z => zb (by rw [z]; exact Int.dvd_zero p)
  have e1 : vq p q = (vp p q.num : Int) + -(vp p (q.den : Int) : Int) := by unfold vq; omega
  have e2 : pz p (vq p q) = pz p (vp p q.num) * (pz p (vp p (q.den : Int)))⁻¹ := by
    rw [e1, pz_add hp, pz_neg]
  have n1 := pz_ne hp (vp p (q.den : Int))
  have hn : (q.num : Rat) = pz p (vp p q.num) * a := by
    rw [pz_nat]
    have : (q.num : Rat) = ((p ^ vp p q.num * a : Int) : Rat) := by rw [← ea]
    rw [this]; push_cast; rfl
  have hd : ((q.den : Int) : Rat) = pz p (vp p (q.den : Int)) * b := by
    rw [pz_nat]
    have : ((q.den : Int) : Rat) = ((p ^ vp p (q.den : Int) * b : Int) : Rat) := by rw [← eb]
    rw [this]; push_cast; rfl
  rw [e2]
  rw [hn, hd] at e
  generalize pz p (vp p q.num) = x at *
  generalize pz p (vp p (q.den : Int)) = y at *
  clear e1 e2 ea eb hn hd h1
  generalize hq2 : (a : Rat) = a' at *
  generalize hb2 : (b : Rat) = b' at *
  clear hq2 hb2
  rw [← e]
  grind
theorem al_iff {p : Int} (hp : Pr p) {k : Int} {q : Rat} : Al p k q ↔ ∃ a b : Int, ¬ p ∣ b ∧ q = pz p k * ((a : Rat) / (b : Rat)) := by
  constructor
  · rintro (rfl | h)
    · refine ⟨0, 1, not_one hp, ?_⟩
      have : ((0 : Int) : Rat) = 0 := rfl
      rw [this]; grind
    · by_cases hq : q = 0
      · subst hq
        refine ⟨0, 1, not_one hp, ?_⟩
        have : ((0 : Int) : Rat) = 0 := rfl
        rw [this]; grind
      obtain ⟨a, b, -, hb, e⟩ := vq_num_den hp hq
      obtain ⟨n, hn⟩ : ∃ n : Nat, vq p q = k + n := ⟨(vq p q - k).toNat, by omega⟩
      refine ⟨p ^ n * a, b, hb, ?_⟩
      rw [hn, pz_add hp, pz_nat] at e
      rw [e]
      push_cast
      grind
  · rintro ⟨a, b, hb, rfl⟩
    by_cases ha : a = 0
    · left
      subst ha
      have : ((0 : Int) : Rat) = 0 := rfl
      rw [this]; grind
    · right
      have hb0 : b ≠ 0 := fun z => hb (by rw [z]; exact Int.dvd_zero p)
      have h0 : (a : Rat) / (b : Rat) ≠ 0 := by
        have := cast_ne ha
        have := cast_ne hb0
        grind
      rw [vq_mul hp (pz_ne hp k) h0, vq_pz hp, vq_div hp ha hb0, vp_zero hp hb]
      omega
theorem Al.add {p : Int} (hp : Pr p) {k : Int} {q r : Rat} (h : Al p k q) (g : Al p k r) : Al p k (q + r) := by
  rw [al_iff hp] at *
  obtain ⟨a, b, hb, rfl⟩ := h
  obtain ⟨c, d, hd, rfl⟩ := g
  refine ⟨a * d + c * b, b * d, not_dvd_mul hp hb hd, ?_⟩
  have h1 : (b : Rat) ≠ 0 := cast_ne fun z => hb (by rw [z]; exact Int.dvd_zero p)
  have h2 : (d : Rat) ≠ 0 := cast_ne fun z => hd (by rw [z]; exact Int.dvd_zero p)
  push_cast
  grind
theorem Al.neg {p : Int} (hp : Pr p) {k : Int} {q : Rat} (h : Al p k q) : Al p k (-q) := by
  rcases h with rfl | h
  · left; grind
  · right; rw [vq_neg hp]; exact h
theorem Al.sub {p : Int} (hp : Pr p) {k : Int} {q r : Rat} (h : Al p k q) (g : Al p k r) : Al p k (q - r) := by
  rw [Rat.sub_eq_add_neg]; exact h.add hp (g.neg hp)
theorem Al.mul {p : Int} (hp : Pr p) {j k : Int} {q r : Rat} (h : Al p j q) (g : Al p k r) : Al p (j + k) (q * r) := by
  by_cases hq : q = 0
  · left; rw [hq]; grind
  by_cases hr : r = 0
  · left; rw [hr]; grind
  right
  rw [vq_mul hp hq hr]
  have a := h.resolve_left hq
  have b := g.resolve_left hr
  omega
theorem Al.le {p : Int} {j k : Int} {q : Rat} (h : Al p k q) (l : j ≤ k) : Al p j q := by
  rcases h with h | h
  · exact .inl h
  · exact .inr (by omega)
theorem Al.zero (p k : Int) : Al p k 0 := .inl rfl
theorem Al.symm {p : Int} (hp : Pr p) {k : Int} {q r : Rat} (h : Al p k (q - r)) : Al p k (r - q) := by
  have := h.neg hp
  rwa [show -(q - r) = r - q by grind] at this
theorem Al.trans {p : Int} (hp : Pr p) {k : Int} {q r s : Rat} (h : Al p k (q - r)) (g : Al p k (r - s)) : Al p k (q - s) := by
  have := h.add hp g
  rwa [show q - r + (r - s) = q - s by grind] at this
end PT
/-! PM: fractions and the prime: what the package's functions answer. -/
namespace PT
open PySem (Str)
/-- power_in(p, a): slots p, a -/
def w_power_in : SF := wSeq (wIf (cT (e2 eqR (eVar 1) (eC k_NOUGHT))) (wRet (eC .non)) (wNop)) (wRet (e2 subD (eCall f_power_of (aCons (eVar 0) (aCons (e2 ixR (eVar 1) (eC (.int 0))) (aNil)))) (eCall f_power_of (aCons (eVar 0) (aCons (e2 ixR (eVar 1) (eC (.int 1))) (aNil))))))
instance : Det w_power_in := by unfold w_power_in; infer_instance
instance : Out w_power_in := by unfold w_power_in; infer_instance
noncomputable def f_power_in : List D → Option R := outF 2 2 w_power_in
theorem len_power_in : ∀ ds r, f_power_in ds = some r → ds.length = 2 := outF_len
theorem does_power_in : Does 2 w_power_in f_power_in := outF_does
/-- prime_power(p, k): slots p, k -/
def w_prime_power : SF := wSeq (wIf (cT (e2 ltR (eVar 1) (eC (.int 0)))) (wRet (eTup (aCons (eC (.int 1)) (aCons (eCall f_raised (aCons (eVar 0) (aCons (e1 negD (eVar 1)) (aNil)))) (aNil))))) (wNop)) (wRet (eTup (aCons (eCall f_raised (aCons (eVar 0) (aCons (eVar 1) (aNil)))) (aCons (eC (.int 1)) (aNil)))))
instance : Det w_prime_power := by unfold w_prime_power; infer_instance
instance : Out w_prime_power := by unfold w_prime_power; infer_instance
noncomputable def f_prime_power : List D → Option R := outF 2 2 w_prime_power
theorem len_prime_power : ∀ ds r, f_prime_power ds = some r → ds.length = 2 := outF_len
theorem does_prime_power : Does 2 w_prime_power f_prime_power := outF_does

/-- rest_by(p, k, a): slots p, k, a, deep, below, whole -/
def w_rest_by : SF := wSeq (wSet 3 (eCall f_power_of (aCons (eVar 0) (aCons (e2 ixR (eVar 2) (eC (.int 1))) (aNil))))) (wSeq (wIf (cT (e2 leR (e2 addD (eVar 1) (eVar 3)) (eC (.int 0)))) (wRet (eC k_NOUGHT)) (wNop)) (wSeq (wSet 4 (eCall f_raised (aCons (eVar 0) (aCons (eVar 3) (aNil))))) (wSeq (wSet 5 (eCall f_raised (aCons (eVar 0) (aCons (e2 addD (eVar 1) (eVar 3)) (aNil))))) (wRet (eCall f_fraction (aCons (e2 modD (e2 mulD (e2 ixR (eVar 2) (eC (.int 0))) (eCall f_over_by (aCons (eVar 0) (aCons (e2 fdivD (e2 ixR (eVar 2) (eC (.int 1))) (eVar 4)) (aCons (e2 addD (eVar 1) (eVar 3)) (aNil)))))) (eVar 5)) (aCons (eVar 4) (aNil))))))))
instance : Det w_rest_by := by unfold w_rest_by; infer_instance
instance : Out w_rest_by := by unfold w_rest_by; infer_instance
noncomputable def f_rest_by : List D → Option R := outF 3 6 w_rest_by
theorem len_rest_by : ∀ ds r, f_rest_by ds = some r → ds.length = 3 := outF_len
theorem does_rest_by : Does 6 w_rest_by f_rest_by := outF_does
/-- alike(p, k, a, b): slots p, k, a, b, power -/
def w_alike : SF := wSeq (wSet 4 (eCall f_power_in (aCons (eVar 0) (aCons (eCall f_minus (aCons (eVar 2) (aCons (eVar 3) (aNil)))) (aNil))))) (wRet (orV (e2 isR (eVar 4) (eC .non)) (e2 geR (eVar 4) (eVar 1))))
instance : Det w_alike := by unfold w_alike; infer_instance
instance : Out w_alike := by unfold w_alike; infer_instance
noncomputable def f_alike : List D → Option R := outF 4 5 w_alike
theorem len_alike : ∀ ds r, f_alike ds = some r → ds.length = 4 := outF_len
theorem does_alike : Does 5 w_alike f_alike := outF_does

/-- the power told: none of 0 -/
noncomputable def vqD (p : Int) (q : Rat) : D := if q = 0 then .non else .int (vq p q)
theorem ev_power_in {p : Int} {q : Rat} (hp : Pr p) : f_power_in [.int p, fr q] = okD (vqD p q) := by
  refine outF_ev rfl ?_
  simp_arith!
  refine q_ifN (t := decide (q = 0)) (by simp! [k_NOUGHT, fr_0]) (fun ht => ?_) fun ht => ?_
  · exact z_ret (by simp! []) (by have := of_decide_eq_true ht; unfold vqD; rw [if_pos this]; rfl)
  · have h := of_decide_eq_false ht
    have hn : q.num ≠ 0 := fun z => h (fr_num.mp z)
    exact z_ret (sv := .d (.int (vq p q))) (by simp! [ev_power_of hp hn, ev_power_of hp (den_ne q)]) (by unfold vqD; rw [if_neg h]; rfl)
/-! powers of the prime as fractions -/
theorem fr_pz {p : Int} (hp : Pr p) (k : Nat) : D.tup [.int (p ^ k), .int 1] = fr (pz p k) := by
  rw [pz_nat, fr_int]
theorem fr_pz_neg {p : Int} (hp : Pr p) (k : Nat) : D.tup [.int 1, .int (p ^ k)] = fr (pz p (-(k : Int))) := by
  have h := hp.pow_pos k
  have e : pz p (-(k : Int)) = Rat.divInt 1 (p ^ k) := by
    rw [pz_neg, pz_nat, Rat.divInt_eq_div, Rat.div_def]
    have : ((1 : Int) : Rat) = 1 := rfl
    rw [this, Rat.one_mul]
  rw [e]
  unfold fr
  rw [Rat.num_divInt, Rat.den_divInt, if_neg (by omega), Int.sign_eq_one_of_pos h, Int.gcd_one_right]
  have e1 : (1 * 1 / ((1 : Nat) : Int)) = 1 := by decide
  have e2 : (((p ^ k).natAbs / 1 : Nat) : Int) = p ^ k := by rw [Nat.div_one]; omega
  rw [e1, e2]
theorem qd_pz {p : Int} (hp : Pr p) (k : Int) : Qd (pz p k) (3 * k.natAbs + 1) := by
  rcases Int.le_total 0 k with h | h
  · obtain ⟨n, rfl⟩ : ∃ n : Nat, k = n := ⟨k.toNat, by omega⟩
    rw [pz_nat, Int.natAbs_natCast]
    exact Qd.int (hp.pow_bd n) (by omega)
  · obtain ⟨n, rfl⟩ : ∃ n : Nat, k = -n := ⟨(-k).toNat, by omega⟩
    have e := fr_pz_neg hp n
    unfold fr at e
    injection e with e
    injection e with e1 e
    injection e with e2 e
    injection e1 with e1
    injection e2 with e2
    rw [Int.natAbs_neg, Int.natAbs_natCast]
    exact ⟨by rw [← e1]; exact B.mono (m := 1) (show B 1 1 by decide) (by omega), by rw [← e2]; exact hp.pow_bd n⟩
theorem ev_prime_power {p k : Int} (hp : Pr p) (l : k.natAbs ≤ 100000) : f_prime_power [.int p, .int k] = okD (fr (pz p k)) := by
  refine outF_ev rfl ?_
  simp_arith!
  refine q_ifN (t := decide (k < 0)) (by simp! []) (fun ht => ?_) fun ht => ?_
  · have h := of_decide_eq_true ht
    obtain ⟨n, rfl⟩ : ∃ n : Nat, k = -n := ⟨(-k).toNat, by omega⟩
    exact z_ret (sv := .d (fr (pz p (-(n : Int))))) (by simp! [Int.neg_neg, ev_raised (k := n) hp.bd (by omega), fr_pz_neg hp]) rfl
  · have h := of_decide_eq_false ht
    obtain ⟨n, rfl⟩ : ∃ n : Nat, k = n := ⟨k.toNat, by omega⟩
    exact z_ret (sv := .d (fr (pz p n))) (by simp! [ev_raised (k := n) hp.bd (by omega), fr_pz hp]) rfl
/-! ### alike -/
open Classical in
theorem ev_alike {p k : Int} {q r : Rat} {m n : Nat} [Qd q m] [Qd r n] (hp : Pr p) (l : m + n < 9000) : f_alike [.int p, .int k, fr q, fr r] = okB (decide (Al p k (q - r))) := by
  refine outF_ev rfl ?_
  simp_arith!
  refine q_set (v := vqD p (q - r)) (by simp! [ev_minus, ev_power_in hp]) ?_
  simp_arith!
  by_cases h : q - r = 0
  · have e : vqD p (q - r) = .non := by unfold vqD; rw [if_pos h]
    have e2 : decide (Al p k (q - r)) = true := decide_eq_true (.inl h)
    rw [e, e2]
    exact z_ret (by simp! [isR]) rfl
  · have e : vqD p (q - r) = .int (vq p (q - r)) := by unfold vqD; rw [if_neg h]
    have e2 : decide (Al p k (q - r)) = decide (k ≤ vq p (q - r)) := by
      rw [decide_eq_decide]; unfold Al; simp [h]
    rw [e, e2]
    exact z_ret (by simp! [isR]) rfl
/-! ### rests -/
structure IsRest (p k : Int) (q r : Rat) : Prop where
  nn : 0 ≤ r
  lt : r < pz p k
  den : ∃ j : Nat, (r.den : Int) = p ^ j
  al : Al p k (q - r)
theorem den_one {p t : Int} (hp : Pr p) (ht : ¬ p ∣ t) (h0 : 0 < t) : ∀ n : Nat, t ∣ p ^ n → t = 1
  | 0, h => by
    rw [Int.pow_zero] at h
    have := Int.le_of_dvd (by decide) h
    omega
  | n + 1, ⟨e, h⟩ => by
    rcases hp.mul (a := t) (b := e) ⟨p ^ n, by rw [← h, Int.pow_succ, Int.mul_comm]⟩ with h1 | ⟨e', rfl⟩
    · exact (ht h1).elim
    · refine den_one hp ht h0 n ⟨e', ?_⟩
      have : p * p ^ n = p * (t * e') := by rw [Int.mul_comm p, ← Int.pow_succ, h]; grind
      exact Int.eq_of_mul_eq_mul_left hp.ne this
theorem dvd_cop {d n b : Int} (h : d ∣ n * b) (c : Int.gcd d n = 1) : d ∣ b :=
  Int.natAbs_dvd_natAbs.mp (Nat.Coprime.dvd_of_dvd_mul_left (k := d.natAbs) (m := n.natAbs) c (by rw [← Int.natAbs_mul]; exact Int.natAbs_dvd_natAbs.mpr h))
/-- whole by p, and a power of the prime times it whole: it is whole -/
theorem whole_of {p : Int} (hp : Pr p) {t : Rat} {a b c : Int} {n : Nat} (hb : ¬ p ∣ b) (h1 : t = (a : Rat) / (b : Rat)) (h2 : t * ((p ^ n : Int) : Rat) = (c : Rat)) : ∃ m : Int, t = (m : Rat) := by
  have hb0 : b ≠ 0 := fun z => hb (by rw [z]; exact Int.dvd_zero p)
  have hbq := cast_ne hb0
  have nd := num_den t
  have dq := cast_ne (den_ne t)
  have e1 : t.num * b = a * t.den := by
    have : ((t.num * b : Int) : Rat) = ((a * t.den : Int) : Rat) := by
      rw [Rat.intCast_mul, Rat.intCast_mul]
      generalize (t.num : Rat) = N at *
      generalize ((t.den : Int) : Rat) = M at *
      generalize (a : Rat) = a' at *
      generalize (b : Rat) = b' at *
      grind
    exact_mod_cast this
  have e2 : t.num * p ^ n = c * t.den := by
    have : ((t.num * p ^ n : Int) : Rat) = ((c * t.den : Int) : Rat) := by
      rw [Rat.intCast_mul, Rat.intCast_mul]
      generalize ((p ^ n : Int) : Rat) = pn at *
      generalize (t.num : Rat) = N at *
      generalize ((t.den : Int) : Rat) = M at *
      generalize (c : Rat) = c' at *
      grind
    exact_mod_cast this
  have cop : Int.gcd t.den t.num = 1 := by
    have := t.reduced
    rw [Int.gcd_comm]
    exact this
  have d1 : (t.den : Int) ∣ b := dvd_cop (n := t.num) ⟨a, by rw [e1, Int.mul_comm]⟩ cop
  have d2 : (t.den : Int) ∣ p ^ n := dvd_cop (n := t.num) ⟨c, by rw [e2, Int.mul_comm]⟩ cop
  have d3 : (t.den : Int) = 1 := den_one hp (fun z => hb (Int.dvd_trans z d1)) (den_pos t) n d2
  have nd2 : (t.num : Rat) / ((1 : Int) : Rat) = t := by rw [← d3]; exact nd
  refine ⟨t.num, ?_⟩
  have o : ((1 : Int) : Rat) = 1 := rfl
  rw [o] at nd2
  generalize (t.num : Rat) = N at *
  clear nd h1 h2
  grind
theorem rest_one {p k : Int} (hp : Pr p) {q q' r r' : Rat} (h : IsRest p k q r) (h' : IsRest p k q' r') (g : Al p k (q - q')) : r = r' := by
  have a : Al p k (r - r') := by
    have h1 := h.al.symm hp
    exact (h1.trans hp g).trans hp h'.al
  obtain ⟨x, y, hy, e⟩ := (al_iff hp).mp a
  obtain ⟨i, hi⟩ := h.den
  obtain ⟨j, hj⟩ := h'.den
  have pk := pz_pos hp k
  have pk0 := pz_ne hp k
  -- (r - r') * p ^ (i + j) is whole
  obtain ⟨c, hc⟩ : ∃ c : Int, (r - r') * pz p ((i + j : Nat) : Int) = (c : Rat) := by
    refine ⟨r.num * p ^ j - r'.num * p ^ i, ?_⟩
    have n1 := num_den r
    have n2 := num_den r'
    rw [hi] at n1
    rw [hj] at n2
    have p1 := cast_ne (Int.ne_of_gt (hp.pow_pos i))
    have p2 := cast_ne (Int.ne_of_gt (hp.pow_pos j))
    have e3 : pz p ((i + j : Nat) : Int) = ((p ^ i : Int) : Rat) * ((p ^ j : Int) : Rat) := by
      rw [pz_nat, Int.pow_add, Rat.intCast_mul]
    rw [e3, Rat.intCast_sub, Rat.intCast_mul, Rat.intCast_mul]
    rw [← n1, ← n2]
    generalize hA : ((p ^ i : Int) : Rat) = A at *
    generalize hB : ((p ^ j : Int) : Rat) = C at *
    rw [n1, n2]
    generalize (r.num : Rat) = N at *
    generalize (r'.num : Rat) = N' at *
    clear e3 hA hB hi hj h h' e a
    subst n1
    subst n2
    grind
  -- a power of the prime times (r - r') / p ^ k is whole
  obtain ⟨n, c2, h2⟩ : ∃ (n : Nat) (c2 : Int), ((r - r') / pz p k) * ((p ^ n : Int) : Rat) = (c2 : Rat) := by
    rcases Int.le_total 0 (k + (i + j : Nat)) with h3 | h3
    · refine ⟨(k + (i + j : Nat)).toNat, c, ?_⟩
      rw [← pz_nat, show (((k + (i + j : Nat)).toNat : Nat) : Int) = k + (i + j : Nat) by omega, pz_add hp, ← hc]
      generalize pz p ((i + j : Nat) : Int) = u at *
      grind
    · refine ⟨0, c * p ^ (-(k + (i + j : Nat))).toNat, ?_⟩
      rw [Rat.intCast_mul, ← pz_nat, ← pz_nat, ← hc, show (((-(k + (i + j : Nat))).toNat : Nat) : Int) = -(k + (i + j : Nat)) by omega, pz_neg, pz_add hp]
      have u0 := pz_ne hp ((i + j : Nat) : Int)
      rw [show ((0 : Nat) : Int) = 0 from rfl, pz_zero]
      generalize pz p ((i + j : Nat) : Int) = u at *
      grind
  obtain ⟨m, hm⟩ := whole_of hp (a := x) (b := y) hy (show (r - r') / pz p k = (x : Rat) / (y : Rat) by rw [e]; generalize (x : Rat) / (y : Rat) = z at *; grind) h2
  have e4 : r - r' = pz p k * (m : Rat) := by rw [← hm]; grind
  have b1 := h.nn
  have b2 := h.lt
  have b3 := h'.nn
  have b4 := h'.lt
  have m0 : m = 0 := by
    rcases (by omega : m = 0 ∨ 1 ≤ m ∨ m ≤ -1) with z | z | z
    · exact z
    · exfalso
      have zq : (1 : Rat) ≤ (m : Rat) := by exact_mod_cast z
      have : pz p k * 1 ≤ pz p k * (m : Rat) := Rat.mul_le_mul_of_nonneg_left zq (Rat.le_of_lt pk)
      grind
    · exfalso
      have zq : (m : Rat) ≤ ((-1 : Int) : Rat) := by exact_mod_cast z
      have o : ((-1 : Int) : Rat) = -1 := rfl
      rw [o] at zq
      have : pz p k * (m : Rat) ≤ pz p k * (-1) := Rat.mul_le_mul_of_nonneg_left zq (Rat.le_of_lt pk)
      grind
  rw [m0] at e4
  have : ((0 : Int) : Rat) = 0 := rfl
  rw [this] at e4
  grind
open Classical in
/-- the rest of q by p ** k -/
noncomputable def rst (p k : Int) (q : Rat) : Rat := if h : ∃ r, IsRest p k q r then h.choose else 0
theorem rst_of {p k : Int} {q r : Rat} (hp : Pr p) (h : IsRest p k q r) : rst p k q = r := by
  unfold rst
  have z : ∃ r, IsRest p k q r := ⟨r, h⟩
  rw [dif_pos z]
  exact rest_one hp z.choose_spec h (by rw [Rat.sub_self]; exact Al.zero p k)
theorem rest_zero {p k : Int} {q : Rat} (hp : Pr p) (h : k + (vp p (q.den : Int) : Int) ≤ 0) : IsRest p k q 0 := by
  refine ⟨by decide, pz_pos hp k, ⟨0, by rw [Int.pow_zero]; rfl⟩, ?_⟩
  rw [show q - 0 = q by grind]
  right
  unfold vq
  omega
theorem rest_make {p k x m : Int} {q : Rat} {d K : Nat} (hp : Pr p) (hK : (K : Int) = k + d) (hm : (q.den : Int) = p ^ d * m) (zm : ¬ p ∣ m) (hx : p ^ K ∣ m * x - 1) : IsRest p k q (Rat.divInt (q.num * x % p ^ K) (p ^ d)) := by
  have pK := hp.pow_pos K
  have pd := hp.pow_pos d
  have t0 := Int.emod_nonneg (q.num * x) (show p ^ K ≠ 0 by omega)
  have t1 := Int.emod_lt_of_pos (q.num * x) pK
  have e := Int.emod_add_mul_ediv (q.num * x) (p ^ K)
  obtain ⟨c, hc⟩ := hx
  have ek : pz p K = pz p k * pz p d := by rw [hK, pz_add hp]
  have pk := pz_pos hp k
  have dk := pz_pos hp d
  have dne := pz_ne hp d
  generalize q.num * x % p ^ K = top at *
  generalize q.num * x / p ^ K = z at *
  have er : Rat.divInt top (p ^ d) = (top : Rat) / pz p d := by rw [Rat.divInt_eq_div, pz_nat]
  refine ⟨?_, ?_, ?_, ?_⟩
  · exact Rat.divInt_nonneg t0 (by omega)
  · rw [er]
    have h1 : (top : Rat) < pz p K := by rw [pz_nat]; exact_mod_cast t1
    rw [ek] at h1
    rw [Rat.div_lt_iff dk]
    exact h1
  · rw [Rat.den_divInt, if_neg (by omega)]
    obtain ⟨g, hg⟩ : (Int.gcd (p ^ d) top : Int) ∣ p ^ d := Int.gcd_dvd_left ..
    have hg0 : (Int.gcd (p ^ d) top : Int) ≠ 0 := fun w => by rw [w] at hg; omega
    have hg1 : (0 : Int) ≤ (Int.gcd (p ^ d) top : Int) := by omega
    have e5 : (((p ^ d).natAbs / Int.gcd (p ^ d) top : Nat) : Int) = g := by
      rw [Int.natCast_ediv]
      have : ((p ^ d).natAbs : Int) = p ^ d := by omega
      rw [this]
      conv => lhs; arg 1; rw [hg]
      exact Int.mul_ediv_cancel_left _ hg0
    rw [e5]
    have g0 : 0 < g := by
      rcases (by omega : g ≤ 0 ∨ 0 < g) with w | w
      · have := Int.mul_nonpos_of_nonneg_of_nonpos hg1 w; omega
      · exact w
    obtain ⟨w, hw, hz⟩ := vp_spec hp.two (show g ≠ 0 by omega)
    have hd : g ∣ p ^ d := ⟨_, by rw [Int.mul_comm]; exact hg⟩
    have w0 : 0 < w := by
      have := hp.pow_pos (vp p g)
      rcases (by omega : w ≤ 0 ∨ 0 < w) with y | y
      · have := Int.mul_nonpos_of_nonneg_of_nonpos (Int.le_of_lt this) y; omega
      · exact y
    have w1 : w = 1 := den_one hp hz w0 d (Int.dvd_trans ⟨p ^ vp p g, by rw [Int.mul_comm]; exact hw⟩ hd)
    exact ⟨vp p g, by rw [w1, Int.mul_one] at hw; exact hw⟩
  · rw [al_iff hp]
    refine ⟨z * m - q.num * c, m, zm, ?_⟩
    rw [er]
    have nd := num_den q
    have m0 : m ≠ 0 := fun y => zm (by rw [y]; exact Int.dvd_zero p)
    have mq := cast_ne m0
    have hm' : ((q.den : Int) : Rat) = pz p d * (m : Rat) := by
      rw [hm, Rat.intCast_mul, pz_nat]
    rw [hm'] at nd
    have e6 : (top : Rat) + pz p K * (z : Rat) = (q.num : Rat) * (x : Rat) := by
      rw [pz_nat, ← Rat.intCast_mul, ← Rat.intCast_mul, ← Rat.intCast_add, e]
    have e7 : (m : Rat) * (x : Rat) - 1 = pz p K * (c : Rat) := by
      have : ((m * x - 1 : Int) : Rat) = ((p ^ K * c : Int) : Rat) := by rw [hc]
      rw [Rat.intCast_sub, Rat.intCast_mul, Rat.intCast_mul, ← pz_nat] at this
      exact this
    rw [Rat.intCast_sub, Rat.intCast_mul, Rat.intCast_mul]
    rw [ek] at e6 e7
    generalize pz p k = A at *
    generalize pz p d = C at *
    generalize (q.num : Rat) = N at *
    generalize (m : Rat) = m' at *
    generalize (x : Rat) = x' at *
    generalize (c : Rat) = c' at *
    generalize (z : Rat) = z' at *
    generalize (top : Rat) = t' at *
    clear e er hm' hm hc t0 t1
    subst nd
    clear ek
    grind
theorem rest_deep {p k : Int} {q : Rat} (hp : Pr p) {n : Nat} (hq : Qd q n) (l : n ≤ 4900) (lk : k.natAbs ≤ 2000) : ∃ r, IsRest p k q r ∧ Qd r (3 * (k.natAbs + n) + 1) ∧ f_rest_by [.int p, .int k, fr q] = okD (fr r) := by
  have hvl : vp p (q.den : Int) < n := vp_lt hp.two (den_ne q) hq.den
  obtain ⟨m, hm, zm⟩ := vp_spec hp.two (den_ne q)
  generalize hd : vp p (q.den : Int) = d at *
  have pd := hp.pow_pos d
  have e1 : f_power_of [.int p, .int (q.den : Int)] = okI d := by rw [ev_power_of hp (den_ne q), hd]
  have bd : Bd (p ^ d) (3 * d + 1) := ⟨hp.pow_bd d⟩
  have bdn : B n (p ^ d) := hq.den.le (by
    rw [hm, Int.natAbs_mul]
    have : 1 ≤ m.natAbs := by
      rcases Nat.eq_zero_or_pos m.natAbs with z | z
      · exact (zm (by rw [show m = 0 by omega]; exact Int.dvd_zero p)).elim
      · exact z
    exact Nat.le_mul_of_pos_right _ this)
  by_cases hk : k + (d : Int) ≤ 0
  · refine ⟨0, rest_zero hp (by rw [hd]; exact hk), (inferInstance : Qd (0 : Rat) 1).mono (by omega), ?_⟩
    refine outF_ev rfl ?_
    simp_arith!
    refine q_set (v := .int d) (by simp! [e1]) ?_
    simp_arith!
    have t1 : decide (k + (d : Int) ≤ 0) = true := decide_eq_true hk
    exact q_ifN (t := true) (by simp! [t1]) (fun _ => z_ret (by simp! [k_NOUGHT, fr_0]) rfl) fun z => by cases z
  · obtain ⟨K, hK⟩ : ∃ K : Nat, (K : Int) = k + d := ⟨(k + d).toNat, by omega⟩
    have bK : Bd (p ^ K) (3 * K + 1) := ⟨hp.pow_bd K⟩
    have bm : B n m := hq.den.le (by
      rw [hm, Int.natAbs_mul]
      have : 1 ≤ (p ^ d).natAbs := by omega
      exact Nat.le_mul_of_pos_left _ this)
    obtain ⟨x, ⟨x0, x1, hx⟩, ex⟩ := ev_over_by (k := K) hp bm (fun _ => zm) (by omega) (by omega)
    have bx : Bd x (3 * K + 1) := ⟨bd_lt x0 x1 (hp.pow_bd K)⟩
    have pK := hp.pow_pos K
    have hr := rest_make hp hK hm zm hx
    have t0 := Int.emod_nonneg (q.num * x) (show p ^ K ≠ 0 by omega)
    have t1 := Int.emod_lt_of_pos (q.num * x) pK
    have bt : B (3 * (k.natAbs + n) + 1) (q.num * x % p ^ K) := (bd_lt t0 t1 (hp.pow_bd K)).mono (by omega)
    refine ⟨_, hr, B.divInt bt ((hp.pow_bd d).mono (by omega)) (by omega), ?_⟩
    refine outF_ev rfl ?_
    simp_arith!
    refine q_set (v := .int d) (by simp! [e1]) ?_
    simp_arith!
    have t1 : decide (k + (d : Int) ≤ 0) = false := decide_eq_false hk
    refine q_ifN (t := false) (by simp! [t1]) (fun z => by cases z) fun _ => ?_
    have e2 : f_raised [.int p, .int d] = okI (p ^ d) := ev_raised hp.bd (by omega)
    have e3 : f_raised [.int p, .int (k + d)] = okI (p ^ K) := by rw [← hK]; exact ev_raised hp.bd (by omega)
    refine q_set (v := .int (p ^ d)) (by simp! [e2]) ?_
    simp_arith!
    refine q_set (v := .int (p ^ K)) (by simp! [e3]) ?_
    simp_arith!
    have e4 : (q.den : Int).fdiv (p ^ d) = m := by rw [fdiv_pos _ pd, hm, Int.mul_ediv_cancel_left _ (by omega)]
    have e5 : fdivD (.int (q.den : Int)) (.int (p ^ d)) = okI m := by rw [fdivR (n := n) (by omega) bdn (by omega), e4]
    rw [hK] at ex
    have l4 : n + (3 * K + 1) < 1000000 := by omega
    exact z_ret (by simp! [e5, ex, ev_fraction bdn (show p ^ d ≠ 0 by omega) (show n < 9000 by omega)]) rfl
/-- a fraction over a power of the prime, less than p ** k -/
theorem rest_self {p k top : Int} {d K : Nat} (hp : Pr p) (hK : (K : Int) = k + d) (t0 : 0 ≤ top) (t1 : top < p ^ K) : IsRest p k (Rat.divInt top (p ^ d)) (Rat.divInt top (p ^ d)) := by
  have pd := hp.pow_pos d
  have dk := pz_pos hp d
  have ek : pz p K = pz p k * pz p d := by rw [hK, pz_add hp]
  have er : Rat.divInt top (p ^ d) = (top : Rat) / pz p d := by rw [Rat.divInt_eq_div, pz_nat]
  refine ⟨Rat.divInt_nonneg t0 (by omega), ?_, ?_, by rw [Rat.sub_self]; exact Al.zero p k⟩
  · rw [er]
    have h1 : (top : Rat) < pz p K := by rw [pz_nat]; exact_mod_cast t1
    rw [ek] at h1
    rw [Rat.div_lt_iff dk]
    exact h1
  · rw [Rat.den_divInt, if_neg (by omega)]
    obtain ⟨g, hg⟩ : (Int.gcd (p ^ d) top : Int) ∣ p ^ d := Int.gcd_dvd_left ..
    have hg0 : (Int.gcd (p ^ d) top : Int) ≠ 0 := fun w => by rw [w] at hg; omega
    have hg1 : (0 : Int) ≤ (Int.gcd (p ^ d) top : Int) := by omega
    have e5 : (((p ^ d).natAbs / Int.gcd (p ^ d) top : Nat) : Int) = g := by
      rw [Int.natCast_ediv]
      have : ((p ^ d).natAbs : Int) = p ^ d := by omega
      rw [this]
      conv => lhs; arg 1; rw [hg]
      exact Int.mul_ediv_cancel_left _ hg0
    rw [e5]
    have g0 : 0 < g := by
      rcases (by omega : g ≤ 0 ∨ 0 < g) with w | w
      · have := Int.mul_nonpos_of_nonneg_of_nonpos hg1 w; omega
      · exact w
    obtain ⟨w, hw, hz⟩ := vp_spec hp.two (show g ≠ 0 by omega)
    have hd : g ∣ p ^ d := ⟨_, by rw [Int.mul_comm]; exact hg⟩
    have w0 : 0 < w := by
      have := hp.pow_pos (vp p g)
      rcases (by omega : w ≤ 0 ∨ 0 < w) with y | y
      · have := Int.mul_nonpos_of_nonneg_of_nonpos (Int.le_of_lt this) y; omega
      · exact y
    have w1 : w = 1 := den_one hp hz w0 d (Int.dvd_trans ⟨p ^ vp p g, by rw [Int.mul_comm]; exact hw⟩ hd)
    exact ⟨vp p g, by rw [w1, Int.mul_one] at hw; exact hw⟩
theorem rest_nought {p k : Int} (hp : Pr p) : IsRest p k 0 0 := ⟨by decide, pz_pos hp k, ⟨0, by rw [Int.pow_zero]; rfl⟩, by rw [Rat.sub_self]; exact Al.zero p k⟩
/-- whole over what the prime does not divide -/
theorem al_div {p a b : Int} (hp : Pr p) (hb : ¬ p ∣ b) : Al p 0 (Rat.divInt a b) := by
  rw [al_iff hp]
  exact ⟨a, b, hb, by rw [pz_zero, Rat.divInt_eq_div, Rat.one_mul]⟩
theorem unit_div {p a b : Int} (hp : Pr p) (ha : ¬ p ∣ a) (hb : ¬ p ∣ b) : Rat.divInt a b ≠ 0 ∧ vq p (Rat.divInt a b) = 0 := by
  have a0 : a ≠ 0 := fun z => ha (by rw [z]; exact Int.dvd_zero p)
  have b0 : b ≠ 0 := fun z => hb (by rw [z]; exact Int.dvd_zero p)
  rw [Rat.divInt_eq_div]
  refine ⟨?_, by rw [vq_div hp a0 b0, vp_zero hp ha, vp_zero hp hb]; rfl⟩
  have := cast_ne a0
  have := cast_ne b0
  grind
theorem step_off {p b : Int} (hp : Pr p) (h : p ∣ b) : ¬ p ∣ b + 1 := fun g => by
  have := Int.dvd_sub g h
  rw [show b + 1 - b = 1 by omega] at this
  exact not_one hp this
end PT
/-! PM: grids: tables up to firm ones and factors. -/
namespace PT
open PySem (Str)
/-- whole by p, its measure of the power 0 -/
structure Fm (p : Int) (F : Tb) : Prop where
  a : Al p 0 F.a
  b : Al p 0 F.b
  c : Al p 0 F.c
  d : Al p 0 F.d
  u : det F ≠ 0
  v : vq p (det F) = 0
theorem det_tbMul (s t : Tb) : det (tbMul s t) = det s * det t := by
  unfold det tbMul; simp only; grind
theorem Al.mul0 {p : Int} (hp : Pr p) {q r : Rat} (h : Al p 0 q) (g : Al p 0 r) : Al p 0 (q * r) := h.mul hp g
theorem Fm.mul {p : Int} (hp : Pr p) {F G : Tb} (h : Fm p F) (g : Fm p G) : Fm p (tbMul F G) := by
  refine ⟨?_, ?_, ?_, ?_, ?_, ?_⟩
  · exact (h.a.mul0 hp g.a).add hp (h.b.mul0 hp g.c)
  · exact (h.a.mul0 hp g.b).add hp (h.b.mul0 hp g.d)
  · exact (h.c.mul0 hp g.a).add hp (h.d.mul0 hp g.c)
  · exact (h.c.mul0 hp g.b).add hp (h.d.mul0 hp g.d)
  · rw [det_tbMul]
    have a := h.u
    have b := g.u
    intro z
    rcases Rat.mul_eq_zero.mp z with y | y
    · exact a y
    · exact b y
  · rw [det_tbMul, vq_mul hp h.u g.u, h.v, g.v]; rfl
def IsLow (p : Int) (qs : List Rat) (m : Int) : Prop := (∀ q ∈ qs, Al p m q) ∧ ∃ q ∈ qs, q ≠ 0 ∧ vq p q = m
theorem IsLow.one {p : Int} {qs : List Rat} {m n : Int} (h : IsLow p qs m) (g : IsLow p qs n) : m = n := by
  obtain ⟨a, q, hq, q0, e⟩ := h
  obtain ⟨b, r, hr, r0, f⟩ := g
  have h1 := (a r hr).resolve_left r0
  have h2 := (b q hq).resolve_left q0
  omega
theorem unit_of {p : Int} {q : Rat} (h : Al p 0 q) (g : ¬ Al p 1 q) : q ≠ 0 ∧ vq p q = 0 := by
  have h0 : q ≠ 0 := fun z => g (.inl z)
  refine ⟨h0, ?_⟩
  have a := h.resolve_left h0
  have b : ¬ 1 ≤ vq p q := fun z => g (.inr z)
  omega
theorem Fm.row {p : Int} (hp : Pr p) {F : Tb} (h : Fm p F) : (F.c ≠ 0 ∧ vq p F.c = 0) ∨ (F.d ≠ 0 ∧ vq p F.d = 0 ∧ ¬ (F.c ≠ 0 ∧ vq p F.c = 0)) := by
  by_cases hc : F.c ≠ 0 ∧ vq p F.c = 0
  · exact .inl hc
  · right
    have c1 : Al p 1 F.c := Classical.byContradiction fun z => hc (unit_of h.c z)
    have hd : ¬ Al p 1 F.d := fun d1 => by
      have a1 : Al p 1 (F.a * F.d) := by have := h.a.mul hp d1; simpa using this
      have b1 : Al p 1 (F.b * F.c) := by have := h.b.mul hp c1; simpa using this
      have : Al p 1 (det F) := a1.sub hp b1
      have := this.resolve_left h.u
      have := h.v
      omega
    exact ⟨(unit_of h.d hd).1, (unit_of h.d hd).2, hc⟩
theorem Fm.low {p : Int} (hp : Pr p) {F : Tb} (h : Fm p F) : IsLow p [F.c, F.d] 0 := by
  refine ⟨fun q hq => ?_, ?_⟩
  · simp only [List.mem_cons, List.mem_nil_iff, or_false] at hq
    rcases hq with rfl | rfl
    · exact h.c
    · exact h.d
  · rcases h.row hp with ⟨a, b⟩ | ⟨a, b, -⟩
    · exact ⟨F.c, by simp, a, b⟩
    · exact ⟨F.d, by simp, a, b⟩
theorem Fm.low4 {p : Int} (hp : Pr p) {F : Tb} (h : Fm p F) : IsLow p [F.a, F.b, F.c, F.d] 0 := by
  refine ⟨fun q hq => ?_, ?_⟩
  · simp only [List.mem_cons, List.mem_nil_iff, or_false] at hq
    rcases hq with rfl | rfl | rfl | rfl
    · exact h.a
    · exact h.b
    · exact h.c
    · exact h.d
  · rcases h.row hp with ⟨a, b⟩ | ⟨a, b, -⟩
    · exact ⟨F.c, by simp, a, b⟩
    · exact ⟨F.d, by simp, a, b⟩
theorem IsLow.sc {p : Int} (hp : Pr p) {qs : List Rat} {m : Int} {l : Rat} (hl : l ≠ 0) (h : IsLow p qs m) : IsLow p (qs.map (· * l)) (m + vq p l) := by
  obtain ⟨a, q, hq, q0, e⟩ := h
  refine ⟨fun r hr => ?_, q * l, List.mem_map.mpr ⟨q, hq, rfl⟩, ?_, by rw [vq_mul hp q0 hl, e]⟩
  · obtain ⟨s, hs, rfl⟩ := List.mem_map.mp hr
    exact (a s hs).mul hp (.inr (Int.le_refl _))
  · intro z
    rcases Rat.mul_eq_zero.mp z with y | y
    · exact q0 y
    · exact hl y
/-- the table of a spot -/
noncomputable def tS (p k : Int) (x : Rat) : Tb := ⟨pz p k, x, 0, 1⟩
/-- the grid of T is the spot (k, x) -/
def SpotIs (p : Int) (T : Tb) (k : Int) (x : Rat) : Prop := IsRest p k x x ∧ ∃ F l, Fm p F ∧ l ≠ 0 ∧ T = tbSc (tbMul (tS p k x) F) l
theorem det_tS {p : Int} (k : Int) (x : Rat) : det (tS p k x) = pz p k := by unfold det tS; simp only; grind
theorem det_tbSc (t : Tb) (q : Rat) : det (tbSc t q) = det t * (q * q) := by
  unfold det tbSc; simp only; grind
theorem mul_ne {q r : Rat} (h : q ≠ 0) (g : r ≠ 0) : q * r ≠ 0 := fun z => (Rat.mul_eq_zero.mp z).elim h g
theorem SpotIs.det_ne {p : Int} (hp : Pr p) {T : Tb} {k : Int} {x : Rat} (h : SpotIs p T k x) : det T ≠ 0 := by
  obtain ⟨-, F, l, hF, hl, rfl⟩ := h
  rw [det_tbSc, det_tbMul, det_tS]
  exact mul_ne (mul_ne (pz_ne hp k) hF.u) (mul_ne hl hl)
theorem SpotIs.reads {p : Int} (hp : Pr p) {T : Tb} {k : Int} {x : Rat} (h : SpotIs p T k x) : ∃ m : Int, IsLow p [T.c, T.d] m ∧ vq p (det T) - 2 * m = k ∧ (T.c ≠ 0 ∧ vq p T.c = m → IsRest p k (T.a / T.c) x) ∧ (¬ (T.c ≠ 0 ∧ vq p T.c = m) → T.d ≠ 0 ∧ IsRest p k (T.b / T.d) x) := by
  obtain ⟨hx, F, l, hF, hl, rfl⟩ := h
  have pk := pz_ne hp k
  have ec : (tbSc (tbMul (tS p k x) F) l).c = F.c * l := by unfold tbSc tbMul tS; simp only; grind
  have ed : (tbSc (tbMul (tS p k x) F) l).d = F.d * l := by unfold tbSc tbMul tS; simp only; grind
  have ea : (tbSc (tbMul (tS p k x) F) l).a = (pz p k * F.a + x * F.c) * l := by unfold tbSc tbMul tS; simp only
  have eb : (tbSc (tbMul (tS p k x) F) l).b = (pz p k * F.b + x * F.d) * l := by unfold tbSc tbMul tS; simp only
  have hrest : ∀ f g : Rat, Al p 0 f → g ≠ 0 → vq p g = 0 → IsRest p k ((pz p k * f + x * g) * l / (g * l)) x := by
    intro f g hf hg hv
    refine ⟨hx.nn, hx.lt, hx.den, ?_⟩
    have e : (pz p k * f + x * g) * l / (g * l) - x = pz p k * (f / g) := by
      generalize pz p k = u at *
      clear hx hF ec ed ea eb hf hv
      grind
    rw [e]
    have h1 : Al p k (pz p k) := .inr (by rw [vq_pz hp]; exact Int.le_refl _)
    have h2 : Al p 0 (f / g) := by
      rcases hf with rfl | hf
      · left; grind
      · by_cases f0 : f = 0
        · left; subst f0; grind
        · right; rw [vq_dv hp f0 hg]; omega
    have := h1.mul hp h2
    rwa [Int.add_zero] at this
  refine ⟨vq p l, ?_, ?_, ?_, ?_⟩
  · have := (hF.low hp).sc hp hl
    rw [Int.zero_add] at this
    rw [ec, ed]
    exact this
  · rw [det_tbSc, det_tbMul, det_tS, vq_mul hp (mul_ne pk hF.u) (mul_ne hl hl), vq_mul hp pk hF.u, vq_mul hp hl hl, vq_pz hp, hF.v]
    omega
  · rintro ⟨h1, h2⟩
    rw [ec] at h1 h2
    have c0 : F.c ≠ 0 := fun z => h1 (by rw [z]; grind)
    rw [vq_mul hp c0 hl] at h2
    rw [ea, ec]
    exact hrest _ _ hF.a c0 (by omega)
  · intro h
    rw [ec] at h
    rcases hF.row hp with ⟨c0, cv⟩ | ⟨d0, dv, -⟩
    · exact (h ⟨mul_ne c0 hl, by rw [vq_mul hp c0 hl, cv]; omega⟩).elim
    · rw [ed, eb]
      exact ⟨mul_ne d0 hl, hrest _ _ hF.b d0 dv⟩
theorem SpotIs.one {p : Int} (hp : Pr p) {T : Tb} {k k' : Int} {x x' : Rat} (h : SpotIs p T k x) (g : SpotIs p T k' x') : k = k' ∧ x = x' := by
  obtain ⟨m, a1, a2, a3, a4⟩ := h.reads hp
  obtain ⟨n, b1, b2, b3, b4⟩ := g.reads hp
  have e := a1.one b1
  subst e
  have ek : k = k' := by omega
  subst ek
  refine ⟨rfl, ?_⟩
  by_cases hc : T.c ≠ 0 ∧ vq p T.c = m
  · exact rest_one hp (a3 hc) (b3 hc) (by rw [Rat.sub_self]; exact Al.zero p k)
  · exact rest_one hp (a4 hc).2 (b4 hc).2 (by rw [Rat.sub_self]; exact Al.zero p k)
end PT
/-! PM: grids: what the package's functions answer. -/
namespace PT
open PySem (Str)
/-- least_power(p, some): slots p, some, part -/
def w_least_power : SF := wRet (eCall minR (aCons (eLc (itD (eVar 1)) (gN 2) (cT (e2 neR (eVar 2) (eC k_NOUGHT))) (eCall f_power_in (aCons (eVar 0) (aCons (eVar 2) (aNil)))) [2]) (aNil)))
instance : Det w_least_power := by unfold w_least_power; infer_instance
instance : Out w_least_power := by unfold w_least_power; infer_instance
noncomputable def f_least_power : List D → Option R := outF 2 3 w_least_power
theorem len_least_power : ∀ ds r, f_least_power ds = some r → ds.length = 2 := outF_len
theorem does_least_power : Does 3 w_least_power f_least_power := outF_does
/-- spot_of(p, table): slots p, table, a, b, c, d, low, k -/
def w_spot_of : SF := wSeq (wAsg (eVar 1) (gTup (gCons (gN 2) (gCons (gN 3) (gCons (gN 4) (gCons (gN 5) (gNil))))))) (wSeq (wSet 6 (eCall f_least_power (aCons (eVar 0) (aCons (eTup (aCons (eVar 4) (aCons (eVar 5) (aNil)))) (aNil))))) (wSeq (wSet 7 (e2 subD (eCall f_power_in (aCons (eVar 0) (aCons (eCall f_measure (aCons (eVar 1) (aNil))) (aNil)))) (e2 mulD (eC (.int 2)) (eVar 6)))) (wSeq (wIf (cAnd (cT (e2 neR (eVar 4) (eC k_NOUGHT))) (cT (e2 eqR (eCall f_power_in (aCons (eVar 0) (aCons (eVar 4) (aNil)))) (eVar 6)))) (wRet (eTup (aCons (eVar 7) (aCons (eCall f_rest_by (aCons (eVar 0) (aCons (eVar 7) (aCons (eCall f_over (aCons (eVar 2) (aCons (eVar 4) (aNil)))) (aNil))))) (aNil))))) (wNop)) (wRet (eTup (aCons (eVar 7) (aCons (eCall f_rest_by (aCons (eVar 0) (aCons (eVar 7) (aCons (eCall f_over (aCons (eVar 3) (aCons (eVar 5) (aNil)))) (aNil))))) (aNil))))))))
instance : Det w_spot_of := by unfold w_spot_of; infer_instance
instance : Out w_spot_of := by unfold w_spot_of; infer_instance
noncomputable def f_spot_of : List D → Option R := outF 2 8 w_spot_of
theorem len_spot_of : ∀ ds r, f_spot_of ds = some r → ds.length = 2 := outF_len
theorem does_spot_of : Does 8 w_spot_of f_spot_of := outF_does

/-- table_at(p, spot): slots p, spot -/
def w_table_at : SF := wRet (eTup (aCons (eCall f_prime_power (aCons (eVar 0) (aCons (e2 ixR (eVar 1) (eC (.int 0))) (aNil)))) (aCons (e2 ixR (eVar 1) (eC (.int 1))) (aCons (eC k_NOUGHT) (aCons (eC k_ONE) (aNil))))))
instance : Det w_table_at := by unfold w_table_at; infer_instance
instance : Out w_table_at := by unfold w_table_at; infer_instance
noncomputable def f_table_at : List D → Option R := outF 2 2 w_table_at
theorem len_table_at : ∀ ds r, f_table_at ds = some r → ds.length = 2 := outF_len
theorem does_table_at : Does 2 w_table_at f_table_at := outF_does
/-- two_numbers(p, table): slots p, table, low -/
def w_two_numbers : SF := wSeq (wSet 2 (eCall f_least_power (aCons (eVar 0) (aCons (eVar 1) (aNil))))) (wRet (eTup (aCons (eVar 2) (aCons (e2 subD (eCall f_power_in (aCons (eVar 0) (aCons (eCall f_measure (aCons (eVar 1) (aNil))) (aNil)))) (eVar 2)) (aNil)))))
instance : Det w_two_numbers := by unfold w_two_numbers; infer_instance
instance : Out w_two_numbers := by unfold w_two_numbers; infer_instance
noncomputable def f_two_numbers : List D → Option R := outF 2 3 w_two_numbers
theorem len_two_numbers : ∀ ds r, f_two_numbers ds = some r → ds.length = 2 := outF_len
theorem does_two_numbers : Does 3 w_two_numbers f_two_numbers := outF_does

/-- a spot as data -/
def sp (k : Int) (x : Rat) : D := .tup [.int k, fr x]
theorem sp_mk (k : Int) (x : Rat) : D.tup [.int k, fr x] = sp k x := rfl
theorem ix_sp0 (k : Int) (x : Rat) : ixR (sp k x) (.int 0) = okD (.int k) := rfl
theorem ix_sp1 (k : Int) (x : Rat) : ixR (sp k x) (.int 1) = okD (fr x) := rfl
theorem leastI_min : ∀ (x : Int) (xs : List Int), leastI (x :: xs) ∈ x :: xs ∧ ∀ y ∈ x :: xs, leastI (x :: xs) ≤ y
  | x, [] => by
    refine ⟨by show x ∈ [x]; simp, fun y hy => ?_⟩
    show x ≤ y
    rw [List.mem_singleton.mp hy]; exact Int.le_refl _
  | x, z :: zs => by
    obtain ⟨a, b⟩ := leastI_min z zs
    have e : leastI (x :: z :: zs) = if leastI (z :: zs) < x then leastI (z :: zs) else x := rfl
    rw [e]
    split
    · rename_i h
      refine ⟨List.mem_cons_of_mem _ a, fun y hy => ?_⟩
      rcases List.mem_cons.mp hy with rfl | hy
      · omega
      · exact b y hy
    · rename_i h
      refine ⟨List.mem_cons_self, fun y hy => ?_⟩
      rcases List.mem_cons.mp hy with rfl | hy
      · exact Int.le_refl _
      · have := b y hy; omega
theorem lc_low {p : Int} (hp : Pr p) (x : Option SV) (S : D) : ∀ qs : List Rat, lcL (gN 2) (cT (e2 neR (eVar 2) (eC k_NOUGHT))) (eCall f_power_in (aCons (eVar 0) (aCons (eVar 2) (aNil)))) [some (.d (.int p)), some (.d S), x] (qs.map fr) = some (((qs.filter fun q => !decide (q = 0)).map (vq p)).map D.int)
  | [] => rfl
  | q :: qs => by
    have ih := lc_low hp x S qs
    rw [List.map_cons]
    unfold lcL
    simp only [gN, List.set_cons_succ, List.set_cons_zero]
    by_cases h : q = 0
    · have e0 : decide (q = 0) = true := decide_eq_true h
      have ec : cT (PT.e2 neR (eVar 2) (eC k_NOUGHT)) [some (.d (.int p)), some (.d S), some (.d (fr q))] = some (.ok false) := by simp! [k_NOUGHT, fr_0, e0]
      rw [ec, List.filter_cons, if_neg (by simp [h])]
      exact ih
    · have e0 : decide (q = 0) = false := decide_eq_false h
      have ec : cT (PT.e2 neR (eVar 2) (eC k_NOUGHT)) [some (.d (.int p)), some (.d S), some (.d (fr q))] = some (.ok true) := by simp! [k_NOUGHT, fr_0, e0]
      have ev : vqD p q = .int (vq p q) := by unfold vqD; rw [if_neg h]
      have ef : eCall f_power_in (aCons (eVar 0) (aCons (eVar 2) (aNil))) [some (.d (.int p)), some (.d S), some (.d (fr q))] = some (.ok (.d (.int (vq p q)))) := by simp! [ev_power_in hp, ev]
      rw [ec, ef, List.filter_cons, if_pos (by simp [h])]
      simp only [List.map_cons, toD]
      rw [ih]
theorem ev_least_power {p m : Int} {qs : List Rat} (hp : Pr p) (h : IsLow p qs m) (hl : qs.length ≤ 1000) : f_least_power [.int p, .tup (qs.map fr)] = okI m := by
  refine outF_ev rfl ?_
  obtain ⟨h1, q, hq, q0, hv⟩ := h
  generalize hs : (qs.filter fun q => !decide (q = 0)).map (vq p) = ys
  have hm : m ∈ ys := by
    rw [← hs]
    exact List.mem_map.mpr ⟨q, List.mem_filter.mpr ⟨hq, by simpa using q0⟩, hv⟩
  have hle : ∀ y ∈ ys, m ≤ y := by
    intro y hy
    rw [← hs] at hy
    obtain ⟨r, hr, rfl⟩ := List.mem_map.mp hy
    obtain ⟨hr, r0⟩ := List.mem_filter.mp hr
    exact (h1 r hr).resolve_left (by simpa using r0)
  have hlen : ys.length ≤ 1000 := by
    rw [← hs, List.length_map]
    exact Nat.le_trans (List.length_filter_le ..) hl
  have hmin : minR [.lst (ys.map D.int)] = okI m := by
    cases ys with
    | nil => cases hm
    | cons y ys =>
      obtain ⟨a, b⟩ := leastI_min y ys
      have e : leastI (y :: ys) = m := Int.le_antisymm (b m hm) (hle _ a)
      show (match intsOf ((y :: ys).map D.int) with
        | some (b :: bs) => okI (leastI (b :: bs))
        | _ => none) = _
      rw [intsOf_map]
      show okI (leastI (y :: ys)) = _
      rw [e]
  have e := lc_low hp none (.tup (qs.map fr)) qs
  rw [hs] at e
  refine z_ret (sv := .d (.int m)) ?_ rfl
  have e3 : eLc (itD (eVar 1)) (gN 2) (cT (e2 neR (eVar 2) (eC k_NOUGHT))) (eCall f_power_in (aCons (eVar 0) (aCons (eVar 2) (aNil)))) [2] (startE 3 [.int p, .tup (qs.map fr)]) = some (.ok (.own (ys.map D.int))) := by
    unfold eLc
    have e4 : itD (eVar 1) (startE 3 [.int p, .tup (qs.map fr)]) = some (.ok (qs.map fr)) := rfl
    rw [e4]
    show (match lcL (gN 2) (cT (e2 neR (eVar 2) (eC k_NOUGHT))) (eCall f_power_in (aCons (eVar 0) (aCons (eVar 2) (aNil)))) [some (.d (.int p)), some (.d (.tup (qs.map fr))), none] (qs.map fr) with
      | some r => if r.length ≤ 1000000 then some (R.ok (.own r)) else none
      | none => none) = _
    rw [e]
    show (if (ys.map D.int).length ≤ 1000000 then _ else _) = _
    rw [if_pos (by rw [List.length_map]; omega)]
  simp only [eCall, aCons, aNil, bindRL, bindL, e3, toD]
  exact hmin
theorem vqD_ne {p : Int} {q : Rat} (h : q ≠ 0) : vqD p q = .int (vq p q) := by unfold vqD; rw [if_neg h]
theorem IsLow.bd {p m : Int} {qs : List Rat} {n : Nat} (hp : Pr p) (h : IsLow p qs m) (hq : ∀ q ∈ qs, Qd q n) : m.natAbs < n := by
  obtain ⟨-, q, h1, q0, rfl⟩ := h
  have b := hq q h1
  have h1 := vp_lt hp.two (fun z => q0 (fr_num.mp z)) b.num
  have h2 := vp_lt hp.two (den_ne q) b.den
  unfold vq
  omega
theorem ev_spot_of {p k : Int} {T : Tb} {n : Nat} {x : Rat} [Td T n] (hp : Pr p) (l : n < 2250) (lk : k.natAbs ≤ 2000) (h : SpotIs p T k x) : f_spot_of [.int p, tb T] = okD (sp k x) := by
  have hd := h.det_ne hp
  obtain ⟨m, a1, a2, a3, a4⟩ := h.reads hp
  have hm : m.natAbs < n := a1.bd hp (fun q hq => by
    simp only [List.mem_cons, List.mem_nil_iff, or_false] at hq
    rcases hq with rfl | rfl <;> infer_instance)
  have e1 : f_least_power [.int p, .tup [fr T.c, fr T.d]] = okI m := ev_least_power hp a1 (by simp)
  have bm : Bd m 12 := ⟨B.of (by omega) (by omega)⟩
  have l2 : n < 2250 := by omega
  have l3 : n + n < 9000 := by omega
  refine outF_ev rfl ?_
  simp_arith!
  refine q_asg (sv := .d (tb T)) (by simp! []) rfl ?_
  simp_arith!
  refine q_set (v := .int m) (by simp! [e1]) ?_
  simp_arith!
  refine q_set (v := .int k) (by simp! [ev_measure, ev_power_in hp, vqD_ne hd, a2]) ?_
  simp_arith!
  by_cases hc : T.c ≠ 0 ∧ vq p T.c = m
  · obtain ⟨r, hr, -, re⟩ := rest_deep (k := k) (q := T.a / T.c) hp (inferInstance : Qd (T.a / T.c) (n + n)) (by omega) lk
    have er : r = x := rest_one hp hr (a3 hc) (by rw [Rat.sub_self]; exact Al.zero p k)
    rw [er] at re
    have g1 : decide (T.c = 0) = false := decide_eq_false hc.1
    have g2 : (m == m) = true := by simp
    exact q_ifN (t := true) (by simp! [k_NOUGHT, fr_0, g1, ev_power_in hp, vqD_ne hc.1, hc.2, g2]) (fun _ => z_ret (sv := .d (sp k x)) (by simp! [ev_over (q := T.a) (r := T.c) hc.1 l3, re, sp_mk]) rfl) fun z => by cases z
  · obtain ⟨d0, hx⟩ := a4 hc
    obtain ⟨r, hr, -, re⟩ := rest_deep (k := k) (q := T.b / T.d) hp (inferInstance : Qd (T.b / T.d) (n + n)) (by omega) lk
    have er : r = x := rest_one hp hr hx (by rw [Rat.sub_self]; exact Al.zero p k)
    rw [er] at re
    refine q_ifN (t := false) ?_ (fun z => by cases z) fun _ => z_ret (sv := .d (sp k x)) (by simp! [ev_over (q := T.b) (r := T.d) d0 l3, re, sp_mk]) rfl
    by_cases c0 : T.c = 0
    · have g1 : decide (T.c = 0) = true := decide_eq_true c0
      simp! [k_NOUGHT, fr_0, g1]
    · have g1 : decide (T.c = 0) = false := decide_eq_false c0
      have g2 : (vq p T.c == m) = false := by
        rw [beq_eq_false_iff_ne]
        exact fun z => hc ⟨c0, z⟩
      simp! [k_NOUGHT, fr_0, g1, ev_power_in hp, vqD_ne c0, g2]
end PT
/-! PM: the two numbers of a table. -/
namespace PT
open PySem (Str)
def Alt (p m : Int) (t : Tb) : Prop := Al p m t.a ∧ Al p m t.b ∧ Al p m t.c ∧ Al p m t.d
def IsLow4 (p : Int) (t : Tb) (m : Int) : Prop := IsLow p [t.a, t.b, t.c, t.d] m
theorem not_al {p m : Int} {q : Rat} (h : Al p m q) (g : ¬ Al p (m + 1) q) : q ≠ 0 ∧ vq p q = m := by
  have h0 : q ≠ 0 := fun z => g (.inl z)
  refine ⟨h0, ?_⟩
  have a := h.resolve_left h0
  have b : ¬ m + 1 ≤ vq p q := fun z => g (.inr z)
  omega
theorem low4_iff {p m : Int} {t : Tb} : IsLow4 p t m ↔ Alt p m t ∧ ¬ Alt p (m + 1) t := by
  constructor
  · rintro ⟨h, q, hq, q0, hv⟩
    refine ⟨⟨h _ (by simp), h _ (by simp), h _ (by simp), h _ (by simp)⟩, fun ⟨a, b, c, d⟩ => ?_⟩
    simp only [List.mem_cons, List.mem_nil_iff, or_false] at hq
    have : Al p (m + 1) q := by rcases hq with rfl | rfl | rfl | rfl <;> assumption
    have := this.resolve_left q0
    omega
  · rintro ⟨⟨a, b, c, d⟩, h⟩
    refine ⟨fun q hq => ?_, ?_⟩
    · simp only [List.mem_cons, List.mem_nil_iff, or_false] at hq
      rcases hq with rfl | rfl | rfl | rfl <;> assumption
    · by_cases ha : Al p (m + 1) t.a
      · by_cases hb : Al p (m + 1) t.b
        · by_cases hc : Al p (m + 1) t.c
          · by_cases hd : Al p (m + 1) t.d
            · exact (h ⟨ha, hb, hc, hd⟩).elim
            · exact ⟨t.d, by simp, not_al d hd⟩
          · exact ⟨t.c, by simp, not_al c hc⟩
        · exact ⟨t.b, by simp, not_al b hb⟩
      · exact ⟨t.a, by simp, not_al a ha⟩
theorem Alt.mulL {p m : Int} (hp : Pr p) {F t : Tb} (hF : Fm p F) (h : Alt p m t) : Alt p m (tbMul F t) := by
  have z : ∀ {q r : Rat}, Al p 0 q → Al p m r → Al p m (q * r) := fun a b => by have := a.mul hp b; rwa [Int.zero_add] at this
  obtain ⟨a, b, c, d⟩ := h
  exact ⟨(z hF.a a).add hp (z hF.b c), (z hF.a b).add hp (z hF.b d), (z hF.c a).add hp (z hF.d c), (z hF.c b).add hp (z hF.d d)⟩
theorem Alt.mulR {p m : Int} (hp : Pr p) {F t : Tb} (hF : Fm p F) (h : Alt p m t) : Alt p m (tbMul t F) := by
  have z : ∀ {q r : Rat}, Al p m q → Al p 0 r → Al p m (q * r) := fun a b => by have := a.mul hp b; rwa [Int.add_zero] at this
  obtain ⟨a, b, c, d⟩ := h
  exact ⟨(z a hF.a).add hp (z b hF.c), (z a hF.b).add hp (z b hF.d), (z c hF.a).add hp (z d hF.c), (z c hF.b).add hp (z d hF.d)⟩
theorem inv_mulT (t : Tb) (h : det t ≠ 0) : tbMul (tbInv t) t = tb1 := by
  rw [Tb.eq_iff]; unfold tbMul tbInv tb1 at *; simp only
  generalize hd : det t = d at *
  unfold det at hd
  grind
theorem mul_invT (t : Tb) (h : det t ≠ 0) : tbMul t (tbInv t) = tb1 := by
  rw [Tb.eq_iff]; unfold tbMul tbInv tb1 at *; simp only
  generalize hd : det t = d at *
  unfold det at hd
  grind
theorem assocT (r s t : Tb) : tbMul r (tbMul s t) = tbMul (tbMul r s) t := by
  rw [Tb.eq_iff]; unfold tbMul; simp only; grind
theorem oneT (t : Tb) : tbMul tb1 t = t := by
  rw [Tb.eq_iff]; unfold tbMul tb1; simp only; grind
theorem Tone (t : Tb) : tbMul t tb1 = t := by
  rw [Tb.eq_iff]; unfold tbMul tb1; simp only; grind
theorem det_invT (t : Tb) (h : det t ≠ 0) : det (tbInv t) = (det t)⁻¹ := by
  have e : det (tbMul (tbInv t) t) = 1 := by rw [inv_mulT t h]; unfold det tb1; grind
  rw [det_tbMul] at e
  grind
theorem Fm.inv {p : Int} (hp : Pr p) {F : Tb} (h : Fm p F) : Fm p (tbInv F) := by
  have z : ∀ {q : Rat}, Al p 0 q → Al p 0 (q / det F) := fun {q} a => by
    rcases a with rfl | a
    · left; grind
    · by_cases q0 : q = 0
      · left; subst q0; grind
      · right; rw [vq_dv hp q0 h.u, h.v]; omega
  have n : ∀ {q : Rat}, Al p 0 q → Al p 0 (0 - q) := fun a => (Al.zero p 0).sub hp a
  have u := h.u
  refine ⟨z h.d, z (n h.b), z (n h.c), z h.a, ?_, ?_⟩
  · rw [det_invT F h.u]; grind
  · rw [det_invT F h.u, vq_inv hp h.u, h.v]; rfl
theorem IsLow4.mulL {p m : Int} (hp : Pr p) {F t : Tb} (hF : Fm p F) (h : IsLow4 p t m) : IsLow4 p (tbMul F t) m := by
  rw [low4_iff] at *
  refine ⟨h.1.mulL hp hF, fun z => h.2 ?_⟩
  have := z.mulL hp (hF.inv hp)
  rwa [assocT, inv_mulT F hF.u, oneT] at this
theorem IsLow4.mulR {p m : Int} (hp : Pr p) {F t : Tb} (hF : Fm p F) (h : IsLow4 p t m) : IsLow4 p (tbMul t F) m := by
  rw [low4_iff] at *
  refine ⟨h.1.mulR hp hF, fun z => h.2 ?_⟩
  have := z.mulR hp (hF.inv hp)
  rwa [← assocT, mul_invT F hF.u, Tone] at this
theorem IsLow4.sc {p m : Int} (hp : Pr p) {t : Tb} {l : Rat} (hl : l ≠ 0) (h : IsLow4 p t m) : IsLow4 p (tbSc t l) (m + vq p l) := IsLow.sc hp hl h
theorem low4_diag {p i j : Int} (hp : Pr p) : IsLow4 p ⟨pz p i, 0, 0, pz p j⟩ (if j < i then j else i) := by
  refine ⟨fun q hq => ?_, ?_⟩
  · simp only [List.mem_cons, List.mem_nil_iff, or_false] at hq
    rcases hq with rfl | rfl | rfl | rfl
    · exact .inr (by rw [vq_pz hp]; split <;> omega)
    · exact Al.zero p _
    · exact Al.zero p _
    · exact .inr (by rw [vq_pz hp]; split <;> omega)
  · split
    · exact ⟨pz p j, by simp, pz_ne hp j, vq_pz hp j⟩
    · exact ⟨pz p i, by simp, pz_ne hp i, vq_pz hp i⟩
theorem ev_two_numbers {p m : Int} {T : Tb} {n : Nat} [Td T n] (hp : Pr p) (l : n < 2250) (hd : det T ≠ 0) (h : IsLow4 p T m) : f_two_numbers [.int p, tb T] = okD (.tup [.int m, .int (vq p (det T) - m)]) := by
  have e1 : f_least_power [.int p, tb T] = okI m := ev_least_power (qs := [T.a, T.b, T.c, T.d]) hp h (by simp)
  refine outF_ev rfl ?_
  simp_arith!
  refine q_set (v := .int m) (by simp! [e1]) ?_
  simp_arith!
  exact z_ret (sv := .d (.tup [.int m, .int (vq p (det T) - m)])) (by simp! [ev_measure, ev_power_in hp, vqD_ne hd]) rfl
/-- a least power of a table whose measure is not 0 -/
theorem low4_ex {p : Int} {t : Tb} (h : det t ≠ 0) : ∃ m, IsLow4 p t m := by
  have key : ∀ qs : List Rat, (∃ q ∈ qs, q ≠ 0) → ∃ m, IsLow p qs m := by
    intro qs
    induction qs with
    | nil => rintro ⟨q, hq, _⟩; cases hq
    | cons x xs ih =>
      intro hx
      by_cases hs : ∃ q ∈ xs, q ≠ 0
      · obtain ⟨m, a, q, hq, q0, e⟩ := ih hs
        by_cases x0 : x = 0
        · exact ⟨m, fun r hr => (List.mem_cons.mp hr).elim (fun z => z ▸ .inl x0) (a r), q, List.mem_cons_of_mem _ hq, q0, e⟩
        · by_cases hle : m ≤ vq p x
          · exact ⟨m, fun r hr => (List.mem_cons.mp hr).elim (fun z => z ▸ .inr hle) (a r), q, List.mem_cons_of_mem _ hq, q0, e⟩
          · exact ⟨vq p x, fun r hr => (List.mem_cons.mp hr).elim (fun z => z ▸ .inr (Int.le_refl _)) (fun z => (a r z).le (by omega)), x, List.mem_cons_self, x0, rfl⟩
      · obtain ⟨q, hq, q0⟩ := hx
        have x0 : x ≠ 0 := by
          rcases List.mem_cons.mp hq with rfl | z
          · exact q0
          · exact (hs ⟨q, z, q0⟩).elim
        exact ⟨vq p x, fun r hr => (List.mem_cons.mp hr).elim (fun z => z ▸ .inr (Int.le_refl _)) (fun z => .inl (Classical.byContradiction fun y => hs ⟨r, z, y⟩)), x, List.mem_cons_self, x0, rfl⟩
  refine key _ ?_
  by_cases ha : t.a = 0
  · have hb : t.b ≠ 0 := fun z => h (by unfold det; rw [ha, z]; grind)
    exact ⟨t.b, by simp, hb⟩
  · exact ⟨t.a, by simp, ha⟩
theorem neR_pair (a b c d : Int) : neR (.tup [.int a, .int b]) (.tup [.int c, .int d]) = okB (!(a == c && b == d)) := by
  simp [neR, fine_tup, fine_int, eqD_pair]
theorem eqD_tup2 (a b c d : D) : eqD (.tup [a, b]) (.tup [c, d]) = (eqD a c && eqD b d) := by
  simp [eqD, toP, toPs, PySem.PyData.eqv, PySem.PyData.eqvAll]
theorem fine_sp (n : Nat) (k : Int) (x : Rat) : fine (n + 2) (sp k x) = true := by
  unfold sp
  rw [fine_tup]
  simp [fine_fr, fine_int]
theorem eqD_sp (k l : Int) (x y : Rat) : eqD (sp k x) (sp l y) = decide (k = l ∧ x = y) := by
  unfold sp
  rw [eqD_tup2, eqD_int, eqD_fr, Bool.eq_iff_iff]
  simp
theorem eqR_sp (k l : Int) (x y : Rat) : eqR (sp k x) (sp l y) = okB (decide (k = l ∧ x = y)) := by
  simp [eqR, fine_sp, eqD_sp]
theorem neR_sp (k l : Int) (x y : Rat) : neR (sp k x) (sp l y) = okB (!decide (k = l ∧ x = y)) := by
  simp [neR, fine_sp, eqD_sp]
theorem sp_self (k : Int) (x : Rat) : decide (k = k ∧ x = x) = true := by simp
theorem fm_one {p : Int} (hp : Pr p) : Fm p tb1 := by
  have e : det tb1 = 1 := by unfold det tb1; simp only; grind
  have o : Al p 0 1 := .inr (by rw [vq_one hp]; decide)
  exact ⟨o, Al.zero p 0, Al.zero p 0, o, by rw [e]; decide, by rw [e, vq_one hp]⟩
theorem spot_self {p k : Int} {x : Rat} (hp : Pr p) (h : IsRest p k x x) : SpotIs p (tS p k x) k x :=
  ⟨h, tb1, 1, fm_one hp, by decide, by rw [Tone, Tb.eq_iff]; unfold tbSc; simp only; grind⟩
theorem ev_table_at {p k : Int} {x : Rat} (hp : Pr p) (l : k.natAbs ≤ 100000) : f_table_at [.int p, sp k x] = okD (tb (tS p k x)) := by
  refine outF_ev rfl ?_
  simp_arith!
  have eS : D.tup [fr (pz p k), fr x, fr 0, fr 1] = tb (tS p k x) := rfl
  exact z_ret (sv := .d (tb (tS p k x))) (by simp! [ix_sp0, ix_sp1, ev_prime_power hp l, k_NOUGHT, k_ONE, fr_0, fr_1, eS]) rfl
end PT
/-! PM: how two spots lie, and the way between them. -/
namespace PT
open PySem (Str)
/-- lies_in(p, one, other): slots p, one, other -/
def w_lies_in : SF := wRet (eCall f_two_numbers (aCons (eVar 0) (aCons (eCall f_product (aCons (eCall f_turned_over (aCons (eCall f_table_at (aCons (eVar 0) (aCons (eVar 1) (aNil)))) (aNil))) (aCons (eCall f_table_at (aCons (eVar 0) (aCons (eVar 2) (aNil)))) (aNil)))) (aNil))))
instance : Det w_lies_in := by unfold w_lies_in; infer_instance
instance : Out w_lies_in := by unfold w_lies_in; infer_instance
noncomputable def f_lies_in : List D → Option R := outF 3 3 w_lies_in
theorem len_lies_in : ∀ ds r, f_lies_in ds = some r → ds.length = 3 := outF_len
theorem does_lies_in : Does 3 w_lies_in f_lies_in := outF_does
/-- way(p, one, other): slots p, one, other, low, high -/
def w_way : SF := wSeq (wAsg (eCall f_lies_in (aCons (eVar 0) (aCons (eVar 1) (aCons (eVar 2) (aNil))))) (gTup (gCons (gN 3) (gCons (gN 4) (gNil))))) (wRet (e2 subD (eVar 4) (eVar 3)))
instance : Det w_way := by unfold w_way; infer_instance
instance : Out w_way := by unfold w_way; infer_instance
noncomputable def f_way : List D → Option R := outF 3 5 w_way
theorem len_way : ∀ ds r, f_way ds = some r → ds.length = 3 := outF_len
theorem does_way : Does 5 w_way f_way := outF_does

/-- the second spot's table seen from the first -/
noncomputable def tU (p k1 : Int) (x1 : Rat) (k2 : Int) (x2 : Rat) : Tb := ⟨pz p (k2 - k1), (x2 - x1) * pz p (-k1), 0, 1⟩
theorem inv_tS {p k : Int} {x : Rat} (hp : Pr p) : tbInv (tS p k x) = ⟨pz p (-k), (0 - x) * pz p (-k), 0, 1⟩ := by
  have h := pz_ne hp k
  rw [Tb.eq_iff]
  unfold tbInv
  rw [det_tS, pz_neg]
  unfold tS
  simp only
  generalize pz p k = u at *
  grind
theorem mul_tU {p k1 k2 : Int} {x1 x2 : Rat} (hp : Pr p) : tbMul (tbInv (tS p k1 x1)) (tS p k2 x2) = tU p k1 x1 k2 x2 := by
  rw [inv_tS hp, Tb.eq_iff]
  unfold tU tbMul tS
  have e : pz p (k2 - k1) = pz p k2 * pz p (-k1) := by rw [Int.sub_eq_add_neg, pz_add hp]
  simp only
  rw [e]
  generalize pz p (-k1) = u at *
  generalize pz p k2 = v at *
  grind
/-- a spot of bounded size -/
structure Sm (p k : Int) (x : Rat) (M : Nat) : Prop where
  r : IsRest p k x x
  k : k.natAbs ≤ M
  a : Al p (-(M : Int)) x
theorem cop_power {p : Int} {q : Rat} {j : Nat} (hp : Pr p) (hj : (q.den : Int) = p ^ j) (h0 : 0 < j) : ¬ p ∣ q.num := fun h => by
  have h2 : p ∣ (q.den : Int) := by
    rw [hj]
    obtain ⟨i, rfl⟩ : ∃ i, j = i + 1 := ⟨j - 1, by omega⟩
    exact ⟨p ^ i, by rw [Int.pow_succ, Int.mul_comm]⟩
  have h3 : p ∣ (Int.gcd q.num q.den : Int) := Int.dvd_coe_gcd h h2
  have : Int.gcd q.num q.den = 1 := q.reduced
  rw [this] at h3
  exact not_one hp h3
theorem Sm.qd {p k : Int} {x : Rat} {M : Nat} (hp : Pr p) (h : Sm p k x M) : Qd x (6 * M + 1) := by
  obtain ⟨j, hj⟩ := h.r.den
  have hjM : j ≤ M := by
    rcases Nat.eq_zero_or_pos j with z | z
    · omega
    · have hn := cop_power hp hj z
      have x0 : x ≠ 0 := fun y => hn (by rw [y]; exact Int.dvd_zero p)
      have := h.a.resolve_left x0
      unfold vq at this
      rw [hj, vp_pow hp, vp_zero hp hn] at this
      omega
  have pj := hp.pow_pos j
  refine ⟨?_, ?_⟩
  · have nn := Rat.num_nonneg.mpr h.r.nn
    -- x.num < p ^ (M + j)
    have h1 : x < pz p (M : Int) := by
      have := h.r.lt
      have h2 : pz p k ≤ pz p (M : Int) := by
        obtain ⟨d, hd⟩ : ∃ d : Nat, (M : Int) = k + d := ⟨((M : Int) - k).toNat, by have := h.k; omega⟩
        rw [hd, pz_add hp]
        have h3 : (1 : Rat) ≤ pz p d := by
          rw [pz_nat]
          have := hp.pow_pos d
          exact_mod_cast (show (1 : Int) ≤ p ^ d by omega)
        have := Rat.mul_le_mul_of_nonneg_left h3 (Rat.le_of_lt (pz_pos hp k))
        rwa [Rat.mul_one] at this
      exact Std.lt_of_lt_of_le this h2
    have h4 := (Rat.lt_iff x (pz p (M : Int))).mp h1
    rw [pz_nat] at h4
    have e1 : (((p ^ M : Int) : Rat).den : Int) = 1 := rfl
    have e2 : ((p ^ M : Int) : Rat).num = p ^ M := rfl
    rw [e1, e2, hj, Int.mul_one, ← Int.pow_add] at h4
    exact (bd_lt nn h4 (hp.pow_bd (M + j))).mono (by omega)
  · rw [hj]; exact (hp.pow_bd j).mono (by omega)
theorem ev_measure_up {a b : Rat} {m n : Nat} [Qd a m] [Qd b n] (l : m + n < 8900) : f_measure [tb ⟨a, b, 0, 1⟩] = okD (fr a) := by
  have l1 : m + 1 < 9000 := by omega
  have l2 : n + 1 < 9000 := by omega
  have l3 : m + 1 + (n + 1) < 9000 := by omega
  have e : a * 1 - b * 0 = a := by grind
  refine outF_ev rfl ?_
  simp_arith!
  refine q_asg (sv := .d (tb ⟨a, b, 0, 1⟩)) (by simp! []) rfl ?_
  simp_arith!
  exact z_ret (sv := .d (fr a)) (by simp! [ev_times, ev_minus, e]) rfl
theorem ev_turned_spot {p k : Int} {x : Rat} {n : Nat} [Qd x n] (hp : Pr p) (lk : k.natAbs ≤ 600) (ln : n ≤ 4000) : f_turned_over [tb (tS p k x)] = okD (tb ⟨pz p (-k), (0 - x) * pz p (-k), 0, 1⟩) := by
  have hz := (qd_pz hp k).mono (show 3 * k.natAbs + 1 ≤ 1801 by omega)
  have l1 : 1 + n < 9000 := by omega
  have l2 : 1801 + n < 8900 := by omega
  have l3 : 1 + n + 1 + 1801 < 9000 := by omega
  have h := pz_ne hp k
  have e1 : (1 : Rat) / pz p k = pz p (-k) := by rw [pz_neg, Rat.div_def, Rat.one_mul]
  have e2 : (0 - x) / pz p k = (0 - x) * pz p (-k) := by rw [pz_neg, Rat.div_def]
  have e3 : (0 - (0 : Rat)) / pz p k = 0 := by rw [Rat.div_def]; grind
  have e4 : pz p k / pz p k = 1 := by generalize pz p k = u at *; grind
  have em : f_measure [tb (tS p k x)] = okD (fr (pz p k)) := ev_measure_up (a := pz p k) (b := x) l2
  have ta : (tS p k x).a = pz p k := rfl
  have tbb : (tS p k x).b = x := rfl
  have tc : (tS p k x).c = 0 := rfl
  have td : (tS p k x).d = 1 := rfl
  refine outF_ev rfl ?_
  simp_arith!
  refine q_asg (sv := .d (tb (tS p k x))) (by simp! []) rfl ?_
  simp_arith!
  refine q_set (v := fr (pz p k)) (by simp! [em]) ?_
  simp_arith!
  exact z_ret (sv := .d (tb ⟨pz p (-k), (0 - x) * pz p (-k), 0, 1⟩)) (by simp! [k_NOUGHT, fr_0, ta, tbb, tc, td, ev_minus, ev_over h, e1, e2, e3, e4, tb_mk]) rfl
theorem ev_lies_in {p k1 k2 m : Int} {x1 x2 : Rat} {n : Nat} [Qd x1 n] [Qd x2 n] (hp : Pr p) (l1 : k1.natAbs ≤ 540) (l2 : k2.natAbs ≤ 540) (ln : n ≤ 1900) (h : IsLow4 p (tU p k1 x1 k2 x2) m) : f_lies_in [.int p, sp k1 x1, sp k2 x2] = okD (.tup [.int m, .int (k2 - k1 - m)]) := by
  have hz1 := (qd_pz hp (-k1)).mono (show 3 * (-k1).natAbs + 1 ≤ 1801 by omega)
  have hz2 := (qd_pz hp k2).mono (show 3 * k2.natAbs + 1 ≤ 1801 by omega)
  have hz3 := (qd_pz hp (k2 - k1)).mono (show 3 * (k2 - k1).natAbs + 1 ≤ 3241 by omega)
  have hx1 : Qd x1 1900 := (inferInstance : Qd x1 n).mono ln
  have hx2 : Qd x2 1900 := (inferInstance : Qd x2 n).mono ln
  have ht1 := ev_turned_spot (k := k1) (x := x1) (n := 1900) hp (show k1.natAbs ≤ 600 by omega) (by decide)
  have t1 := ev_table_at (k := k1) (x := x1) hp (show k1.natAbs ≤ 100000 by omega)
  have t2 := ev_table_at (k := k2) (x := x2) hp (show k2.natAbs ≤ 100000 by omega)
  have hb : Qd ((0 - x1) * pz p (-k1)) 3703 := inferInstance
  have em := mul_tU (k1 := k1) (k2 := k2) (x1 := x1) (x2 := x2) hp
  rw [inv_tS hp] at em
  have pr : f_product [tb ⟨pz p (-k1), (0 - x1) * pz p (-k1), 0, 1⟩, tb (tS p k2 x2)] = okD (tb (tU p k1 x1 k2 x2)) := by
    rw [← em]
    generalize (0 - x1) * pz p (-k1) = b at *
    generalize pz p (-k1) = a at *
    have ta : (tS p k2 x2).a = pz p k2 := rfl
    have tbb : (tS p k2 x2).b = x2 := rfl
    have tc : (tS p k2 x2).c = 0 := rfl
    have td : (tS p k2 x2).d = 1 := rfl
    refine outF_ev rfl ?_
    simp_arith!
    refine q_asg (sv := .d (tb ⟨a, b, 0, 1⟩)) (by simp! []) rfl ?_
    simp_arith!
    refine q_asg (sv := .d (tb (tS p k2 x2))) (by simp! []) rfl ?_
    simp_arith!
    refine q_set (v := .tup [fr (a * pz p k2 + b * 0), fr (a * x2 + b * 1)]) (by simp! [ta, tbb, tc, td, ev_times, ev_plus]) ?_
    simp_arith!
    refine q_set (v := .tup [fr (0 * pz p k2 + 1 * 0), fr (0 * x2 + 1 * 1)]) (by simp! [ta, tbb, tc, td, ev_times, ev_plus]) ?_
    simp_arith!
    exact z_ret (sv := .d (tb (tbMul ⟨a, b, 0, 1⟩ (tS p k2 x2)))) (by simp! [tb_mk]) rfl
  have hU : Qd ((x2 - x1) * pz p (-k1)) 5602 := inferInstance
  have e1 : f_least_power [.int p, tb (tU p k1 x1 k2 x2)] = okI m := ev_least_power (qs := [(tU p k1 x1 k2 x2).a, (tU p k1 x1 k2 x2).b, (tU p k1 x1 k2 x2).c, (tU p k1 x1 k2 x2).d]) hp h (by simp)
  have e2 : f_measure [tb (tU p k1 x1 k2 x2)] = okD (fr (pz p (k2 - k1))) := ev_measure_up (m := 3241) (n := 5602) (by decide)
  have e3 : f_two_numbers [.int p, tb (tU p k1 x1 k2 x2)] = okD (.tup [.int m, .int (k2 - k1 - m)]) := by
    refine outF_ev rfl ?_
    simp_arith!
    refine q_set (v := .int m) (by simp! [e1]) ?_
    simp_arith!
    exact z_ret (sv := .d (.tup [.int m, .int (k2 - k1 - m)])) (by simp! [e2, ev_power_in hp, vqD_ne (pz_ne hp (k2 - k1)), vq_pz hp]) rfl
  refine outF_ev rfl ?_
  simp_arith!
  exact z_ret (sv := .d (.tup [.int m, .int (k2 - k1 - m)])) (by simp! [t1, t2, ht1, pr, e3]) rfl
theorem ev_way {p k1 k2 m : Int} {x1 x2 : Rat} {n : Nat} [Qd x1 n] [Qd x2 n] (hp : Pr p) (l1 : k1.natAbs ≤ 540) (l2 : k2.natAbs ≤ 540) (ln : n ≤ 1900) (h : IsLow4 p (tU p k1 x1 k2 x2) m) : f_way [.int p, sp k1 x1, sp k2 x2] = okI (k2 - k1 - 2 * m) := by
  have e := ev_lies_in hp l1 l2 ln h
  refine outF_ev rfl ?_
  simp_arith!
  refine q_asg (sv := .d (.tup [.int m, .int (k2 - k1 - m)])) (by simp! [e]) rfl ?_
  simp_arith!
  exact z_ret (sv := .d (.int (k2 - k1 - m - m))) (by simp! []) (by show R.ok (.d (.int (k2 - k1 - 2 * m))) = R.ok (.d (.int (k2 - k1 - m - m))); congr 3; omega)
/-- the lesser number of two spots -/
noncomputable def lowU (p k1 : Int) (x1 : Rat) (k2 : Int) (x2 : Rat) : Int :=
  if x2 - x1 = 0 then (if k2 - k1 < 0 then k2 - k1 else 0)
  else (if vq p (x2 - x1) - k1 < (if k2 - k1 < 0 then k2 - k1 else 0) then vq p (x2 - x1) - k1 else (if k2 - k1 < 0 then k2 - k1 else 0))
theorem lowU_is {p k1 k2 : Int} {x1 x2 : Rat} (hp : Pr p) : IsLow4 p (tU p k1 x1 k2 x2) (lowU p k1 x1 k2 x2) := by
  have e1 : vq p (pz p (k2 - k1)) = k2 - k1 := vq_pz hp _
  have e2 := vq_one hp
  have n1 := pz_ne hp (k2 - k1)
  have n2 := pz_ne hp (-k1)
  generalize ew : (if k2 - k1 < 0 then k2 - k1 else 0) = w
  have w1 : w ≤ k2 - k1 := by rw [← ew]; split <;> omega
  have w2 : w ≤ 0 := by rw [← ew]; split <;> omega
  have hw : ∃ q ∈ [(tU p k1 x1 k2 x2).a, (tU p k1 x1 k2 x2).b, (tU p k1 x1 k2 x2).c, (tU p k1 x1 k2 x2).d], q ≠ 0 ∧ vq p q = w := by
    by_cases h0 : k2 - k1 < 0
    · exact ⟨pz p (k2 - k1), by unfold tU; simp, n1, by rw [e1, ← ew, if_pos h0]⟩
    · exact ⟨1, by unfold tU; simp, by decide, by rw [e2, ← ew, if_neg h0]⟩
  unfold lowU
  rw [ew]
  by_cases hx : x2 - x1 = 0
  · rw [if_pos hx]
    refine ⟨fun q hq => ?_, hw⟩
    simp only [List.mem_cons, List.mem_nil_iff, or_false] at hq
    rcases hq with h | h | h | h <;> rw [h]
    · exact .inr (by show _ ≤ vq p (pz p (k2 - k1)); omega)
    · left; show (x2 - x1) * pz p (-k1) = 0; rw [hx]; grind
    · exact Al.zero p _
    · exact .inr (by show _ ≤ vq p 1; omega)
  · rw [if_neg hx]
    have ev : vq p ((x2 - x1) * pz p (-k1)) = vq p (x2 - x1) - k1 := by rw [vq_mul hp hx n2, vq_pz hp]; omega
    refine ⟨fun q hq => ?_, ?_⟩
    · simp only [List.mem_cons, List.mem_nil_iff, or_false] at hq
      rcases hq with h | h | h | h <;> rw [h]
      · exact .inr (by show _ ≤ vq p (pz p (k2 - k1)); split <;> omega)
      · exact .inr (by show _ ≤ vq p ((x2 - x1) * pz p (-k1)); rw [ev]; split <;> omega)
      · exact Al.zero p _
      · exact .inr (by show _ ≤ vq p 1; split <;> omega)
    · split
      · exact ⟨(x2 - x1) * pz p (-k1), by unfold tU; simp, mul_ne hx n2, ev⟩
      · exact hw
theorem lowU_self {p k : Int} {x : Rat} : lowU p k x k x = 0 := by
  unfold lowU
  rw [if_pos Rat.sub_self, if_neg (by omega)]
/-- the way there is the way back -/
theorem lowU_back {p k1 k2 : Int} {x1 x2 : Rat} (hp : Pr p) : lowU p k2 x2 k1 x1 = lowU p k1 x1 k2 x2 - (k2 - k1) := by
  unfold lowU
  have e : x1 - x2 = -(x2 - x1) := by grind
  by_cases hx : x2 - x1 = 0
  · have hx2 : x1 - x2 = 0 := by rw [e, hx]; grind
    rw [if_pos hx, if_pos hx2]
    split <;> split <;> omega
  · have hx2 : x1 - x2 ≠ 0 := fun z => hx (by grind)
    rw [if_neg hx, if_neg hx2, e, vq_neg hp]
    split <;> split <;> (try split) <;> (try split) <;> omega
end PT
/-! PM: every table has a spot; spots moved by tables. -/
namespace PT
open PySem (Str)
/-- moved(p, table, spot): slots p, table, spot -/
def w_moved : SF := wRet (eCall f_spot_of (aCons (eVar 0) (aCons (eCall f_product (aCons (eVar 1) (aCons (eCall f_table_at (aCons (eVar 0) (aCons (eVar 2) (aNil)))) (aNil)))) (aNil))))
instance : Det w_moved := by unfold w_moved; infer_instance
instance : Out w_moved := by unfold w_moved; infer_instance
noncomputable def f_moved : List D → Option R := outF 3 3 w_moved
theorem len_moved : ∀ ds r, f_moved ds = some r → ds.length = 3 := outF_len
theorem does_moved : Does 3 w_moved f_moved := outF_does

theorem inv_ex {p m : Int} (hp : Pr p) (hm : ¬ p ∣ m) : ∀ K : Nat, ∃ x : Int, p ^ K ∣ m * x - 1
  | 0 => ⟨0, by rw [Int.pow_zero]; exact Int.one_dvd _⟩
  | K + 1 => by
    obtain ⟨x, y, hy⟩ := inv_ex hp hm K
    obtain ⟨x0, -, h0⟩ := hp.inv hm
    have h1 : p ∣ 1 - m * x0 := by
      have := Int.emod_add_mul_ediv (m * x0) p
      exact ⟨-(m * x0 / p), by rw [h0] at this; rw [Int.mul_neg]; omega⟩
    obtain ⟨z, hz⟩ := h1
    refine ⟨x + p ^ K * (-y * x0), y * z, ?_⟩
    rw [Int.pow_succ]
    have e1 : m * (x + p ^ K * (-y * x0)) - 1 = (m * x - 1) + p ^ K * (-(y * (m * x0))) := by grind
    have e2 : m * (x0 : Int) = 1 - p * z := by omega
    rw [e1, hy, e2]
    grind
theorem rest_ex {p k : Int} {q : Rat} (hp : Pr p) : ∃ r, IsRest p k q r := by
  obtain ⟨m, hm, zm⟩ := vp_spec hp.two (den_ne q)
  by_cases h : k + (vp p (q.den : Int) : Int) ≤ 0
  · exact ⟨0, rest_zero hp h⟩
  · obtain ⟨x, hx⟩ := inv_ex hp zm (k + (vp p (q.den : Int) : Int)).toNat
    exact ⟨_, rest_make hp (K := (k + (vp p (q.den : Int) : Int)).toNat) (by omega) hm zm hx⟩
theorem IsRest.self {p k : Int} {q r : Rat} (h : IsRest p k q r) : IsRest p k r r := ⟨h.nn, h.lt, h.den, by rw [Rat.sub_self]; exact Al.zero p k⟩
theorem rst_is {p k : Int} {q : Rat} (hp : Pr p) : IsRest p k q (rst p k q) := by
  obtain ⟨r, hr⟩ := rest_ex (k := k) (q := q) hp
  rw [rst_of hp hr]; exact hr
theorem Al.inv {p m : Int} {q : Rat} (hp : Pr p) (h : q ≠ 0) (e : vq p q = m) : Al p (-m) q⁻¹ := .inr (by rw [vq_inv hp h]; omega)
theorem Al.pz {p : Int} (hp : Pr p) (k : Int) : Al p k (PT.pz p k) := .inr (by rw [vq_pz hp]; exact Int.le_refl _)
theorem Al.dv {p j m : Int} {q r : Rat} (hp : Pr p) (h : Al p j q) (h0 : r ≠ 0) (e : vq p r = m) : Al p (j - m) (q / r) := by
  rw [Rat.div_def]
  have := h.mul hp (Al.inv hp h0 e)
  rwa [← Int.sub_eq_add_neg] at this
theorem Al.qd {p : Int} {q : Rat} {n : Nat} (hp : Pr p) (h : Qd q n) : Al p (-(n : Int)) q := by
  by_cases q0 : q = 0
  · exact .inl q0
  · right
    have h1 := vp_lt hp.two (fun z => q0 (fr_num.mp z)) h.num
    have h2 := vp_lt hp.two (den_ne q) h.den
    unfold vq
    omega
/-! ### tables -/
theorem scMul (s t : Tb) (l : Rat) : tbMul (tbSc s l) t = tbSc (tbMul s t) l := by
  rw [Tb.eq_iff]; unfold tbMul tbSc; simp only; refine ⟨?_, ?_, ?_, ?_⟩ <;> grind
theorem mulSc (s t : Tb) (l : Rat) : tbMul s (tbSc t l) = tbSc (tbMul s t) l := by
  rw [Tb.eq_iff]; unfold tbMul tbSc; simp only; refine ⟨?_, ?_, ?_, ?_⟩ <;> grind
theorem scSc (s : Tb) (l m : Rat) : tbSc (tbSc s l) m = tbSc s (l * m) := by
  rw [Tb.eq_iff]; unfold tbSc; simp only; refine ⟨?_, ?_, ?_, ?_⟩ <;> grind
theorem scOne (s : Tb) : tbSc s 1 = s := by
  rw [Tb.eq_iff]; unfold tbSc; simp only; refine ⟨?_, ?_, ?_, ?_⟩ <;> grind
/-- every table has a spot -/
theorem spot_ex {p : Int} {T : Tb} (hp : Pr p) (h : det T ≠ 0) : ∃ k x, SpotIs p T k x := by
  -- the lower row has a least power
  obtain ⟨m, hc, hd, hm⟩ : ∃ m : Int, Al p m T.c ∧ Al p m T.d ∧ ((T.c ≠ 0 ∧ vq p T.c = m) ∨ (T.d ≠ 0 ∧ vq p T.d = m)) := by
    by_cases c0 : T.c = 0
    · have d0 : T.d ≠ 0 := fun z => h (by unfold det; rw [c0, z]; grind)
      exact ⟨vq p T.d, .inl c0, .inr (Int.le_refl _), .inr ⟨d0, rfl⟩⟩
    · by_cases d0 : T.d = 0
      · exact ⟨vq p T.c, .inr (Int.le_refl _), .inl d0, .inl ⟨c0, rfl⟩⟩
      · by_cases hl : vq p T.c ≤ vq p T.d
        · exact ⟨vq p T.c, .inr (Int.le_refl _), .inr hl, .inl ⟨c0, rfl⟩⟩
        · exact ⟨vq p T.d, .inr (by omega), .inr (Int.le_refl _), .inr ⟨d0, rfl⟩⟩
  generalize ek : vq p (det T) - 2 * m = k
  have pm := pz_ne hp m
  have pk := pz_ne hp k
  have ad : Al p (vq p (det T)) (det T) := .inr (Int.le_refl _)
  -- the fraction
  obtain ⟨x, hx, ha, hb⟩ : ∃ x, IsRest p k x x ∧ Al p (k + m) (T.a - x * T.c) ∧ Al p (k + m) (T.b - x * T.d) := by
    rcases hm with ⟨c0, cv⟩ | ⟨d0, dv⟩
    · obtain ⟨x, hx⟩ := rest_ex (k := k) (q := T.a / T.c) hp
      refine ⟨x, hx.self, ?_, ?_⟩
      · have e : T.a - x * T.c = (T.a / T.c - x) * T.c := by grind
        rw [e]; exact hx.al.mul hp hc
      · have e : T.b - x * T.d = (T.a / T.c - x) * T.d - det T / T.c := by unfold det; grind
        rw [e]
        refine (hx.al.mul hp hd).sub hp ?_
        have := ad.dv hp c0 cv
        exact this.le (by omega)
    · obtain ⟨x, hx⟩ := rest_ex (k := k) (q := T.b / T.d) hp
      refine ⟨x, hx.self, ?_, ?_⟩
      · have e : T.a - x * T.c = (T.b / T.d - x) * T.c + det T / T.d := by unfold det; grind
        rw [e]
        refine (hx.al.mul hp hc).add hp ?_
        have := ad.dv hp d0 dv
        exact this.le (by omega)
      · have e : T.b - x * T.d = (T.b / T.d - x) * T.d := by grind
        rw [e]; exact hx.al.mul hp hd
  have low : ∀ q, Al p m q → Al p 0 (q / pz p m) := fun q a => by
    have := a.dv hp pm (vq_pz hp m)
    rwa [Int.sub_self] at this
  have up : ∀ q, Al p (k + m) q → Al p 0 (q / (pz p k * pz p m)) := fun q a => by
    have := a.dv hp (mul_ne pk pm) (vq_mul hp pk pm)
    rw [vq_pz hp, vq_pz hp, Int.sub_self] at this
    exact this
  have eF : det (⟨(T.a - x * T.c) / (pz p k * pz p m), (T.b - x * T.d) / (pz p k * pz p m), T.c / pz p m, T.d / pz p m⟩ : Tb) = det T / (pz p k * pz p m * pz p m) := by
    unfold det
    generalize pz p k = u at *
    generalize pz p m = v at *
    simp only
    clear low up ha hb hc hd ad hm hx
    grind
  refine ⟨k, x, hx, ⟨(T.a - x * T.c) / (pz p k * pz p m), (T.b - x * T.d) / (pz p k * pz p m), T.c / pz p m, T.d / pz p m⟩, pz p m, ⟨up _ ha, up _ hb, low _ hc, low _ hd, ?_, ?_⟩, pm, ?_⟩
  · rw [eF, Rat.div_def]
    exact mul_ne h (fun z => by have := mul_ne (mul_ne pk pm) pm; grind)
  · rw [eF, vq_dv hp h (mul_ne (mul_ne pk pm) pm), vq_mul hp (mul_ne pk pm) pm, vq_mul hp pk pm, vq_pz hp, vq_pz hp]
    omega
  · rw [Tb.eq_iff]
    unfold tbSc tbMul tS
    generalize pz p k = u at *
    generalize pz p m = v at *
    simp only
    clear low up ha hb hc hd ad hm hx eF
    refine ⟨?_, ?_, ?_, ?_⟩ <;> grind
theorem SpotIs.right {p k : Int} {T G : Tb} {x : Rat} (hp : Pr p) (h : SpotIs p T k x) (hG : Fm p G) : SpotIs p (tbMul T G) k x := by
  obtain ⟨hx, F, l, hF, hl, rfl⟩ := h
  exact ⟨hx, tbMul F G, l, hF.mul hp hG, hl, by rw [scMul, assocT]⟩
theorem SpotIs.sc {p k : Int} {T : Tb} {x l : Rat} (h : SpotIs p T k x) (hl : l ≠ 0) : SpotIs p (tbSc T l) k x := by
  obtain ⟨hx, F, m, hF, hm, rfl⟩ := h
  exact ⟨hx, F, m * l, hF, mul_ne hm hl, by rw [scSc]⟩
theorem SpotIs.unsc {p k : Int} {T : Tb} {x l : Rat} (h : SpotIs p (tbSc T l) k x) (hl : l ≠ 0) : SpotIs p T k x := by
  have := h.sc (l := l⁻¹) (by grind)
  rwa [scSc, show l * l⁻¹ = 1 by grind, scOne] at this
/-- the moved spot moved on: by the product -/
theorem SpotIs.on {p a b : Int} {S T : Tb} {x y : Rat} (hp : Pr p) (h : SpotIs p T a x) (g : SpotIs p (tbMul S (tS p a x)) b y) : SpotIs p (tbMul S T) b y := by
  obtain ⟨hx, F, l, hF, hl, rfl⟩ := h
  rw [mulSc, assocT]
  exact (g.right hp hF).sc hl
theorem SpotIs.un_on {p a b : Int} {S T : Tb} {x y : Rat} (hp : Pr p) (h : SpotIs p T a x) (g : SpotIs p (tbMul S T) b y) : SpotIs p (tbMul S (tS p a x)) b y := by
  obtain ⟨hx, F, l, hF, hl, rfl⟩ := h
  rw [mulSc, assocT] at g
  have := (g.unsc hl).right hp (hF.inv hp)
  rwa [← assocT, mul_invT F hF.u, Tone] at this
/-- unlike spots are moved to unlike ones -/
theorem SpotIs.inj {p a b c : Int} {T : Tb} {x y z : Rat} (hp : Pr p) (hT : det T ≠ 0) (h1 : IsRest p a x x) (h2 : IsRest p b y y) (h : SpotIs p (tbMul T (tS p a x)) c z) (g : SpotIs p (tbMul T (tS p b y)) c z) : a = b ∧ x = y := by
  have back : ∀ {k : Int} {q : Rat}, IsRest p k q q → SpotIs p (tbMul T (tS p k q)) c z → SpotIs p (tbMul (tbInv T) (tS p c z)) k q := by
    intro k q hq hs
    refine SpotIs.un_on hp hs ?_
    rw [assocT, inv_mulT T hT, oneT]
    exact spot_self hp hq
  exact (back h1 h).one hp (back h2 g)
/-- the size of a moved spot's table -/
theorem td_moved {p k : Int} {T : Tb} {n m M : Nat} {x : Rat} [Td T n] [Qd x m] (hp : Pr p) (h1 : 3 * k.natAbs + 1 ≤ M) (h2 : m ≤ M) : Td (tbMul T (tS p k x)) (2 * n + M + 1) := by
  have q1 := (qd_pz hp k).mono h1
  have q2 := (inferInstance : Qd x m).mono h2
  have ec : (tbMul T (tS p k x)).c = T.c * pz p k := by unfold tbMul tS; simp only; grind
  have ed : (tbMul T (tS p k x)).d = T.c * x + T.d := by unfold tbMul tS; simp only; grind
  have ea : (tbMul T (tS p k x)).a = T.a * pz p k := by unfold tbMul tS; simp only; grind
  have eb : (tbMul T (tS p k x)).b = T.a * x + T.b := by unfold tbMul tS; simp only; grind
  refine ⟨?_, ?_, ?_, ?_⟩
  · rw [ea]; exact (inferInstance : Qd (T.a * pz p k) _).mono (by omega)
  · rw [eb]; exact (inferInstance : Qd (T.a * x + T.b) _).mono (by omega)
  · rw [ec]; exact (inferInstance : Qd (T.c * pz p k) _).mono (by omega)
  · rw [ed]; exact (inferInstance : Qd (T.c * x + T.d) _).mono (by omega)
theorem ev_moved {p k k' : Int} {T : Tb} {n m : Nat} {x x' : Rat} [Td T n] [Qd x m] (hp : Pr p) (l : n + max (3 * k.natAbs + 1) m ≤ 1990 ∧ 2 * n + max (3 * k.natAbs + 1) m + 1 < 2250) (l1 : 0 < m) (lk : k'.natAbs ≤ 2000) (h : SpotIs p (tbMul T (tS p k x)) k' x') : f_moved [.int p, tb T, sp k x] = okD (sp k' x') := by
  have t1 := ev_table_at (k := k) (x := x) hp (show k.natAbs ≤ 100000 by omega)
  have h1 : 3 * k.natAbs + 1 ≤ max (3 * k.natAbs + 1) m := by omega
  have h2 : m ≤ max (3 * k.natAbs + 1) m := by omega
  have tm := td_moved (T := T) (n := n) (m := m) (x := x) hp h1 h2
  have q1 := (qd_pz hp k).mono h1
  have q2 := (inferInstance : Qd x m).mono h2
  have hM : 1 ≤ max (3 * k.natAbs + 1) m := by omega
  generalize max (3 * k.natAbs + 1) m = M at *
  have hS : Td (tS p k x) M := ⟨q1, q2, (inferInstance : Qd (0 : Rat) 1).mono (by omega), (inferInstance : Qd (1 : Rat) 1).mono (by omega)⟩
  have pr := ev_product (s := T) (t := tS p k x) (m := n) (n := M) (by omega)
  have sp1 := ev_spot_of (T := tbMul T (tS p k x)) (n := 2 * n + M + 1) hp (by omega) lk h
  refine outF_ev rfl ?_
  simp_arith!
  exact z_ret (sv := .d (sp k' x')) (by simp! [t1, pr, sp1]) rfl
/-- how far a table's spot lies from nought at most -/
theorem SpotIs.kbd {p k : Int} {T : Tb} {x : Rat} {n : Nat} [Td T n] (hp : Pr p) (h : SpotIs p T k x) : k.natAbs ≤ 6 * n + 1 := by
  obtain ⟨m, a1, a2, -, -⟩ := h.reads hp
  have hm : m.natAbs < n := a1.bd hp (fun q hq => by
    simp only [List.mem_cons, List.mem_nil_iff, or_false] at hq
    rcases hq with rfl | rfl <;> infer_instance)
  have hd := (inferInstance : Qd (det T) _)
  have h1 := vp_lt hp.two (fun z => h.det_ne hp (fr_num.mp z)) hd.num
  have h2 := vp_lt hp.two (den_ne (det T)) hd.den
  have e : vq p (det T) = (vp p (det T).num : Int) - vp p ((det T).den : Int) := rfl
  omega
/-- how great a moved spot is -/
theorem SpotIs.sm {p k a : Int} {T : Tb} {x y : Rat} {n M : Nat} [hT : Td T n] (hp : Pr p) (hx : Sm p k x M) (h : SpotIs p (tbMul T (tS p k x)) a y) : Sm p a y (6 * n + 1 + 3 * M) := by
  obtain ⟨m, ⟨low, q, hq, q0, qv⟩, a2, a3, a4⟩ := h.reads hp
  have dT : det T ≠ 0 := fun z => h.det_ne hp (by rw [det_tbMul, z]; grind)
  have ec : (tbMul T (tS p k x)).c = T.c * pz p k := by unfold tbMul tS; simp only; grind
  have ed : (tbMul T (tS p k x)).d = T.c * x + T.d := by unfold tbMul tS; simp only; grind
  have ea : (tbMul T (tS p k x)).a = T.a * pz p k := by unfold tbMul tS; simp only; grind
  have eb : (tbMul T (tS p k x)).b = T.a * x + T.b := by unfold tbMul tS; simp only; grind
  have ha := Al.qd hp hT.a
  have hb := Al.qd hp hT.b
  have hc := Al.qd hp hT.c
  have hd := Al.qd hp hT.d
  have hk := hx.k
  have Ac : Al p (-(n : Int) - M) (T.c * pz p k) := (hc.mul hp (Al.pz hp k)).le (by omega)
  have Ad : Al p (-(n : Int) - M) (T.c * x + T.d) := ((hc.mul hp hx.a).le (by omega)).add hp (hd.le (by omega))
  rw [ec, ed] at low hq
  have hd2 := (inferInstance : Qd (det T) (n + n + (n + n) + 1))
  have v1 := vp_lt hp.two (fun z => dT (fr_num.mp z)) hd2.num
  have v2 := vp_lt hp.two (den_ne (det T)) hd2.den
  have v3 : vq p (det T) = (vp p (det T).num : Int) - vp p ((det T).den : Int) := rfl
  have v4 : vq p (det (tbMul T (tS p k x))) = vq p (det T) + k := by rw [det_tbMul, det_tS, vq_mul hp dT (pz_ne hp k), vq_pz hp]
  rw [v4] at a2
  have m1 : -(n : Int) - M ≤ m := by
    simp only [List.mem_cons, List.mem_nil_iff, or_false] at hq
    rw [← qv]
    rcases hq with rfl | rfl
    · exact Ac.resolve_left q0
    · exact Ad.resolve_left q0
  have m2 : m ≤ n + M := by
    by_cases c0 : T.c = 0
    · have := low (T.c * x + T.d) (by simp)
      have d0 : T.d ≠ 0 := fun z => dT (by unfold det; rw [c0, z]; grind)
      rw [c0, show (0 : Rat) * x + T.d = T.d by grind] at this
      have := this.resolve_left d0
      have w1 := vp_lt hp.two (fun z => d0 (fr_num.mp z)) hT.d.num
      have w2 : vq p T.d = (vp p T.d.num : Int) - vp p (T.d.den : Int) := rfl
      omega
    · have := (low (T.c * pz p k) (by simp)).resolve_left (mul_ne c0 (pz_ne hp k))
      rw [vq_mul hp c0 (pz_ne hp k), vq_pz hp] at this
      have w1 := vp_lt hp.two (fun z => c0 (fr_num.mp z)) hT.c.num
      have w2 : vq p T.c = (vp p T.c.num : Int) - vp p (T.c.den : Int) := rfl
      omega
  refine ⟨h.1, by omega, ?_⟩
  have fin : ∀ r, IsRest p a r y → Al p (-((6 * n + 1 + 3 * M : Nat) : Int)) r → Al p (-((6 * n + 1 + 3 * M : Nat) : Int)) y := fun r hr har => by
    have e : y = r - (r - y) := by grind
    rw [e]
    exact har.sub hp (hr.al.le (by omega))
  by_cases hcm : (tbMul T (tS p k x)).c ≠ 0 ∧ vq p (tbMul T (tS p k x)).c = m
  · refine fin _ (a3 hcm) ?_
    have c0 := hcm.1
    have cv := hcm.2
    rw [ea]
    exact ((ha.mul hp (Al.pz hp k)).dv hp c0 cv).le (by omega)
  · obtain ⟨d0, hr⟩ := a4 hcm
    refine fin _ hr ?_
    -- d has the power m
    have dv : vq p (tbMul T (tS p k x)).d = m := by
      simp only [List.mem_cons, List.mem_nil_iff, or_false] at hq
      rcases hq with z | z
      · exact (hcm ⟨by rw [ec, ← z]; exact q0, by rw [ec, ← z]; exact qv⟩).elim
      · rw [ed, ← z]; exact qv
    rw [eb]
    exact ((((ha.mul hp hx.a).le (by omega : -(n : Int) - M ≤ _)).add hp (hb.le (by omega))).dv hp d0 dv).le (by omega)
theorem Sm.mono {p k : Int} {x : Rat} {M N : Nat} (h : Sm p k x M) (l : M ≤ N) : Sm p k x N := ⟨h.r, by have := h.k; omega, h.a.le (by omega)⟩
theorem al_int {p t : Int} (hp : Pr p) : Al p 0 (t : Rat) := by
  by_cases h : (t : Rat) = 0
  · exact .inl h
  · exact .inr (by rw [vq_int hp]; omega)
theorem al_low {p t : Int} {b : Nat} (hp : Pr p) : Al p (-(b : Int)) (Rat.divInt t (p ^ b)) := by
  rw [Rat.divInt_eq_div, ← pz_nat]
  have := (al_int (t := t) hp).dv hp (pz_ne hp (b : Int)) (vq_pz hp (b : Int))
  rwa [Int.zero_sub] at this
theorem Sm.rst {p k : Int} {q : Rat} {M : Nat} (hp : Pr p) (hk : k.natAbs ≤ M) (h : Al p (-(M : Int)) q) : Sm p k (rst p k q) M := by
  have r := rst_is (k := k) (q := q) hp
  refine ⟨r.self, hk, ?_⟩
  have e : PT.rst p k q = q - (q - PT.rst p k q) := by grind
  rw [e]
  exact h.sub hp (r.al.le (by omega))
end PT
/-! PM: the level on which two spots meet; ways, ties, tops. -/
namespace PT
open PySem (Str)
/-- tied(p, one, other): slots p, one, other -/
def w_tied : SF := wRet (e2 eqR (eCall f_way (aCons (eVar 0) (aCons (eVar 1) (aCons (eVar 2) (aNil))))) (eC (.int 1)))
instance : Det w_tied := by unfold w_tied; infer_instance
instance : Out w_tied := by unfold w_tied; infer_instance
noncomputable def f_tied : List D → Option R := outF 3 3 w_tied
theorem len_tied : ∀ ds r, f_tied ds = some r → ds.length = 3 := outF_len
theorem does_tied : Does 3 w_tied f_tied := outF_does

/-- top_between(p, one, other): slots p, one, other, level, power -/
def w_top_between : SF := wSeq (wSet 3 (eCall min2R (aCons (e2 ixR (eVar 1) (eC (.int 0))) (aCons (e2 ixR (eVar 2) (eC (.int 0))) (aNil))))) (wSeq (wSet 4 (eCall f_power_in (aCons (eVar 0) (aCons (eCall f_minus (aCons (e2 ixR (eVar 1) (eC (.int 1))) (aCons (e2 ixR (eVar 2) (eC (.int 1))) (aNil)))) (aNil))))) (wSeq (wIf (cT (e2 isntR (eVar 4) (eC .non))) (wSet 3 (eCall min2R (aCons (eVar 3) (aCons (eVar 4) (aNil))))) (wNop)) (wRet (eTup (aCons (eVar 3) (aCons (eCall f_rest_by (aCons (eVar 0) (aCons (eVar 3) (aCons (e2 ixR (eVar 1) (eC (.int 1))) (aNil))))) (aNil)))))))
instance : Det w_top_between := by unfold w_top_between; infer_instance
instance : Out w_top_between := by unfold w_top_between; infer_instance
noncomputable def f_top_between : List D → Option R := outF 3 5 w_top_between
theorem len_top_between : ∀ ds r, f_top_between ds = some r → ds.length = 3 := outF_len
theorem does_top_between : Does 5 w_top_between f_top_between := outF_does
/-- meeting(p, one, two, three): slots p, one, two, three, tops, deepest, top -/
def w_meeting : SF := wSeq (wSet 4 (eLst (aCons (eCall f_top_between (aCons (eVar 0) (aCons (eVar 1) (aCons (eVar 2) (aNil))))) (aCons (eCall f_top_between (aCons (eVar 0) (aCons (eVar 2) (aCons (eVar 3) (aNil))))) (aCons (eCall f_top_between (aCons (eVar 0) (aCons (eVar 3) (aCons (eVar 1) (aNil))))) (aNil)))))) (wSeq (wSet 5 (e2 ixR (eVar 4) (eC (.int 0)))) (wSeq (wFor (itD (eVar 4)) (gN 6) (wIf (cT (e2 gtR (e2 ixR (eVar 6) (eC (.int 0))) (e2 ixR (eVar 5) (eC (.int 0))))) (wSet 5 (eVar 6)) (wNop))) (wRet (eVar 5))))
instance : Det w_meeting := by unfold w_meeting; infer_instance
instance : Out w_meeting := by unfold w_meeting; infer_instance
noncomputable def f_meeting : List D → Option R := outF 4 7 w_meeting
theorem len_meeting : ∀ ds r, f_meeting ds = some r → ds.length = 4 := outF_len
theorem does_meeting : Does 7 w_meeting f_meeting := outF_does

abbrev Spt := Int × Rat
/-- a spot as data -/
def spD (S : Spt) : D := sp S.1 S.2
abbrev SmS (p : Int) (S : Spt) (M : Nat) : Prop := Sm p S.1 S.2 M
open Classical in
/-- the least first number on the road between two spots -/
noncomputable def Lv (p : Int) (S T : Spt) : Int :=
  if S.2 - T.2 = 0 then (if T.1 < S.1 then T.1 else S.1)
  else (if vq p (S.2 - T.2) < (if T.1 < S.1 then T.1 else S.1) then vq p (S.2 - T.2) else (if T.1 < S.1 then T.1 else S.1))
theorem lv_iff {p n : Int} {S T : Spt} : n ≤ Lv p S T ↔ n ≤ S.1 ∧ n ≤ T.1 ∧ Al p n (S.2 - T.2) := by
  unfold Lv Al
  by_cases h : S.2 - T.2 = 0
  · rw [if_pos h]
    constructor
    · intro g; refine ⟨?_, ?_, .inl h⟩ <;> (split at g <;> omega)
    · rintro ⟨a, b, -⟩; split <;> omega
  · rw [if_neg h]
    have key : ∀ v s t : Int, (n ≤ if v < (if t < s then t else s) then v else (if t < s then t else s)) ↔ n ≤ s ∧ n ≤ t ∧ n ≤ v := fun v s t => by
      by_cases z : t < s
      · rw [if_pos z]
        by_cases y : v < t
        · rw [if_pos y]; omega
        · rw [if_neg y]; omega
      · rw [if_neg z]
        by_cases y : v < s
        · rw [if_pos y]; omega
        · rw [if_neg y]; omega
    rw [key]
    exact ⟨fun ⟨a, b, c⟩ => ⟨a, b, .inr c⟩, fun ⟨a, b, c⟩ => ⟨a, b, c.resolve_left h⟩⟩
theorem eq_of_le {a b : Int} (h : ∀ n : Int, n ≤ a ↔ n ≤ b) : a = b := Int.le_antisymm ((h a).mp (Int.le_refl _)) ((h b).mpr (Int.le_refl _))
theorem lv_symm {p : Int} {S T : Spt} (hp : Pr p) : Lv p S T = Lv p T S := eq_of_le fun n => by
  rw [lv_iff, lv_iff]
  exact ⟨fun ⟨a, b, c⟩ => ⟨b, a, c.symm hp⟩, fun ⟨a, b, c⟩ => ⟨b, a, c.symm hp⟩⟩
theorem lv_le {p : Int} {S T : Spt} : Lv p S T ≤ S.1 ∧ Lv p S T ≤ T.1 ∧ Al p (Lv p S T) (S.2 - T.2) := lv_iff.mp (Int.le_refl _)
theorem lv_self {p : Int} {S : Spt} : Lv p S S = S.1 := eq_of_le fun n => by
  rw [lv_iff, Rat.sub_self]
  exact ⟨fun h => h.1, fun h => ⟨h, h, Al.zero p n⟩⟩
/-- of three levels the least one comes twice -/
theorem lv_tri {p n : Int} {S T U : Spt} (hp : Pr p) (h : n ≤ Lv p S T) (g : n ≤ Lv p T U) : n ≤ Lv p S U := by
  rw [lv_iff] at *
  exact ⟨h.1, g.2.1, h.2.2.trans hp g.2.2⟩
noncomputable def farS (p : Int) (S T : Spt) : Int := S.1 + T.1 - 2 * Lv p S T
theorem lv_low {p : Int} {S T : Spt} (hp : Pr p) : S.1 + lowU p S.1 S.2 T.1 T.2 = Lv p S T := by
  have e : T.2 - S.2 = -(S.2 - T.2) := by grind
  unfold lowU Lv
  by_cases h : S.2 - T.2 = 0
  · rw [if_pos h, if_pos (by rw [e, h]; rfl)]
    split <;> split <;> omega
  · rw [if_neg h, if_neg (fun z => h (by grind)), e, vq_neg hp]
    split <;> split <;> (try split) <;> (try split) <;> omega
theorem ev_wayS {p : Int} {S T : Spt} {M : Nat} (hp : Pr p) (hS : SmS p S M) (hT : SmS p T M) (l : M ≤ 310) : f_way [.int p, spD S, spD T] = okI (farS p S T) := by
  have q1 : Qd S.2 1900 := (hS.qd hp).mono (by omega)
  have q2 : Qd T.2 1900 := (hT.qd hp).mono (by omega)
  have e := ev_way (k1 := S.1) (k2 := T.1) (x1 := S.2) (x2 := T.2) (n := 1900) hp (by have := hS.k; omega) (by have := hT.k; omega) (by decide) (lowU_is hp)
  have e2 : T.1 - S.1 - 2 * lowU p S.1 S.2 T.1 T.2 = farS p S T := by
    unfold farS; rw [← lv_low hp]; omega
  rw [← e2]; exact e
theorem ev_lies_inS {p : Int} {S T : Spt} {M : Nat} (hp : Pr p) (hS : SmS p S M) (hT : SmS p T M) (l : M ≤ 310) : f_lies_in [.int p, spD S, spD T] = okD (.tup [.int (Lv p S T - S.1), .int (T.1 - Lv p S T)]) := by
  have q1 : Qd S.2 1900 := (hS.qd hp).mono (by omega)
  have q2 : Qd T.2 1900 := (hT.qd hp).mono (by omega)
  have e := ev_lies_in (k1 := S.1) (k2 := T.1) (x1 := S.2) (x2 := T.2) (n := 1900) hp (by have := hS.k; omega) (by have := hT.k; omega) (by decide) (lowU_is hp)
  rw [show Lv p S T - S.1 = lowU p S.1 S.2 T.1 T.2 by rw [← lv_low hp]; omega, show T.1 - Lv p S T = T.1 - S.1 - lowU p S.1 S.2 T.1 T.2 by rw [← lv_low hp]; omega]
  exact e
theorem ev_tied {p : Int} {S T : Spt} {M : Nat} (hp : Pr p) (hS : SmS p S M) (hT : SmS p T M) (l : M ≤ 310) : f_tied [.int p, spD S, spD T] = okB (farS p S T == 1) := by
  have e := ev_wayS hp hS hT l
  refine outF_ev rfl ?_
  exact z_ret (by simp! [e]) rfl
/-- the top of the road -/
noncomputable def topS (p : Int) (S T : Spt) : Spt := (Lv p S T, rst p (Lv p S T) S.2)
theorem lv_bd {p : Int} {S T : Spt} {M : Nat} (hp : Pr p) (hS : SmS p S M) (hT : SmS p T M) : (Lv p S T).natAbs ≤ M := by
  have h1 := lv_le (p := p) (S := S) (T := T)
  have h2 : -(M : Int) ≤ Lv p S T := lv_iff.mpr ⟨by have := hS.k; omega, by have := hT.k; omega, hS.a.sub hp hT.a⟩
  have := hS.k
  omega
theorem top_sm {p : Int} {S T : Spt} {M : Nat} (hp : Pr p) (hS : SmS p S M) (hT : SmS p T M) : SmS p (topS p S T) M := Sm.rst hp (lv_bd hp hS hT) hS.a
theorem ev_top_between {p : Int} {S T : Spt} {M : Nat} (hp : Pr p) (hS : SmS p S M) (hT : SmS p T M) (l : M ≤ 540) : f_top_between [.int p, spD S, spD T] = okD (spD (topS p S T)) := by
  have q1 : Qd S.2 3250 := (hS.qd hp).mono (by omega)
  have q2 : Qd T.2 3250 := (hT.qd hp).mono (by omega)
  have hb := lv_bd hp hS hT
  obtain ⟨r, hr, -, re⟩ := rest_deep (k := Lv p S T) (q := S.2) hp q1 (by decide) (by omega)
  have er : rst p (Lv p S T) S.2 = r := rst_of hp hr
  have i0 : ixR (spD S) (.int 0) = okD (.int S.1) := rfl
  have i1 : ixR (spD S) (.int 1) = okD (fr S.2) := rfl
  have j0 : ixR (spD T) (.int 0) = okD (.int T.1) := rfl
  have j1 : ixR (spD T) (.int 1) = okD (fr T.2) := rfl
  have nn : ∀ i : Int, isntR (.int i) .non = okB true := fun _ => rfl
  have nn0 : isntR .non .non = okB false := rfl
  have fin : ∀ z : Option SV, (wRet (eTup (aCons (eVar 3) (aCons (eCall f_rest_by (aCons (eVar 0) (aCons (eVar 3) (aCons (PT.e2 ixR (eVar 1) (eC (.int 1))) (aNil))))) (aNil))))) (PDof (.ok (.d (spD (topS p S T))))) [some (.d (.int p)), some (.d (spD S)), some (.d (spD T)), some (.d (.int (Lv p S T))), z] := fun z => by
    refine z_ret (sv := .d (spD (topS p S T))) ?_ rfl
    have es : D.tup [.int (Lv p S T), fr r] = spD (topS p S T) := by unfold topS; rw [er]; rfl
    simp! [i1, re, es]
  refine outF_ev rfl ?_
  simp_arith!
  refine q_set (v := .int (if T.1 < S.1 then T.1 else S.1)) (by simp! [i0, j0]) ?_
  simp_arith!
  by_cases h : S.2 - T.2 = 0
  · have e0 : vqD p (S.2 - T.2) = .non := by unfold vqD; rw [if_pos h]
    have eL : (if T.1 < S.1 then T.1 else S.1) = Lv p S T := by unfold Lv; rw [if_pos h]
    refine q_set (v := .non) (by simp! [i1, j1, ev_minus, ev_power_in hp, e0]) ?_
    simp_arith!
    refine q_if (t := false) (by simp! [nn0]) (fun z => by cases z) fun _ => ?_
    rw [eL]
    exact fin _
  · refine q_set (v := .int (vq p (S.2 - T.2))) (by simp! [i1, j1, ev_minus, ev_power_in hp, vqD_ne h]) ?_
    simp_arith!
    refine q_if (t := true) (by simp! [nn]) (fun _ => ?_) (fun z => by cases z)
    have eL : (if vq p (S.2 - T.2) < (if T.1 < S.1 then T.1 else S.1) then vq p (S.2 - T.2) else (if T.1 < S.1 then T.1 else S.1)) = Lv p S T := by unfold Lv; rw [if_neg h]
    refine z_set (v := .int (Lv p S T)) (by simp! [eL]) ?_
    exact fin _
/-- what holds of where three meet: on the side of A and B, C the farther one -/
structure MeetIs (p : Int) (A B C F : Spt) : Prop where
  a : Lv p F A = F.1
  b : Lv p F B = F.1
  c : Lv p F C = Lv p C A ∧ Lv p C A = Lv p B C
  l : F.1 = Lv p A B
theorem meet_is {p : Int} {A B C : Spt} (hp : Pr p) (h1 : Lv p B C ≤ Lv p A B) (h2 : Lv p C A ≤ Lv p A B) : MeetIs p A B C (topS p A B) := by
  have hL := lv_le (p := p) (S := A) (T := B)
  have hr := rst_is (k := Lv p A B) (q := A.2) hp
  have fa : Lv p (topS p A B) A = Lv p A B := by
    apply Int.le_antisymm
    · exact (lv_le (S := topS p A B) (T := A)).1
    · exact lv_iff.mpr ⟨Int.le_refl _, hL.1, hr.al.symm hp⟩
  have fb : Lv p (topS p A B) B = Lv p A B := by
    apply Int.le_antisymm
    · exact (lv_le (S := topS p A B) (T := B)).1
    · exact lv_tri hp (Int.le_of_eq fa.symm) (Int.le_refl _)
  have ca : Lv p C A = Lv p B C := by
    apply Int.le_antisymm
    · rw [lv_symm hp (S := B)]
      exact lv_tri hp (Int.le_refl _) h2
    · have := lv_tri hp h1 (Int.le_refl (Lv p B C))
      rwa [lv_symm hp (S := A)] at this
  refine ⟨fa, fb, ⟨?_, ca⟩, rfl⟩
  apply Int.le_antisymm
  · have h3 : Lv p (topS p A B) C ≤ Lv p A B := (lv_le (S := topS p A B) (T := C)).1
    have h4 : Lv p (topS p A B) C ≤ Lv p A (topS p A B) := by rw [lv_symm hp (S := A), fa]; exact h3
    have := lv_tri hp h4 (Int.le_refl _)
    rwa [lv_symm hp (S := A)] at this
  · have h3 : Lv p C A ≤ Lv p (topS p A B) A := by rw [fa]; exact h2
    have h4 : Lv p C A ≤ Lv p A C := by rw [lv_symm hp]; exact Int.le_refl _
    exact lv_tri hp h3 h4
open Classical in
/-- where three meet -/
noncomputable def meetS (p : Int) (A B C : Spt) : Spt :=
  if Lv p C A > (if Lv p B C > Lv p A B then topS p B C else topS p A B).1 then topS p C A else (if Lv p B C > Lv p A B then topS p B C else topS p A B)
theorem meetS_is {p : Int} {A B C : Spt} (hp : Pr p) : ∃ X Y Z, MeetIs p X Y Z (meetS p A B C) ∧ ((X = A ∧ Y = B ∧ Z = C) ∨ (X = B ∧ Y = C ∧ Z = A) ∨ (X = C ∧ Y = A ∧ Z = B)) ∧ meetS p A B C = topS p X Y := by
  unfold meetS
  by_cases h1 : Lv p B C > Lv p A B
  · rw [if_pos h1]
    by_cases h2 : Lv p C A > Lv p B C
    · rw [if_pos (show Lv p C A > (topS p B C).1 from h2)]
      exact ⟨C, A, B, meet_is hp (by omega) (by omega), .inr (.inr ⟨rfl, rfl, rfl⟩), rfl⟩
    · rw [if_neg (show ¬ Lv p C A > (topS p B C).1 from h2)]
      exact ⟨B, C, A, meet_is hp (by omega) (by omega), .inr (.inl ⟨rfl, rfl, rfl⟩), rfl⟩
  · rw [if_neg h1]
    by_cases h2 : Lv p C A > Lv p A B
    · rw [if_pos (show Lv p C A > (topS p A B).1 from h2)]
      exact ⟨C, A, B, meet_is hp (by omega) (by omega), .inr (.inr ⟨rfl, rfl, rfl⟩), rfl⟩
    · rw [if_neg (show ¬ Lv p C A > (topS p A B).1 from h2)]
      exact ⟨A, B, C, meet_is hp (by omega) (by omega), .inl ⟨rfl, rfl, rfl⟩, rfl⟩
theorem meetS_sm {p : Int} {A B C : Spt} {M : Nat} (hp : Pr p) (hA : SmS p A M) (hB : SmS p B M) (hC : SmS p C M) : SmS p (meetS p A B C) M := by
  obtain ⟨X, Y, Z, -, h, e⟩ := meetS_is (A := A) (B := B) (C := C) hp
  rw [e]
  rcases h with ⟨rfl, rfl, rfl⟩ | ⟨rfl, rfl, rfl⟩ | ⟨rfl, rfl, rfl⟩
  · exact top_sm hp hA hB
  · exact top_sm hp hB hC
  · exact top_sm hp hC hA
/-- the ways to where three meet -/
theorem meet_ways {p : Int} {A B C : Spt} (hp : Pr p) : 2 * farS p (meetS p A B C) A = farS p A B + farS p C A - farS p B C ∧ 2 * farS p (meetS p A B C) B = farS p A B + farS p B C - farS p C A ∧ 2 * farS p (meetS p A B C) C = farS p B C + farS p C A - farS p A B := by
  obtain ⟨X, Y, Z, ⟨a, b, ⟨c1, c2⟩, l⟩, h, -⟩ := meetS_is (A := A) (B := B) (C := C) hp
  generalize meetS p A B C = F at *
  unfold farS
  rcases h with ⟨rfl, rfl, rfl⟩ | ⟨rfl, rfl, rfl⟩ | ⟨rfl, rfl, rfl⟩ <;> (refine ⟨?_, ?_, ?_⟩ <;> omega)
theorem ev_meeting {p : Int} {A B C : Spt} {M : Nat} (hp : Pr p) (hA : SmS p A M) (hB : SmS p B M) (hC : SmS p C M) (l : M ≤ 540) : f_meeting [.int p, spD A, spD B, spD C] = okD (spD (meetS p A B C)) := by
  have e1 := ev_top_between hp hA hB l
  have e2 := ev_top_between hp hB hC l
  have e3 := ev_top_between hp hC hA l
  have i0 : ∀ S : Spt, ixR (spD S) (.int 0) = okD (.int S.1) := fun _ => rfl
  have l0 : ∀ a b c : D, ixR (.lst [a, b, c]) (.int 0) = okD a := fun _ _ _ => rfl
  refine outF_ev rfl ?_
  simp_arith!
  refine q_setL (ds := [spD (topS p A B), spD (topS p B C), spD (topS p C A)]) (by simp! [e1, e2, e3]) ?_
  simp_arith!
  refine q_set (v := spD (topS p A B)) (by simp! [l0]) ?_
  simp_arith!
  let dp : Nat → Spt := fun j => match j with
    | 0 => topS p A B
    | 1 => topS p A B
    | 2 => if Lv p B C > Lv p A B then topS p B C else topS p A B
    | _ => meetS p A B C
  refine q_forN (ds := [spD (topS p A B), spD (topS p B C), spD (topS p C A)]) (fun j ρ => ∃ x, ρ = [some (.d (.int p)), some (.d (spD A)), some (.d (spD B)), some (.d (spD C)), some (.d (.lst [spD (topS p A B), spD (topS p B C), spD (topS p C A)])), some (.d (spD (dp j))), x]) (by simp! []) ⟨_, rfl⟩ ?_ ?_
  · rintro ρ ⟨x, rfl⟩
    exact z_ret (sv := .d (spD (meetS p A B C))) (by simp! []) rfl
  · have step : ∀ (j : Nat) (S : Spt) (K : En → Prop) (x : Option SV), (∀ ρ', (∃ x, ρ' = [some (.d (.int p)), some (.d (spD A)), some (.d (spD B)), some (.d (spD C)), some (.d (.lst [spD (topS p A B), spD (topS p B C), spD (topS p C A)])), some (.d (spD (dp (j + 1)))), x]) → K ρ') → dp (j + 1) = (if S.1 > (dp j).1 then S else dp j) → ∀ P : PD, P.nx = K → wIf (cT (PT.e2 gtR (PT.e2 ixR (eVar 6) (eC (.int 0))) (PT.e2 ixR (eVar 5) (eC (.int 0))))) (wSet 5 (eVar 6)) wNop P [some (.d (.int p)), some (.d (spD A)), some (.d (spD B)), some (.d (spD C)), some (.d (.lst [spD (topS p A B), spD (topS p B C), spD (topS p C A)])), some (.d (spD (dp j))), some (.d (spD S))] := by
      intro j S K x hK hd P hP
      by_cases h : (dp j).1 < S.1
      · have e : decide ((dp j).1 < S.1) = true := decide_eq_true h
        rw [if_pos h] at hd
        refine z_if (t := true) (by simp! [i0, e]) (fun _ => z_set (v := spD S) (by simp! []) ?_) fun z => by cases z
        rw [hP]
        exact hK _ ⟨_, by rw [hd]; rfl⟩
      · have e : decide ((dp j).1 < S.1) = false := decide_eq_false h
        rw [if_neg h] at hd
        refine z_if (t := false) (by simp! [i0, e]) (fun z => by cases z) fun _ => ?_
        show P.nx _
        rw [hP]
        exact hK _ ⟨_, by rw [hd]⟩
    rintro j d ρ K hd ⟨x, rfl⟩ hK
    match j, hd with
    | 0, hd =>
      cases hd
      refine ⟨_, rfl, ?_⟩
      exact step 0 (topS p A B) K none hK (by rw [if_neg (by show ¬ (topS p A B).1 > (topS p A B).1; omega)]; rfl) _ rfl
    | 1, hd =>
      cases hd
      refine ⟨_, rfl, ?_⟩
      exact step 1 (topS p B C) K none hK rfl _ rfl
    | 2, hd =>
      cases hd
      refine ⟨_, rfl, ?_⟩
      exact step 2 (topS p C A) K none hK rfl _ rfl
theorem far_tri {p : Int} {S T U : Spt} (hp : Pr p) : farS p S U ≤ farS p S T + farS p T U := by
  have h1 := lv_le (p := p) (S := S) (T := T)
  have h2 := lv_le (p := p) (S := T) (T := U)
  have h3 : (if Lv p T U < Lv p S T then Lv p T U else Lv p S T) ≤ Lv p S U := lv_tri hp (T := T) (by split <;> omega) (by split <;> omega)
  unfold farS
  split at h3 <;> omega
theorem far_symm {p : Int} {S T : Spt} (hp : Pr p) : farS p S T = farS p T S := by unfold farS; rw [lv_symm hp]; omega
end PT
/-! PM: tables keep ways; spots by their way from the first one. -/
namespace PT
open PySem (Str)
theorem lowS_is {p : Int} {S U : Spt} (hp : Pr p) : IsLow4 p (tbMul (tbInv (tS p S.1 S.2)) (tS p U.1 U.2)) (Lv p S U - S.1) := by
  rw [mul_tU hp, show Lv p S U - S.1 = lowU p S.1 S.2 U.1 U.2 by rw [← lv_low hp]; omega]
  exact lowU_is hp
/-- a table keeps ways -/
theorem far_moved {p : Int} {T : Tb} {S U S' U' : Spt} (hp : Pr p) (hT : det T ≠ 0) (h : SpotIs p (tbMul T (tS p S.1 S.2)) S'.1 S'.2) (g : SpotIs p (tbMul T (tS p U.1 U.2)) U'.1 U'.2) : farS p S' U' = farS p S U := by
  obtain ⟨-, F, l, hF, hl, e1⟩ := h
  obtain ⟨-, G, m, hG, hm, e2⟩ := g
  have low := lowS_is (S := S) (U := U) hp
  have low' := lowS_is (S := S') (U := U') hp
  have dA : det (tS p S.1 S.2) ≠ 0 := by rw [det_tS]; exact pz_ne hp _
  have dA' : det (tS p S'.1 S'.2) ≠ 0 := by rw [det_tS]; exact pz_ne hp _
  have eX : tbMul (tbInv (tS p S.1 S.2)) (tS p U.1 U.2) = tU p S.1 S.2 U.1 U.2 := mul_tU hp
  have eX' : tbMul (tbInv (tS p S'.1 S'.2)) (tS p U'.1 U'.2) = tU p S'.1 S'.2 U'.1 U'.2 := mul_tU hp
  have det_u : ∀ A B : Spt, det (tU p A.1 A.2 B.1 B.2) = pz p (B.1 - A.1) := fun A B => by unfold det tU; simp only; grind
  have eB : tbMul (tS p S.1 S.2) (tbMul (tbInv (tS p S.1 S.2)) (tS p U.1 U.2)) = tS p U.1 U.2 := by rw [assocT, mul_invT _ dA, oneT]
  generalize tbMul (tbInv (tS p S.1 S.2)) (tS p U.1 U.2) = X at *
  have l1 : l⁻¹ ≠ 0 := by grind
  have m1 : m⁻¹ ≠ 0 := by grind
  have lm : l * m⁻¹ ≠ 0 := mul_ne hl m1
  -- the spots' tables
  have a1 : tS p S'.1 S'.2 = tbSc (tbMul (tbMul T (tS p S.1 S.2)) (tbInv F)) l⁻¹ := by
    rw [e1, scMul, ← assocT, mul_invT F hF.u, Tone, scSc, show l * l⁻¹ = 1 by grind, scOne]
  have b1 : tS p U'.1 U'.2 = tbSc (tbMul (tbMul T (tS p U.1 U.2)) (tbInv G)) m⁻¹ := by
    rw [e2, scMul, ← assocT, mul_invT G hG.u, Tone, scSc, show m * m⁻¹ = 1 by grind, scOne]
  have key : tbMul (tS p S'.1 S'.2) (tbSc (tbMul (tbMul F X) (tbInv G)) (l * m⁻¹)) = tS p U'.1 U'.2 := by
    rw [b1, a1, scMul, mulSc, scSc, show l * m⁻¹ * l⁻¹ = m⁻¹ by grind]
    congr 1
    rw [← eB, assocT, assocT, ← assocT (tbMul T (tS p S.1 S.2)) (tbInv F) F, inv_mulT F hF.u, Tone, assocT T]
  have eq : tbMul (tbInv (tS p S'.1 S'.2)) (tS p U'.1 U'.2) = tbSc (tbMul (tbMul F X) (tbInv G)) (l * m⁻¹) := by
    rw [← key, assocT, inv_mulT _ dA', oneT]
  rw [eq] at low'
  have low2 := ((low.mulL hp hF).mulR hp (hG.inv hp)).sc hp lm
  have e3 := IsLow.one low' low2
  have dX : vq p (det X) = U.1 - S.1 := by rw [eX, det_u, vq_pz hp]
  have d' : vq p (det (tbSc (tbMul (tbMul F X) (tbInv G)) (l * m⁻¹))) = U'.1 - S'.1 := by rw [← eq, eX', det_u, vq_pz hp]
  have x0 : det X ≠ 0 := by rw [eX, det_u]; exact pz_ne hp _
  rw [det_tbSc, det_tbMul, det_tbMul, det_invT G hG.u, vq_mul hp (mul_ne (mul_ne hF.u x0) (by have := hG.u; grind)) (mul_ne lm lm), vq_mul hp (mul_ne hF.u x0) (by have := hG.u; grind), vq_mul hp hF.u x0, vq_inv hp hG.u, hF.v, hG.v, dX, vq_mul hp lm lm] at d'
  unfold farS
  omega
/-- a spot by its way from the first one -/
structure Rd (p : Int) (S : Spt) (D : Nat) : Prop where
  r : IsRest p S.1 S.2 S.2
  d : farS p (0, 0) S ≤ D
theorem Rd.mono {p : Int} {S : Spt} {D E : Nat} (h : Rd p S D) (l : D ≤ E) : Rd p S E := ⟨h.r, by have := h.d; omega⟩
theorem Rd.lv {p : Int} {S : Spt} {D : Nat} (h : Rd p S D) : S.1.natAbs ≤ D ∧ Lv p (0, 0) S ≤ 0 ∧ S.1 - 2 * Lv p (0, 0) S ≤ D ∧ -(D : Int) ≤ Lv p (0, 0) S := by
  have hd := h.d
  have h1 := lv_le (p := p) (S := (0, 0)) (T := S)
  have a : Lv p (0, 0) S ≤ 0 := h1.1
  have b : Lv p (0, 0) S ≤ S.1 := h1.2.1
  have e : farS p (0, 0) S = 0 + S.1 - 2 * Lv p (0, 0) S := rfl
  refine ⟨by omega, a, by omega, by omega⟩
theorem Rd.sm {p : Int} {S : Spt} {D : Nat} (hp : Pr p) (h : Rd p S D) : SmS p S D := by
  obtain ⟨h1, h2, h3, h4⟩ := h.lv
  refine ⟨h.r, h1, ?_⟩
  have := (lv_le (p := p) (S := (0, 0)) (T := S)).2.2
  have e : S.2 = -((0 : Rat) - S.2) := by grind
  rw [e]
  exact (this.le h4).neg hp
theorem Rd.qd {p : Int} {S : Spt} {D : Nat} (hp : Pr p) (h : Rd p S D) : Qd S.2 (3 * D + 1) := by
  obtain ⟨h1, h2, h3, h4⟩ := h.lv
  have sm := h.sm hp
  obtain ⟨j, hj⟩ := h.r.den
  have al := (lv_le (p := p) (S := (0, 0)) (T := S)).2.2
  have hjM : (j : Int) ≤ -Lv p (0, 0) S := by
    rcases Nat.eq_zero_or_pos j with z | z
    · omega
    · have hn := cop_power hp hj z
      have x0 : S.2 ≠ 0 := fun y => hn (by rw [y]; exact Int.dvd_zero p)
      have e : (0 : Rat) - S.2 = -S.2 := by grind
      have al : Al p (Lv p (0, 0) S) (-S.2) := by rw [← e]; exact al
      have := al.resolve_left (fun y => x0 (by grind))
      rw [vq_neg hp] at this
      unfold vq at this
      rw [hj, vp_pow hp, vp_zero hp hn] at this
      omega
  refine ⟨?_, ?_⟩
  · have nn := Rat.num_nonneg.mpr h.r.nn
    have lt := h.r.lt
    -- num = x * p ^ j < p ^ D
    have e1 : (S.2.num : Rat) = S.2 * pz p j := by
      have := num_den S.2
      rw [hj] at this
      have pj := pz_ne hp (j : Int)
      rw [pz_nat] at pj ⊢
      generalize ((p ^ j : Int) : Rat) = u at *
      rw [← this]; grind
    have h5 : S.2 * pz p j < pz p (D : Int) := by
      have a1 := Rat.mul_lt_mul_of_pos_right lt (pz_pos hp (j : Int))
      rw [← pz_add hp] at a1
      refine Std.lt_of_lt_of_le a1 ?_
      obtain ⟨d, hd⟩ : ∃ d : Nat, (D : Int) = S.1 + j + d := ⟨((D : Int) - S.1 - j).toNat, by omega⟩
      rw [hd, pz_add hp (S.1 + j) d]
      have h3 : (1 : Rat) ≤ pz p d := by
        rw [pz_nat]
        have := hp.pow_pos d
        exact_mod_cast (show (1 : Int) ≤ p ^ d by omega)
      have := Rat.mul_le_mul_of_nonneg_left h3 (Rat.le_of_lt (pz_pos hp (S.1 + j)))
      rwa [Rat.mul_one] at this
    rw [← e1, pz_nat] at h5
    have h6 : S.2.num < p ^ D := by exact_mod_cast h5
    exact bd_lt nn h6 (hp.pow_bd D)
  · rw [hj]; exact (hp.pow_bd j).mono (by omega)
/-- how far a table moves the first spot -/
theorem rad_table {p m : Int} {T : Tb} {S : Spt} (hp : Pr p) (low : IsLow4 p T m) (h : SpotIs p T S.1 S.2) : farS p (0, 0) S = vq p (det T) - 2 * m := by
  have h0 := h
  obtain ⟨hx, F, l, hF, hl, e⟩ := h
  have low1 : IsLow4 p (tS p S.1 S.2) (Lv p (0, 0) S) := by
    have := lowS_is (S := (0, 0)) (U := S) hp
    have e1 : tbMul (tbInv (tS p 0 0)) (tS p S.1 S.2) = tS p S.1 S.2 := by
      have e2 : tS p 0 0 = tb1 := by unfold tS tb1; rw [pz_zero]
      have e3 : tbInv tb1 = tb1 := by
        rw [Tb.eq_iff]; unfold tbInv tb1 det; simp only; refine ⟨?_, ?_, ?_, ?_⟩ <;> grind
      rw [e2, e3, oneT]
    have this : IsLow4 p (tbMul (tbInv (tS p 0 0)) (tS p S.1 S.2)) (Lv p (0, 0) S - 0) := this
    rw [e1, Int.sub_zero] at this
    exact this
  have low2 := (low1.mulR hp hF).sc hp hl
  rw [← e] at low2
  have e4 := IsLow.one low low2
  have dv : vq p (det T) = S.1 + 2 * vq p l := by
    rw [e, det_tbSc, det_tbMul, det_tS, vq_mul hp (mul_ne (pz_ne hp _) hF.u) (mul_ne hl hl), vq_mul hp (pz_ne hp _) hF.u, vq_mul hp hl hl, vq_pz hp, hF.v]
    omega
  unfold farS
  show 0 + S.1 - 2 * Lv p (0, 0) S = _
  omega
/-- a table that moves the first spot by at most D -/
structure Tr (p : Int) (T : Tb) (D : Nat) : Prop where
  u : det T ≠ 0
  d : ∃ m, Alt p m T ∧ vq p (det T) - 2 * m ≤ D
theorem Tr.rad {p : Int} {T : Tb} {D : Nat} {S : Spt} (hp : Pr p) (h : Tr p T D) (g : SpotIs p T S.1 S.2) : Rd p S D := by
  obtain ⟨n, hn⟩ := low4_ex (p := p) h.u
  obtain ⟨m, a, b⟩ := h.d
  refine ⟨g.1, ?_⟩
  rw [rad_table hp hn g]
  have : m ≤ n := by
    obtain ⟨-, q, hq, q0, qv⟩ := hn
    simp only [List.mem_cons, List.mem_nil_iff, or_false] at hq
    rcases hq with rfl | rfl | rfl | rfl
    · rw [← qv]; exact a.1.resolve_left q0
    · rw [← qv]; exact a.2.1.resolve_left q0
    · rw [← qv]; exact a.2.2.1.resolve_left q0
    · rw [← qv]; exact a.2.2.2.resolve_left q0
  omega
theorem tS_first {p : Int} : tS p 0 0 = tb1 := by unfold tS tb1; rw [pz_zero]
/-- the moved spot -/
theorem Rd.moved {p : Int} {T : Tb} {S S' : Spt} {D E : Nat} (hp : Pr p) (h : Rd p S D) (t : Tr p T E) (g : SpotIs p (tbMul T (tS p S.1 S.2)) S'.1 S'.2) : Rd p S' (E + D) := by
  refine ⟨g.1, ?_⟩
  obtain ⟨k, x, h0⟩ := spot_ex hp t.u
  have h1 := t.rad (S := (k, x)) hp h0
  have h2 : SpotIs p (tbMul T (tS p (0, (0 : Rat)).1 (0, (0 : Rat)).2)) (k, x).1 (k, x).2 := by
    show SpotIs p (tbMul T (tS p 0 0)) k x
    rw [tS_first, Tone]; exact h0
  have e := far_moved (S := (0, 0)) (U := S) (S' := (k, x)) (U' := S') hp t.u h2 g
  have t1 := far_tri (S := (0, 0)) (T := (k, x)) (U := S') hp
  have := h1.d
  have := h.d
  omega
theorem moved_ex {p : Int} {T : Tb} {S : Spt} (hp : Pr p) (hT : det T ≠ 0) : ∃ S' : Spt, SpotIs p (tbMul T (tS p S.1 S.2)) S'.1 S'.2 := by
  obtain ⟨k, x, h⟩ := spot_ex (p := p) (T := tbMul T (tS p S.1 S.2)) hp (by rw [det_tbMul, det_tS]; exact mul_ne hT (pz_ne hp _))
  exact ⟨(k, x), h⟩
open Classical in
/-- the spot to which a table moves a spot -/
noncomputable def mvS (p : Int) (T : Tb) (S : Spt) : Spt := if h : ∃ S' : Spt, SpotIs p (tbMul T (tS p S.1 S.2)) S'.1 S'.2 then h.choose else S
theorem mv_is {p : Int} {T : Tb} {S : Spt} (hp : Pr p) (hT : det T ≠ 0) : SpotIs p (tbMul T (tS p S.1 S.2)) (mvS p T S).1 (mvS p T S).2 := by
  have h := moved_ex (S := S) hp hT
  unfold mvS
  rw [dif_pos h]
  exact h.choose_spec
theorem mv_of {p : Int} {T : Tb} {S S' : Spt} (hp : Pr p) (h : SpotIs p (tbMul T (tS p S.1 S.2)) S'.1 S'.2) : mvS p T S = S' := by
  have hT : det T ≠ 0 := fun z => h.det_ne hp (by rw [det_tbMul, z]; grind)
  obtain ⟨a, b⟩ := (mv_is hp hT).one hp h
  exact Prod.ext a b
theorem mv_mul {p : Int} {T U : Tb} {S : Spt} (hp : Pr p) (hT : det T ≠ 0) (hU : det U ≠ 0) : mvS p (tbMul T U) S = mvS p T (mvS p U S) := by
  apply mv_of hp
  have h1 := mv_is (S := S) hp hU
  have h2 := mv_is (S := mvS p U S) hp hT
  rw [← assocT]
  exact h1.on hp h2
theorem mv_sc {p : Int} {T : Tb} {S : Spt} {l : Rat} (hp : Pr p) (hT : det T ≠ 0) (hl : l ≠ 0) : mvS p (tbSc T l) S = mvS p T S := by
  apply mv_of hp
  rw [scMul]
  exact (mv_is hp hT).sc hl
theorem mv_one {p : Int} {S : Spt} (hp : Pr p) (h : IsRest p S.1 S.2 S.2) : mvS p tb1 S = S := by
  apply mv_of hp
  rw [oneT]
  exact spot_self hp h
theorem mv_inv {p : Int} {T : Tb} {S : Spt} (hp : Pr p) (hT : det T ≠ 0) (h : IsRest p S.1 S.2 S.2) : mvS p (tbInv T) (mvS p T S) = S := by
  have hi : det (tbInv T) ≠ 0 := by rw [det_invT T hT]; grind
  rw [← mv_mul hp hi hT, inv_mulT T hT, mv_one hp h]
theorem mv_inv2 {p : Int} {T : Tb} {S : Spt} (hp : Pr p) (hT : det T ≠ 0) (h : IsRest p S.1 S.2 S.2) : mvS p T (mvS p (tbInv T) S) = S := by
  have hi : det (tbInv T) ≠ 0 := by rw [det_invT T hT]; grind
  rw [← mv_mul hp hT hi, mul_invT T hT, mv_one hp h]
theorem mv_far {p : Int} {T : Tb} {S U : Spt} (hp : Pr p) (hT : det T ≠ 0) : farS p (mvS p T S) (mvS p T U) = farS p S U := far_moved hp hT (mv_is hp hT) (mv_is hp hT)
theorem mv_rd {p : Int} {T : Tb} {S : Spt} {D E : Nat} (hp : Pr p) (h : Rd p S D) (t : Tr p T E) : Rd p (mvS p T S) (E + D) := h.moved hp t (mv_is hp t.u)
theorem Tr.inv {p : Int} {T : Tb} {D : Nat} (hp : Pr p) (h : Tr p T D) : Tr p (tbInv T) D := by
  have hi : det (tbInv T) ≠ 0 := by have := h.u; rw [det_invT T h.u]; grind
  obtain ⟨m, ⟨a, b, c, d⟩, hd⟩ := h.d
  have z : ∀ {q : Rat}, Al p m q → Al p (m - vq p (det T)) (q / det T) := fun {q} al => al.dv hp h.u rfl
  have n : ∀ {q : Rat}, Al p m q → Al p m (0 - q) := fun al => (Al.zero p m).sub hp al
  refine ⟨hi, m - vq p (det T), ⟨z d, z (n b), z (n c), z a⟩, ?_⟩
  rw [det_invT T h.u, vq_inv hp h.u]
  omega
theorem Tr.mul {p : Int} {T U : Tb} {D E : Nat} (hp : Pr p) (h : Tr p T D) (g : Tr p U E) : Tr p (tbMul T U) (D + E) := by
  obtain ⟨m, ⟨a, b, c, d⟩, hd⟩ := h.d
  obtain ⟨n, ⟨a', b', c', d'⟩, gd⟩ := g.d
  refine ⟨by rw [det_tbMul]; exact mul_ne h.u g.u, m + n, ⟨?_, ?_, ?_, ?_⟩, ?_⟩
  · exact (a.mul hp a').add hp (b.mul hp c')
  · exact (a.mul hp b').add hp (b.mul hp d')
  · exact (c.mul hp a').add hp (d.mul hp c')
  · exact (c.mul hp b').add hp (d.mul hp d')
  · rw [det_tbMul, vq_mul hp h.u g.u]; omega
theorem Tr.sc {p : Int} {T : Tb} {D : Nat} {l : Rat} (hp : Pr p) (h : Tr p T D) (hl : l ≠ 0) : Tr p (tbSc T l) D := by
  obtain ⟨m, ⟨a, b, c, d⟩, hd⟩ := h.d
  have al : Al p (vq p l) l := .inr (Int.le_refl _)
  refine ⟨by rw [det_tbSc]; exact mul_ne h.u (mul_ne hl hl), m + vq p l, ⟨a.mul hp al, b.mul hp al, c.mul hp al, d.mul hp al⟩, ?_⟩
  rw [det_tbSc, vq_mul hp h.u (mul_ne hl hl), vq_mul hp hl hl]; omega
/-- the program's moved spot -/
theorem ev_mv {p : Int} {T : Tb} {S : Spt} {n D E : Nat} [Td T n] (hp : Pr p) (h : Rd p S D) (t : Tr p T E) (l1 : n + 3 * D + 1 ≤ 1990) (l2 : 2 * n + 3 * D + 2 < 2250) (l3 : E + D ≤ 2000) : f_moved [.int p, tb T, spD S] = okD (spD (mvS p T S)) := by
  have q := h.qd hp
  have hk := (h.sm hp).k
  have hk' := ((mv_rd hp h t).sm hp).k
  exact ev_moved (n := n) (m := 3 * D + 1) hp (by omega) (by omega) (by omega) (mv_is hp t.u)
end PT
/-! PM: fractions whose bottom is a power of the prime; the rest by a floor. -/
namespace PT
open PySem (Str)
def Pw (p : Int) (q : Rat) : Prop := ∃ (j : Nat) (c : Int), q * pz p j = (c : Rat)
theorem Pw.of {p : Int} {q : Rat} {j : Nat} (h : (q.den : Int) = p ^ j) : Pw p q := by
  refine ⟨j, q.num, ?_⟩
  have nd := num_den q
  have d0 := cast_ne (den_ne q)
  rw [pz_nat, ← h]
  generalize ((q.den : Int) : Rat) = M at *
  generalize (q.num : Rat) = N at *
  grind
theorem Pw.den {p : Int} {q : Rat} (hp : Pr p) (h : Pw p q) : ∃ i : Nat, (q.den : Int) = p ^ i := by
  obtain ⟨j, c, h⟩ := h
  have nd := num_den q
  have d0 := cast_ne (den_ne q)
  have e2 : q.num * p ^ j = c * q.den := by
    have : ((q.num * p ^ j : Int) : Rat) = ((c * q.den : Int) : Rat) := by
      rw [Rat.intCast_mul, Rat.intCast_mul, ← pz_nat]
      generalize pz p j = u at *
      generalize (q.num : Rat) = N at *
      generalize ((q.den : Int) : Rat) = M at *
      generalize (c : Rat) = c' at *
      subst nd
      grind
    exact_mod_cast this
  have cop : Int.gcd q.den q.num = 1 := by
    have := q.reduced
    rw [Int.gcd_comm]
    exact this
  have d2 : (q.den : Int) ∣ p ^ j := dvd_cop (n := q.num) ⟨c, by rw [e2, Int.mul_comm]⟩ cop
  obtain ⟨w, hw, hz⟩ := vp_spec hp.two (den_ne q)
  have w0 : 0 < w := by
    have := hp.pow_pos (vp p (q.den : Int))
    have := den_pos q
    rcases (by omega : w ≤ 0 ∨ 0 < w) with y | y
    · have := Int.mul_nonpos_of_nonneg_of_nonpos (Int.le_of_lt (hp.pow_pos (vp p (q.den : Int)))) y; omega
    · exact y
  have w1 : w = 1 := den_one hp hz w0 j (Int.dvd_trans ⟨p ^ vp p (q.den : Int), by rw [Int.mul_comm]; exact hw⟩ d2)
  exact ⟨vp p (q.den : Int), by rw [w1, Int.mul_one] at hw; exact hw⟩
theorem Pw.add {p : Int} {q r : Rat} (hp : Pr p) (h : Pw p q) (g : Pw p r) : Pw p (q + r) := by
  obtain ⟨i, c, h⟩ := h
  obtain ⟨j, d, g⟩ := g
  refine ⟨i + j, c * p ^ j + d * p ^ i, ?_⟩
  rw [show ((i + j : Nat) : Int) = (i : Int) + j by push_cast; rfl, pz_add hp, Rat.intCast_add, Rat.intCast_mul, Rat.intCast_mul, ← pz_nat, ← pz_nat, ← h, ← g]
  generalize pz p (i : Int) = u at *
  generalize pz p (j : Int) = v at *
  grind
theorem Pw.smul {p : Int} {q : Rat} (n : Int) (h : Pw p q) : Pw p ((n : Rat) * q) := by
  obtain ⟨i, c, h⟩ := h
  exact ⟨i, n * c, by rw [Rat.intCast_mul, ← h, Rat.mul_assoc]⟩
theorem Pw.neg {p : Int} {q : Rat} (h : Pw p q) : Pw p (-q) := by
  obtain ⟨i, c, h⟩ := h
  exact ⟨i, -c, by rw [Rat.intCast_neg, ← h, Rat.neg_mul]⟩
theorem Pw.pz {p : Int} (hp : Pr p) (k : Int) : Pw p (pz p k) := by
  obtain ⟨n, hn⟩ : ∃ n : Nat, k + k.natAbs = (n : Int) := ⟨(k + k.natAbs).toNat, by omega⟩
  exact ⟨k.natAbs, p ^ n, by rw [← pz_add hp, hn, pz_nat]⟩
theorem near_rest {p k w : Int} {f : Rat} (hp : Pr p) (hf : Pw p f) (hw : w = (f.num * ((PT.pz p k).den : Int)) / ((f.den : Int) * (PT.pz p k).num)) : IsRest p k (f + -((w : Rat) * PT.pz p k)) (f + -((w : Rat) * PT.pz p k)) := by
  have pk := pz_pos hp k
  have nf := num_den f
  have nk := num_den (PT.pz p k)
  have f0 := den_pos f
  have k0 := den_pos (PT.pz p k)
  have kn : 0 < (PT.pz p k).num := by
    have a := Rat.num_nonneg.mpr (Rat.le_of_lt pk)
    have b : (PT.pz p k).num ≠ 0 := fun z => pz_ne hp k (fr_num.mp z)
    omega
  have hB : 0 < (f.den : Int) * (PT.pz p k).num := Int.mul_pos f0 kn
  have h1 := Int.emod_add_mul_ediv (f.num * ((PT.pz p k).den : Int)) ((f.den : Int) * (PT.pz p k).num)
  have h2 := Int.emod_nonneg (f.num * ((PT.pz p k).den : Int)) (show (f.den : Int) * (PT.pz p k).num ≠ 0 by omega)
  have h3 := Int.emod_lt_of_pos (f.num * ((PT.pz p k).den : Int)) hB
  rw [← hw] at h1
  generalize (f.num * ((PT.pz p k).den : Int)) % ((f.den : Int) * (PT.pz p k).num) = r at *
  have hD : (0 : Rat) < ((f.den : Int) : Rat) * (((PT.pz p k).den : Int) : Rat) := Rat.mul_pos (by exact_mod_cast f0) (by exact_mod_cast k0)
  -- the rest times both bottoms is r
  have e : f + -((w : Rat) * PT.pz p k) = (r : Rat) / (((f.den : Int) : Rat) * (((PT.pz p k).den : Int) : Rat)) := by
    have h4 : (r : Rat) + (((f.den : Int) : Rat) * ((PT.pz p k).num : Rat)) * (w : Rat) = (f.num : Rat) * (((PT.pz p k).den : Int) : Rat) := by
      rw [← Rat.intCast_mul, ← Rat.intCast_mul, ← Rat.intCast_add, h1, Rat.intCast_mul]
    have d1 := cast_ne (den_ne f)
    have d2 := cast_ne (den_ne (PT.pz p k))
    generalize (f.num : Rat) = a at *
    generalize ((f.den : Int) : Rat) = b at *
    generalize ((PT.pz p k).num : Rat) = c at *
    generalize (((PT.pz p k).den : Int) : Rat) = d at *
    generalize (w : Rat) = w' at *
    generalize (r : Rat) = r' at *
    rw [← nf, ← nk]
    clear nf nk hw h1 hB hD
    grind
  have e3 : PT.pz p k = (((f.den : Int) * (PT.pz p k).num : Int) : Rat) / (((f.den : Int) : Rat) * (((PT.pz p k).den : Int) : Rat)) := by
    have d1 := cast_ne (den_ne f)
    have d2 := cast_ne (den_ne (PT.pz p k))
    rw [Rat.intCast_mul]
    conv => lhs; rw [← nk]
    generalize ((f.den : Int) : Rat) = b at *
    generalize ((PT.pz p k).num : Rat) = c at *
    generalize (((PT.pz p k).den : Int) : Rat) = d at *
    clear nf nk hw h1 hB hD e
    grind
  refine ⟨?_, ?_, ?_, by rw [Rat.sub_self]; exact Al.zero p k⟩
  · rw [e, Rat.div_def]
    exact Rat.mul_nonneg (by exact_mod_cast h2) (Rat.le_of_lt (Rat.inv_pos.mpr hD))
  · rw [e, Rat.div_lt_iff hD]
    have h5 : (r : Rat) < (((f.den : Int) * (PT.pz p k).num : Int) : Rat) := by exact_mod_cast h3
    have h6 : PT.pz p k * (((f.den : Int) : Rat) * (((PT.pz p k).den : Int) : Rat)) = (((f.den : Int) * (PT.pz p k).num : Int) : Rat) := by
      have hD0 : ((f.den : Int) : Rat) * (((PT.pz p k).den : Int) : Rat) ≠ 0 := fun z => by rw [z] at hD; exact absurd hD (by decide)
      generalize (((f.den : Int) * (PT.pz p k).num : Int) : Rat) = X at *
      generalize ((f.den : Int) : Rat) * (((PT.pz p k).den : Int) : Rat) = Y at *
      generalize PT.pz p k = Z at *
      grind
    rw [h6]
    exact h5
  · exact (hf.add hp (((Pw.pz hp k).smul w).neg)).den hp
end PT
/-! PT: a law's end with the script's sizes. -/
namespace PT
open PySem PySem.Spec PyProof.Rows L2
theorem bits_B {n : Int} (h : Builtin.Int.intBits n ≤ 1048576) : B 1048577 n := by
  unfold B
  unfold Builtin.Int.intBits at h
  by_cases h0 : n.natAbs = 0
  · rw [h0]; exact Nat.two_pow_pos _
  · have hn : (n == 0) = false := by
      rw [beq_eq_false_iff_ne]; intro z; exact h0 (by rw [z]; rfl)
    rw [hn] at h
    have h : n.natAbs.log2 + 1 ≤ 1048576 := h
    exact (Nat.log2_lt h0).mp (by omega)
theorem law_endB {l : PySem.W.OpenLaw} {q : Program} {loose : List Str} {XP : (Str → Option Value) → Heap → Prop} {YP : World → Heap → Prop} {d : DefRec} {x : Str} {k : Nat} (fn : List D → Option R)
    (hm : l.most = some 63) (hdf : d.params.defaults = []) (hr : Room k callerA)
    (F : ∀ (w : World) (mg : Str → Option Value) (fa : Addr) (h : Heap), YP w h → h.Ns mainGlobals mg → mg d.name = some (.ref fa) → ∃ (K : PySem.W.Frag) (fd : FuncData), K.In h ∧ (∀ (s : Shared) (u : Value), BindsTo s fd ⟨[u], []⟩ [(x, u)]) ∧
      ∀ base : Heap, K.In base → base.Ns mainGlobals mg → FnOk l.prog w K mg base (L2.CX l.prog w) k fa fd [x] (spF K mg fn))
    (hfn : ∀ ns : List Int, ns.length ≤ 63 → (∀ n ∈ ns, B 1048577 n) → fn [.scr (ns.map D.int)] = some (.ok (.d (.bl true)))) : PySem.W.WalkO q loose XP YP l.row.toRowW d [] (fun f vs => PySem.call f vs) := by
  refine Att.attach_callB hm hdf ?_
  intro w s₀ s₁ mg mb fa o pm cd doc a vs ns G Y ho hd hcd hmg hobj hints hlen hbits hg
  obtain ⟨K, fd, KX, hb, hF⟩ := F w mg fa _ Y G.T.g hmg
  refine law_call KX G.T.g G.T.b G.T.builtins G.T.nolimit hg hobj hints (Nat.le_trans hlen (by rw [sizeLine_eq]; decide)) hr hF hb ?_ ?_
  · intro H hO hS
    refine ⟨H, [.scr (ns.map D.int)], Same.refl H, .cons (.scr hS (RepL.ofInts ns)) .nil, ?_⟩
    rw [hfn ns hlen fun n hn => bits_B (hbits n hn)]
    intro v F' H' _ _ _ _ r
    cases r
    rfl
  · intro H e s'
    exact CX_not
end PT
/-! PM: helpers of the laws on moved spots (k51-k57, k71-k79). -/
namespace PT
open PySem (Str)
/-- _law_cell(_law_script, _law_k): slots _law_script, _law_k, _law_cell_here -/
def w__law_cell : SF := wSeq (wIf (cT (e2 eqR (eCall lenR (aCons (eVar 0) (aNil))) (eC (.int 0)))) (wRet (e2 addD (e2 mulD (eC (.int 7)) (eVar 1)) (eC (.int 3)))) (wNop)) (wSeq (wSet 2 (e2 ixR (eVar 0) (e2 modD (eVar 1) (eCall lenR (aCons (eVar 0) (aNil)))))) (wSeq (wIf (cT (e2 eqR (e2 modD (e2 ixR (eVar 0) (eC (.int 0))) (eC (.int 2))) (eC (.int 1)))) (wRet (e2 mulD (eCall absR (aCons (eVar 2) (aNil))) (eCall intR (aCons (e2 ltR (eVar 1) (eCall lenR (aCons (eVar 0) (aNil)))) (aNil))))) (wNop)) (wRet (e2 modD (e2 mulD (e2 modD (e2 mulD (e2 addD (e2 addD (e2 addD (eVar 2) (e2 mulD (e2 mulD (eC (.int 7)) (eVar 1)) (eVar 1))) (e2 mulD (eC (.int 13)) (eVar 1))) (eC (.int 5))) (eC (.int 48271))) (eC (.int 2147483647))) (eC (.int 69621))) (eC (.int 1000000007))))))
instance : Det w__law_cell := by unfold w__law_cell; infer_instance
instance : Out w__law_cell := by unfold w__law_cell; infer_instance
noncomputable def f__law_cell : List D → Option R := outF 2 3 w__law_cell
theorem len__law_cell : ∀ ds r, f__law_cell ds = some r → ds.length = 2 := outF_len
theorem does__law_cell : Does 3 w__law_cell f__law_cell := outF_does
/-- _law_whole(_law_found): slots _law_found -/
def w__law_whole : SF := wRet (andV (eCall isiR (aCons (eVar 0) (aCons (eC (.raw (.ty "int"))) (aNil)))) (e1 notD (eCall isiR (aCons (eVar 0) (aCons (eC (.raw (.ty "bool"))) (aNil))))))
instance : Det w__law_whole := by unfold w__law_whole; infer_instance
instance : Out w__law_whole := by unfold w__law_whole; infer_instance
noncomputable def f__law_whole : List D → Option R := outF 1 1 w__law_whole
theorem len__law_whole : ∀ ds r, f__law_whole ds = some r → ds.length = 1 := outF_len
theorem does__law_whole : Does 1 w__law_whole f__law_whole := outF_does
/-- _law_low(_law_top, _law_bottom): slots _law_top, _law_bottom, _law_one, _law_other -/
def w__law_low : SF := wSeq (wPar 2 3 (aCons (eCall absR (aCons (eVar 0) (aNil))) (aCons (eCall absR (aCons (eVar 1) (aNil))) (aNil)))) (wSeq (wWhile (cT (e2 neR (eVar 3) (eC (.int 0)))) (wPar 2 3 (aCons (eVar 3) (aCons (e2 modD (eVar 2) (eVar 3)) (aNil))))) (wSeq (wIf (cT (e2 ltR (eVar 1) (eC (.int 0)))) (wSet 2 (e1 negD (eVar 2))) (wNop)) (wRet (eTup (aCons (e2 fdivD (eVar 0) (eVar 2)) (aCons (e2 fdivD (eVar 1) (eVar 2)) (aNil)))))))
instance : Det w__law_low := by unfold w__law_low; infer_instance
instance : Out w__law_low := by unfold w__law_low; infer_instance
noncomputable def f__law_low : List D → Option R := outF 2 4 w__law_low
theorem len__law_low : ∀ ds r, f__law_low ds = some r → ds.length = 2 := outF_len
theorem does__law_low : Does 4 w__law_low f__law_low := outF_does
/-- _law_power(_law_p, _law_a): slots _law_p, _law_a, _law_n, _law_top, _law_bottom -/
def w__law_power : SF := wSeq (wSet 2 (eC (.int 0))) (wSeq (wAsg (eVar 1) (gTup (gCons (gN 3) (gCons (gN 4) (gNil))))) (wSeq (wWhile (cT (e2 eqR (e2 modD (eVar 3) (eVar 0)) (eC (.int 0)))) (wSeq (wSet 3 (e2 fdivD (eVar 3) (eVar 0))) (wSet 2 (e2 addD (eVar 2) (eC (.int 1)))))) (wSeq (wWhile (cT (e2 eqR (e2 modD (eVar 4) (eVar 0)) (eC (.int 0)))) (wSeq (wSet 4 (e2 fdivD (eVar 4) (eVar 0))) (wSet 2 (e2 subD (eVar 2) (eC (.int 1)))))) (wRet (eVar 2)))))
instance : Det w__law_power := by unfold w__law_power; infer_instance
instance : Out w__law_power := by unfold w__law_power; infer_instance
noncomputable def f__law_power : List D → Option R := outF 2 5 w__law_power
theorem len__law_power : ∀ ds r, f__law_power ds = some r → ds.length = 2 := outF_len
theorem does__law_power : Does 5 w__law_power f__law_power := outF_does
/-- _law_prime_power(_law_p, _law_n): slots _law_p, _law_n, _law_made, _law_left, _law_base -/
def w__law_prime_power : SF := wSeq (wSet 2 (eC (.int 1))) (wSeq (wSet 3 (eCall absR (aCons (eVar 1) (aNil)))) (wSeq (wSet 4 (eVar 0)) (wSeq (wWhile (cT (e2 gtR (eVar 3) (eC (.int 0)))) (wSeq (wIf (cT (e2 eqR (e2 modD (eVar 3) (eC (.int 2))) (eC (.int 1)))) (wSet 2 (e2 mulD (eVar 2) (eVar 4))) (wNop)) (wSeq (wSet 4 (e2 mulD (eVar 4) (eVar 4))) (wSet 3 (e2 fdivD (eVar 3) (eC (.int 2))))))) (wSeq (wIf (cT (e2 ltR (eVar 1) (eC (.int 0)))) (wRet (eTup (aCons (eC (.int 1)) (aCons (eVar 2) (aNil))))) (wNop)) (wRet (eTup (aCons (eVar 2) (aCons (eC (.int 1)) (aNil)))))))))
instance : Det w__law_prime_power := by unfold w__law_prime_power; infer_instance
instance : Out w__law_prime_power := by unfold w__law_prime_power; infer_instance
noncomputable def f__law_prime_power : List D → Option R := outF 2 5 w__law_prime_power
theorem len__law_prime_power : ∀ ds r, f__law_prime_power ds = some r → ds.length = 2 := outF_len
theorem does__law_prime_power : Does 5 w__law_prime_power f__law_prime_power := outF_does
/-- _law_sum(_law_a, _law_b): slots _law_a, _law_b -/
def w__law_sum : SF := wRet (eCall f__law_low (aCons (e2 addD (e2 mulD (e2 ixR (eVar 0) (eC (.int 0))) (e2 ixR (eVar 1) (eC (.int 1)))) (e2 mulD (e2 ixR (eVar 1) (eC (.int 0))) (e2 ixR (eVar 0) (eC (.int 1))))) (aCons (e2 mulD (e2 ixR (eVar 0) (eC (.int 1))) (e2 ixR (eVar 1) (eC (.int 1)))) (aNil))))
instance : Det w__law_sum := by unfold w__law_sum; infer_instance
instance : Out w__law_sum := by unfold w__law_sum; infer_instance
noncomputable def f__law_sum : List D → Option R := outF 2 2 w__law_sum
theorem len__law_sum : ∀ ds r, f__law_sum ds = some r → ds.length = 2 := outF_len
theorem does__law_sum : Does 2 w__law_sum f__law_sum := outF_does
/-- _law_both(_law_a, _law_b): slots _law_a, _law_b -/
def w__law_both : SF := wRet (eCall f__law_low (aCons (e2 mulD (e2 ixR (eVar 0) (eC (.int 0))) (e2 ixR (eVar 1) (eC (.int 0)))) (aCons (e2 mulD (e2 ixR (eVar 0) (eC (.int 1))) (e2 ixR (eVar 1) (eC (.int 1)))) (aNil))))
instance : Det w__law_both := by unfold w__law_both; infer_instance
instance : Out w__law_both := by unfold w__law_both; infer_instance
noncomputable def f__law_both : List D → Option R := outF 2 2 w__law_both
theorem len__law_both : ∀ ds r, f__law_both ds = some r → ds.length = 2 := outF_len
theorem does__law_both : Does 2 w__law_both f__law_both := outF_does
/-- _law_by(_law_a, _law_b): slots _law_a, _law_b -/
def w__law_by : SF := wRet (eCall f__law_low (aCons (e2 mulD (e2 ixR (eVar 0) (eC (.int 0))) (e2 ixR (eVar 1) (eC (.int 1)))) (aCons (e2 mulD (e2 ixR (eVar 0) (eC (.int 1))) (e2 ixR (eVar 1) (eC (.int 0)))) (aNil))))
instance : Det w__law_by := by unfold w__law_by; infer_instance
instance : Out w__law_by := by unfold w__law_by; infer_instance
noncomputable def f__law_by : List D → Option R := outF 2 2 w__law_by
theorem len__law_by : ∀ ds r, f__law_by ds = some r → ds.length = 2 := outF_len
theorem does__law_by : Does 2 w__law_by f__law_by := outF_does
/-- _law_rest(_law_p, _law_k, _law_a): slots _law_p, _law_k, _law_a, _law_deep, _law_bottom, _law_full, _law_one, _law_other, _law_first, _law_second, _law_often -/
def w__law_rest : SF := wSeq (wSet 3 (eC (.int 0))) (wSeq (wSet 4 (e2 ixR (eVar 2) (eC (.int 1)))) (wSeq (wWhile (cT (e2 eqR (e2 modD (eVar 4) (eVar 0)) (eC (.int 0)))) (wSeq (wSet 4 (e2 fdivD (eVar 4) (eVar 0))) (wSet 3 (e2 addD (eVar 3) (eC (.int 1)))))) (wSeq (wIf (cT (e2 leR (e2 addD (eVar 1) (eVar 3)) (eC (.int 0)))) (wRet (eTup (aCons (eC (.int 0)) (aCons (eC (.int 1)) (aNil))))) (wNop)) (wSeq (wSet 5 (e2 ixR (eCall f__law_prime_power (aCons (eVar 0) (aCons (e2 addD (eVar 1) (eVar 3)) (aNil)))) (eC (.int 0)))) (wSeq (wAsg (eTup (aCons (e2 modD (eVar 4) (eVar 5)) (aCons (eVar 5) (aCons (eC (.int 1)) (aCons (eC (.int 0)) (aNil)))))) (gTup (gCons (gN 6) (gCons (gN 7) (gCons (gN 8) (gCons (gN 9) (gNil))))))) (wSeq (wWhile (cT (e2 neR (eVar 7) (eC (.int 0)))) (wSeq (wSet 10 (e2 fdivD (eVar 6) (eVar 7))) (wAsg (eTup (aCons (eVar 7) (aCons (e2 subD (eVar 6) (e2 mulD (eVar 10) (eVar 7))) (aCons (eVar 9) (aCons (e2 subD (eVar 8) (e2 mulD (eVar 10) (eVar 9))) (aNil)))))) (gTup (gCons (gN 6) (gCons (gN 7) (gCons (gN 8) (gCons (gN 9) (gNil))))))))) (wRet (eCall f__law_low (aCons (e2 modD (e2 mulD (e2 ixR (eVar 2) (eC (.int 0))) (eVar 8)) (eVar 5)) (aCons (e2 ixR (eCall f__law_prime_power (aCons (eVar 0) (aCons (eVar 3) (aNil)))) (eC (.int 0))) (aNil)))))))))))
instance : Det w__law_rest := by unfold w__law_rest; infer_instance
instance : Out w__law_rest := by unfold w__law_rest; infer_instance
noncomputable def f__law_rest : List D → Option R := outF 3 11 w__law_rest
theorem len__law_rest : ∀ ds r, f__law_rest ds = some r → ds.length = 3 := outF_len
theorem does__law_rest : Does 11 w__law_rest f__law_rest := outF_does
/-- _law_prime(_law_script): slots _law_script -/
def w__law_prime : SF := wRet (e2 ixR (eTup (aCons (eC (.int 2)) (aCons (eC (.int 3)) (aCons (eC (.int 5)) (aCons (eC (.int 7)) (aNil)))))) (e2 modD (e2 fdivD (eCall f__law_cell (aCons (eVar 0) (aCons (eC (.int 0)) (aNil)))) (eC (.int 2))) (eC (.int 4))))
instance : Det w__law_prime := by unfold w__law_prime; infer_instance
instance : Out w__law_prime := by unfold w__law_prime; infer_instance
noncomputable def f__law_prime : List D → Option R := outF 1 1 w__law_prime
theorem len__law_prime : ∀ ds r, f__law_prime ds = some r → ds.length = 1 := outF_len
theorem does__law_prime : Does 1 w__law_prime f__law_prime := outF_does
/-- _law_number(_law_p, _law_cell_here, _law_great): slots _law_p, _law_cell_here, _law_great, _law_top, _law_n, _law_most -/
def w__law_number : SF := wSeq (wSet 3 (e2 subD (e2 modD (eVar 1) (eC (.int 23))) (eC (.int 11)))) (wSeq (wIf (cT (eVar 2)) (wSet 3 (e2 subD (e2 modD (e2 mulD (eVar 1) (e2 powD (eC (.int 48271)) (eC (.int 5)))) (e2 addD (e2 mulD (eC (.int 2)) (e2 powD (eC (.int 10)) (eC (.int 20)))) (eC (.int 1)))) (e2 powD (eC (.int 10)) (eC (.int 20))))) (wNop)) (wSeq (wSet 4 (e2 subD (e2 modD (e2 fdivD (eVar 1) (eC (.int 23))) (eC (.int 9))) (eC (.int 4)))) (wSeq (wSet 5 (e2 ixR (eCall f__law_prime_power (aCons (eVar 0) (aCons (eCall absR (aCons (eVar 4) (aNil))) (aNil)))) (eC (.int 0)))) (wSeq (wIf (cT (e2 ltR (eVar 4) (eC (.int 0)))) (wRet (eCall f__law_low (aCons (eVar 3) (aCons (e2 mulD (e2 addD (eC (.int 1)) (e2 modD (e2 fdivD (eVar 1) (eC (.int 207))) (eC (.int 12)))) (eVar 5)) (aNil))))) (wNop)) (wRet (eCall f__law_low (aCons (e2 mulD (eVar 3) (eVar 5)) (aCons (e2 addD (eC (.int 1)) (e2 modD (e2 fdivD (eVar 1) (eC (.int 207))) (eC (.int 12)))) (aNil)))))))))
instance : Det w__law_number := by unfold w__law_number; infer_instance
instance : Out w__law_number := by unfold w__law_number; infer_instance
noncomputable def f__law_number : List D → Option R := outF 3 6 w__law_number
theorem len__law_number : ∀ ds r, f__law_number ds = some r → ds.length = 3 := outF_len
theorem does__law_number : Does 6 w__law_number f__law_number := outF_does
/-- _law_spot(_law_script, _law_p, _law_at): slots _law_script, _law_p, _law_at, _law_cell_here, _law_other, _law_k, _law_deep, _law_full -/
def w__law_spot : SF := wSeq (wSet 3 (eCall f__law_cell (aCons (eVar 0) (aCons (eVar 2) (aNil))))) (wSeq (wSet 4 (eCall f__law_cell (aCons (eVar 0) (aCons (e2 addD (eVar 2) (eC (.int 1))) (aNil))))) (wSeq (wSet 5 (e2 subD (e2 modD (eVar 3) (eC (.int 25))) (eC (.int 12)))) (wSeq (wIf (cT (e2 eqR (e2 modD (e2 fdivD (eVar 3) (eC (.int 25))) (eC (.int 8))) (eC (.int 3)))) (wSet 5 (e2 subD (e2 modD (e2 fdivD (eVar 3) (eC (.int 200))) (eC (.int 401))) (eC (.int 200)))) (wNop)) (wSeq (wSet 6 (e2 addD (eCall max2R (aCons (eC (.int 0)) (aCons (e1 negD (eVar 5)) (aNil)))) (e2 modD (eVar 4) (eC (.int 6))))) (wSeq (wSet 7 (e2 ixR (eCall f__law_prime_power (aCons (eVar 1) (aCons (e2 addD (eVar 5) (eVar 6)) (aNil)))) (eC (.int 0)))) (wRet (eTup (aCons (eVar 5) (aCons (eCall f__law_low (aCons (e2 modD (e2 mulD (e2 fdivD (eVar 4) (eC (.int 6))) (e2 powD (eC (.int 48271)) (eC (.int 50)))) (eVar 7)) (aCons (e2 ixR (eCall f__law_prime_power (aCons (eVar 1) (aCons (eVar 6) (aNil)))) (eC (.int 0))) (aNil)))) (aNil))))))))))
instance : Det w__law_spot := by unfold w__law_spot; infer_instance
instance : Out w__law_spot := by unfold w__law_spot; infer_instance
noncomputable def f__law_spot : List D → Option R := outF 3 8 w__law_spot
theorem len__law_spot : ∀ ds r, f__law_spot ds = some r → ds.length = 3 := outF_len
theorem does__law_spot : Does 8 w__law_spot f__law_spot := outF_does
/-- _law_is_spot(_law_found, _law_due): slots _law_found, _law_due, _law_number_here -/
def w__law_is_spot : SF := wSeq (wIf (cOr (cNot (cT (eCall isiR (aCons (eVar 0) (aCons (eC (.raw (.ty "tuple"))) (aNil)))))) (cOr (cT (e2 neR (eCall lenR (aCons (eVar 0) (aNil))) (eC (.int 2)))) (cOr (cNot (cT (eCall isiR (aCons (e2 ixR (eVar 0) (eC (.int 1))) (aCons (eC (.raw (.ty "tuple"))) (aNil)))))) (cT (e2 neR (eCall lenR (aCons (e2 ixR (eVar 0) (eC (.int 1))) (aNil))) (eC (.int 2))))))) (wRet (eC (.bl false))) (wNop)) (wRet (andV (eCall allR (aCons (eLc (itD (e2 addD (eTup (aCons (e2 ixR (eVar 0) (eC (.int 0))) (aNil))) (e2 ixR (eVar 0) (eC (.int 1))))) (gN 2) (cYes) (eCall f__law_whole (aCons (eVar 2) (aNil))) [2]) (aNil))) (e2 eqR (eVar 0) (eVar 1))))
instance : Det w__law_is_spot := by unfold w__law_is_spot; infer_instance
instance : Out w__law_is_spot := by unfold w__law_is_spot; infer_instance
noncomputable def f__law_is_spot : List D → Option R := outF 2 3 w__law_is_spot
theorem len__law_is_spot : ∀ ds r, f__law_is_spot ds = some r → ds.length = 2 := outF_len
theorem does__law_is_spot : Does 3 w__law_is_spot f__law_is_spot := outF_does
/-- _law_measure(_law_table_here): slots _law_table_here, _law_a, _law_b, _law_c, _law_d, _law_back -/
def w__law_measure : SF := wSeq (wAsg (eVar 0) (gTup (gCons (gN 1) (gCons (gN 2) (gCons (gN 3) (gCons (gN 4) (gNil))))))) (wSeq (wSet 5 (eCall f__law_both (aCons (eVar 2) (aCons (eVar 3) (aNil))))) (wRet (eCall f__law_sum (aCons (eCall f__law_both (aCons (eVar 1) (aCons (eVar 4) (aNil)))) (aCons (eTup (aCons (e1 negD (e2 ixR (eVar 5) (eC (.int 0)))) (aCons (e2 ixR (eVar 5) (eC (.int 1))) (aNil)))) (aNil))))))
instance : Det w__law_measure := by unfold w__law_measure; infer_instance
instance : Out w__law_measure := by unfold w__law_measure; infer_instance
noncomputable def f__law_measure : List D → Option R := outF 1 6 w__law_measure
theorem len__law_measure : ∀ ds r, f__law_measure ds = some r → ds.length = 1 := outF_len
theorem does__law_measure : Does 6 w__law_measure f__law_measure := outF_does
/-- _law_table(_law_script, _law_p, _law_at): slots _law_script, _law_p, _law_at, _law_cells, _law_k, _law_sort, _law_x, _law_y, _law_z, _law_w, _law_upper, _law_lower -/
def w__law_table : SF := wSeq (wSet 3 (eLc (itA range1L (aCons (eC (.int 5)) (aNil))) (gN 4) (cYes) (eCall f__law_cell (aCons (eVar 0) (aCons (e2 addD (eVar 2) (eVar 4)) (aNil)))) [4])) (wSeq (wSet 5 (e2 modD (e2 ixR (eVar 3) (eC (.int 4))) (eC (.int 6)))) (wSeq (wAsg (eLc (itA range1L (aCons (eC (.int 4)) (aNil))) (gN 4) (cYes) (eCall f__law_number (aCons (eVar 1) (aCons (e2 ixR (eVar 3) (eVar 4)) (aCons (andV (e2 eqR (eVar 5) (e2 addD (eVar 4) (eC (.int 2)))) (e2 neR (eVar 4) (eC (.int 1)))) (aNil))))) [4]) (gLs (gCons (gN 6) (gCons (gN 7) (gCons (gN 8) (gCons (gN 9) (gNil))))))) (wSeq (wIf (cT (e2 eqR (e2 ixR (eVar 7) (eC (.int 0))) (eC (.int 0)))) (wSet 7 (eTup (aCons (eC (.int 1)) (aCons (eC (.int 1)) (aNil))))) (wNop)) (wSeq (wIf (cT (e2 eqR (e2 ixR (eVar 8) (eC (.int 0))) (eC (.int 0)))) (wSet 8 (eTup (aCons (e1 negD (eC (.int 1))) (aCons (eC (.int 1)) (aNil))))) (wNop)) (wSeq (wSet 10 (eTup (aCons (eVar 7) (aCons (eCall f__law_both (aCons (eVar 7) (aCons (eVar 9) (aNil)))) (aNil))))) (wSeq (wSet 11 (eTup (aCons (eCall f__law_both (aCons (eVar 6) (aCons (eVar 7) (aNil)))) (aCons (eCall f__law_sum (aCons (eCall f__law_both (aCons (eCall f__law_both (aCons (eVar 6) (aCons (eVar 7) (aNil)))) (aCons (eVar 9) (aNil)))) (aCons (eVar 8) (aNil)))) (aNil))))) (wSeq (wIf (cT (e2 eqR (e2 modD (e2 fdivD (e2 ixR (eVar 3) (eC (.int 4))) (eC (.int 6))) (eC (.int 3))) (eC (.int 1)))) (wRet (e2 addD (eVar 11) (eVar 10))) (wNop)) (wRet (e2 addD (eVar 10) (eVar 11))))))))))
instance : Det w__law_table := by unfold w__law_table; infer_instance
instance : Out w__law_table := by unfold w__law_table; infer_instance
noncomputable def f__law_table : List D → Option R := outF 3 12 w__law_table
theorem len__law_table : ∀ ds r, f__law_table ds = some r → ds.length = 3 := outF_len
theorem does__law_table : Does 12 w__law_table f__law_table := outF_does
/-- _law_moved(_law_p, _law_table_here, _law_spot_here): slots _law_p, _law_table_here, _law_spot_here, _law_a, _law_b, _law_c, _law_d, _law_k, _law_q, _law_unit, _law_columns, _law_least, _law_top, _law_low_here, _law_level, _law_found -/
def w__law_moved : SF := wSeq (wAsg (eVar 1) (gTup (gCons (gN 3) (gCons (gN 4) (gCons (gN 5) (gCons (gN 6) (gNil))))))) (wSeq (wAsg (eVar 2) (gTup (gCons (gN 7) (gCons (gN 8) (gNil))))) (wSeq (wSet 9 (eCall f__law_prime_power (aCons (eVar 0) (aCons (eVar 7) (aNil))))) (wSeq (wOwn 10 (eLst (aCons (eTup (aCons (eCall f__law_both (aCons (eVar 3) (aCons (eVar 9) (aNil)))) (aCons (eCall f__law_both (aCons (eVar 5) (aCons (eVar 9) (aNil)))) (aNil)))) (aNil)))) (wSeq (wApp 10 (eTup (aCons (eCall f__law_sum (aCons (eCall f__law_both (aCons (eVar 3) (aCons (eVar 8) (aNil)))) (aCons (eVar 4) (aNil)))) (aCons (eCall f__law_sum (aCons (eCall f__law_both (aCons (eVar 5) (aCons (eVar 8) (aNil)))) (aCons (eVar 6) (aNil)))) (aNil))))) (wFrz 10 (wSeq (wSet 11 (eCall minR (aCons (eLc (itD (eVar 10)) (gTup (gCons (gN 12) (gCons (gN 13) (gNil)))) (cT (e2 neR (e2 ixR (eVar 13) (eC (.int 0))) (eC (.int 0)))) (eCall f__law_power (aCons (eVar 0) (aCons (eVar 13) (aNil)))) [12, 13]) (aNil)))) (wSeq (wSet 14 (e2 subD (e2 addD (eCall f__law_power (aCons (eVar 0) (aCons (eCall f__law_measure (aCons (eVar 1) (aNil))) (aNil)))) (eVar 7)) (e2 mulD (eC (.int 2)) (eVar 11)))) (wSeq (wFor (itD (eVar 10)) (gTup (gCons (gN 12) (gCons (gN 13) (gNil)))) (wIf (cAnd (cT (e2 neR (e2 ixR (eVar 13) (eC (.int 0))) (eC (.int 0)))) (cT (e2 eqR (eCall f__law_power (aCons (eVar 0) (aCons (eVar 13) (aNil)))) (eVar 11)))) (wSet 15 (eTup (aCons (eVar 14) (aCons (eCall f__law_rest (aCons (eVar 0) (aCons (eVar 14) (aCons (eCall f__law_by (aCons (eVar 12) (aCons (eVar 13) (aNil)))) (aNil))))) (aNil))))) (wNop))) (wRet (eVar 15))))))))))
instance : Det w__law_moved := by unfold w__law_moved; infer_instance
instance : Out w__law_moved := by unfold w__law_moved; infer_instance
noncomputable def f__law_moved : List D → Option R := outF 3 16 w__law_moved
theorem len__law_moved : ∀ ds r, f__law_moved ds = some r → ds.length = 3 := outF_len
theorem does__law_moved : Does 16 w__law_moved f__law_moved := outF_does

theorem len_map (ns : List Int) : lenR [.scr (ns.map D.int)] = okI ns.length := by rw [len_scr, List.length_map]
theorem mul_flag {x : Int} (b : Bool) : mulD (.int x) (.int (if b = true then 1 else 0)) = okI (if b = true then x else 0) := by
  cases b with
  | true => rw [if_pos rfl, if_pos rfl, mulS (n := 1) (by decide) (by decide), Int.mul_one]
  | false => rw [if_neg (by decide), if_neg (by decide), mulS (n := 1) (by decide) (by decide), Int.mul_zero]
theorem B.nn_lt {x y : Int} {n : Nat} (h0 : 0 ≤ x) (h : x < y) (hy : B n y) : B n x := hy.le (by omega)
/-- a cell, from nought on -/
theorem ev__law_cell (ns : List Int) (hb : ∀ n ∈ ns, B 1048577 n) (k : Nat) (hk : k < 1000) : ∃ n : Int, (0 ≤ n ∧ B 1048577 n) ∧ f__law_cell [.scr (ns.map D.int), .int k] = okI n := by
  refine postI rfl ?_
  have bk : Bd (k : Int) 10 := ⟨B.of (by omega) (by omega)⟩
  simp_arith!
  refine q_ifN (t := decide (ns.length = 0)) ?_ (fun ht => ?_) fun ht => ?_
  · dsimp! [len_map]
    rw [show ((ns.length : Int) == 0) = decide (ns.length = 0) by rw [Bool.eq_iff_iff]; simp]
  · refine z_ret (sv := .d (.int (7 * (k : Int) + 3))) (by simp! []) ⟨_, ⟨by omega, ?_⟩, rfl⟩
    exact B.mono (B.of (n := 20) (by omega) (by omega)) (by decide)
  have hl : ns.length ≠ 0 := of_decide_eq_false ht
  have lp : (0 : Int) < ns.length := by omega
  obtain ⟨j, hj, ej⟩ : ∃ j : Nat, j < ns.length ∧ (k : Int) % (ns.length : Int) = (j : Int) := ⟨k % ns.length, Nat.mod_lt _ (by omega), by omega⟩
  have g := ix_nat (map_get hj)
  have g0 : ixR (.scr (ns.map D.int)) (.int 0) = okD (.int (ns.getD 0 0)) := ix_nat (k := 0) (map_get (show 0 < ns.length by omega))
  have bc : B 1048577 (ns.getD j 0) := by
    rw [show ns.getD j 0 = ns[j] by simp [hj]]
    exact hb _ (List.getElem_mem hj)
  have bc2 : Bd (ns.getD j 0) 1048577 := ⟨bc⟩
  generalize ns.getD j 0 = c at *
  refine q_set (v := .int c) (by simp! [len_map, modR lp, ej, g]) ?_
  simp_arith!
  refine q_ifN (t := (ns.getD 0 0 % 2 == 1)) (by simp! [g0]) (fun _ => ?_) fun _ => ?_
  · have ib : ∀ b : Bool, intR [.bl b] = okI (if b = true then 1 else 0) := fun _ => rfl
    refine z_ret (sv := .d (.int (if decide ((k : Int) < ns.length) = true then (c.natAbs : Int) else 0))) (by simp! [len_map, ib, mul_flag]) ⟨_, ⟨by split <;> omega, ?_⟩, rfl⟩
    split
    · exact bc.le (by omega)
    · exact B.mono (m := 1) (by decide) (by decide)
  · generalize hx : c + 7 * (k : Int) * k + 13 * k + 5 = x
    have bx : Bd x 1048580 := ⟨by rw [← hx]; exact B.mono (Bd.b (x := c + 7 * (k : Int) * k + 13 * k + 5)) (by decide)⟩
    refine z_ret (sv := .d (.int (x * 48271 % 2147483647 * 69621 % 1000000007))) (by simp! [hx, modR (show (0 : Int) < 2147483647 by decide), modR (show (0 : Int) < 1000000007 by decide)]) ⟨_, ⟨by omega, ?_⟩, rfl⟩
    exact B.mono (B.of (n := 30) (by omega) (by omega)) (by decide)
theorem ev__law_whole (i : Int) : f__law_whole [.int i] = okB true := by
  refine outF_ev rfl ?_
  exact z_ret (by simp! []) rfl
theorem loop_low (P : PD) (x y : Option SV) : ∀ (n a b : Nat), b < n → P.nx [x, y, some (.d (.int (Nat.gcd a b : Nat))), some (.d (.int 0))] →
    wWhileN (cT (PT.e2 neR (eVar 3) (eC (.int 0)))) (wPar 2 3 (aCons (eVar 3) (aCons (PT.e2 modD (eVar 2) (eVar 3)) (aNil)))) P n [x, y, some (.d (.int a)), some (.d (.int b))]
  | 0, _, _, h, _ => by omega
  | n + 1, a, b, h, k => by
    by_cases hb : b = 0
    · subst hb
      have e1 : (((0 : Nat) : Int) == 0) = true := rfl
      exact while_end (by simp! [e1]) (by rw [Nat.gcd_zero_right] at k; exact k)
    · have hb1 : (0 : Int) < b := by omega
      have e1 : ((b : Int) == 0) = false := by rw [beq_eq_false_iff_ne]; omega
      have hm : a % b < b := Nat.mod_lt _ (by omega)
      refine while_go (by simp! [e1]) ?_
      refine z_par (x := .int b) (y := .int ((a % b : Nat) : Int)) (by simp! [modR hb1]) ?_
      simp_arith!
      refine loop_low P x y n b (a % b) (by omega) ?_
      rw [gcd_step a b hb]
      exact k
theorem ev__law_low {t b : Int} {n : Nat} (hb : B n b) (h0 : b ≠ 0) (l : n < 9000) : f__law_low [.int t, .int b] = okD (fr (Rat.divInt t b)) := by
  have g1 := gcd_bd (t := t) hb h0
  have g2 := gcd_ne (t := t) h0
  have eg : ((Nat.gcd t.natAbs b.natAbs : Nat) : Int) = (Int.gcd t b : Int) := rfl
  rw [← fr_low h0]
  refine outF_ev rfl ?_
  simp_arith!
  refine q_par (x := .int (t.natAbs : Int)) (y := .int (b.natAbs : Int)) (by simp! []) ?_
  simp_arith!
  refine q_while ⟨_, loop_low _ _ _ (b.natAbs + 1) _ _ (by omega) (by
    dsimp only
    rw [eg]
    refine q_ifJ (fun ρ => ρ = [some (.d (.int t)), some (.d (.int b)), some (.d (.int (if b < 0 then -(Int.gcd t b : Int) else (Int.gcd t b : Int)))), some (.d (.int 0))]) (t := decide (b < 0)) (by simp! []) ?_ (fun K hK ht => ?_) (fun K hK ht => ?_)
    · rintro ρ rfl
      have g3 : (if b < 0 then -(Int.gcd t b : Int) else (Int.gcd t b : Int)) ≠ 0 := by split <;> omega
      have g4 : B n (if b < 0 then -(Int.gcd t b : Int) else (Int.gcd t b : Int)) := by split; exact g1.neg; exact g1
      generalize (if b < 0 then -(Int.gcd t b : Int) else (Int.gcd t b : Int)) = g at *
      exact z_ret (sv := .d (.tup [.int (t.fdiv g), .int (b.fdiv g)])) (by simp! [fdivR g3 g4 l]) rfl
    · have := of_decide_eq_true ht
      refine z_set (v := .int (-(Int.gcd t b : Int))) (by simp! []) (hK _ ?_)
      rw [if_pos this]; rfl
    · have := of_decide_eq_false ht
      refine hK _ ?_
      rw [if_neg this])⟩
theorem ev__law_low' {t b : Int} {n : Nat} [h : Bd b n] (h0 : b ≠ 0) (l : n < 9000) : f__law_low [.int t, .int b] = okD (fr (Rat.divInt t b)) := ev__law_low h.b h0 l
theorem ev__law_sum {q r : Rat} {m n : Nat} [Qd q m] [Qd r n] (l : m + n < 9000) : f__law_sum [fr q, fr r] = okD (fr (q + r)) := by
  have l1 : m + n < 4000000 := by omega
  have l2 : n + m < 4000000 := by omega
  have h0 : (q.den : Int) * r.den ≠ 0 := Int.mul_ne_zero (den_ne q) (den_ne r)
  refine outF_ev rfl ?_
  exact z_ret (sv := .d (fr (q + r))) (by simp! [ev__law_low' h0 l, add_low]) rfl
theorem ev__law_both {q r : Rat} {m n : Nat} [Qd q m] [Qd r n] (l : m + n < 9000) : f__law_both [fr q, fr r] = okD (fr (q * r)) := by
  have l1 : m + n < 4000000 := by omega
  have h0 : (q.den : Int) * r.den ≠ 0 := Int.mul_ne_zero (den_ne q) (den_ne r)
  refine outF_ev rfl ?_
  exact z_ret (sv := .d (fr (q * r))) (by simp! [ev__law_low' h0 l, mul_low]) rfl
theorem ev__law_by {q r : Rat} {m n : Nat} [Qd q m] [Qd r n] (hr : r ≠ 0) (l : m + n < 9000) : f__law_by [fr q, fr r] = okD (fr (q / r)) := by
  have l1 : m + n < 4000000 := by omega
  have h0 : (q.den : Int) * r.num ≠ 0 := Int.mul_ne_zero (den_ne q) (fun z => hr (fr_num.mp z))
  refine outF_ev rfl ?_
  exact z_ret (sv := .d (fr (q / r))) (by simp! [ev__law_low' h0 l, div_low]) rfl
theorem loop_top (P : PD) {p : Int} (hp : Pr p) (x1 x4 : Option SV) : ∀ (k n : Nat) (x c : Int), k < n → Vk p x k → (∀ y, P.nx [some (.d (.int p)), x1, some (.d (.int (c + k))), some (.d (.int y)), x4]) →
    wWhileN (cT (PT.e2 eqR (PT.e2 modD (eVar 3) (eVar 0)) (eC (.int 0)))) (wSeq (wSet 3 (PT.e2 fdivD (eVar 3) (eVar 0))) (wSet 2 (PT.e2 addD (eVar 2) (eC (.int 1))))) P n [some (.d (.int p)), x1, some (.d (.int c)), some (.d (.int x)), x4] := by
  intro k
  have pp := hp.pos
  have bp : Bd p 3 := ⟨hp.bd⟩
  induction k with
  | zero =>
    rintro (_ | n) x c h ⟨m, e, z⟩ hP
    · omega
    rw [Int.pow_zero, Int.one_mul] at e
    subst e
    have e0 : decide (p ∣ x) = false := decide_eq_false z
    exact while_end (by simp! [mod_zero, e0]) (by have := hP x; simpa using this)
  | succ k ih =>
    rintro (_ | n) x c h ⟨m, e, z⟩ hP
    · omega
    have e0 : decide (p ∣ x) = true := decide_eq_true ⟨p ^ k * m, by rw [e, Int.pow_succ, Int.mul_comm (p ^ k), Int.mul_assoc]⟩
    have e3 : x / p = p ^ k * m := by
      rw [e, Int.pow_succ, Int.mul_comm (p ^ k), Int.mul_assoc, Int.mul_ediv_cancel_left _ hp.ne]
    refine while_go (by simp! [mod_zero, e0]) (q_set (v := .int (x / p)) (by simp! []) ?_)
    simp_arith!
    refine z_set (v := .int (c + 1)) (by simp! []) ?_
    simp_arith!
    rw [e3]
    exact ih n _ _ (by omega) ⟨m, rfl, z⟩ fun y => by
      have := hP y
      rw [show c + ((k + 1 : Nat) : Int) = c + 1 + k by push_cast; omega] at this
      exact this
theorem loop_bottom (P : PD) {p : Int} (hp : Pr p) (x1 x3 : Option SV) : ∀ (k n : Nat) (x c : Int), k < n → Vk p x k → (∀ y, P.nx [some (.d (.int p)), x1, some (.d (.int (c - k))), x3, some (.d (.int y))]) →
    wWhileN (cT (PT.e2 eqR (PT.e2 modD (eVar 4) (eVar 0)) (eC (.int 0)))) (wSeq (wSet 4 (PT.e2 fdivD (eVar 4) (eVar 0))) (wSet 2 (PT.e2 subD (eVar 2) (eC (.int 1))))) P n [some (.d (.int p)), x1, some (.d (.int c)), x3, some (.d (.int x))] := by
  intro k
  have pp := hp.pos
  have bp : Bd p 3 := ⟨hp.bd⟩
  induction k with
  | zero =>
    rintro (_ | n) x c h ⟨m, e, z⟩ hP
    · omega
    rw [Int.pow_zero, Int.one_mul] at e
    subst e
    have e0 : decide (p ∣ x) = false := decide_eq_false z
    exact while_end (by simp! [mod_zero, e0]) (by have := hP x; simpa using this)
  | succ k ih =>
    rintro (_ | n) x c h ⟨m, e, z⟩ hP
    · omega
    have e0 : decide (p ∣ x) = true := decide_eq_true ⟨p ^ k * m, by rw [e, Int.pow_succ, Int.mul_comm (p ^ k), Int.mul_assoc]⟩
    have e3 : x / p = p ^ k * m := by
      rw [e, Int.pow_succ, Int.mul_comm (p ^ k), Int.mul_assoc, Int.mul_ediv_cancel_left _ hp.ne]
    refine while_go (by simp! [mod_zero, e0]) (q_set (v := .int (x / p)) (by simp! []) ?_)
    simp_arith!
    refine z_set (v := .int (c - 1)) (by simp! []) ?_
    simp_arith!
    rw [e3]
    exact ih n _ _ (by omega) ⟨m, rfl, z⟩ fun y => by
      have := hP y
      rw [show c - ((k + 1 : Nat) : Int) = c - 1 - k by push_cast; omega] at this
      exact this
theorem ev__law_power {p : Int} {q : Rat} (hp : Pr p) (h : q ≠ 0) : f__law_power [.int p, fr q] = okI (vq p q) := by
  have hn : q.num ≠ 0 := fun z => h (fr_num.mp z)
  refine outF_ev rfl ?_
  simp_arith!
  refine q_set (v := .int 0) (by simp! []) ?_
  simp_arith!
  refine q_asg (sv := .d (fr q)) (by simp! []) rfl ?_
  simp_arith!
  refine q_while ⟨vp p q.num + 1, loop_top _ hp _ _ _ _ _ _ (Nat.lt_succ_self _) (vp_spec hp.two hn) fun y => ?_⟩
  simp_arith!
  refine q_while ⟨vp p (q.den : Int) + 1, loop_bottom _ hp _ _ _ _ _ _ (Nat.lt_succ_self _) (vp_spec hp.two (den_ne q)) fun y => ?_⟩
  simp_arith!
  exact z_ret (by simp! []) (by unfold vq; rw [Int.zero_add]; rfl)

theorem loop_pp (P : PD) (x0 x1 : Option SV) : ∀ (n k b c : Nat) (x f : Int), k < n → B b x → B c f → c + b * k ≤ 400000 → (∀ y, P.nx [x0, x1, some (.d (.int (f * x ^ k))), some (.d (.int 0)), some (.d (.int y))]) →
    wWhileN (cT (PT.e2 gtR (eVar 3) (eC (.int 0)))) (wSeq (wIf (cT (PT.e2 eqR (PT.e2 modD (eVar 3) (eC (.int 2))) (eC (.int 1)))) (wSet 2 (PT.e2 mulD (eVar 2) (eVar 4))) (wNop)) (wSeq (wSet 4 (PT.e2 mulD (eVar 4) (eVar 4))) (wSet 3 (PT.e2 fdivD (eVar 3) (eC (.int 2)))))) P n [x0, x1, some (.d (.int f)), some (.d (.int k)), some (.d (.int x))] := by
  intro n
  induction n with
  | zero => intro k b c x f h; omega
  | succ n ih =>
    intro k b c x f h hx hf hs hP
    by_cases hk : k = 0
    · subst hk
      have e0 : decide ((0 : Int) < ((0 : Nat) : Int)) = false := by decide
      exact while_end (by simp! [e0]) (by have := hP x; simpa using this)
    · have e0 : decide ((0 : Int) < (k : Int)) = true := decide_eq_true (by omega)
      have hbk : b * 1 ≤ b * k := Nat.mul_le_mul_left b (by omega)
      have bx : Bd x b := ⟨hx⟩
      have bf : Bd f c := ⟨hf⟩
      have l1 : c + b < 4000000 := by omega
      have l2 : b + b < 4000000 := by omega
      have hd : ((k : Int) / 2) = ((k / 2 : Nat) : Int) := by omega
      have eo : ((k : Int) % 2 == 1) = decide (k % 2 = 1) := by
        rw [Bool.eq_iff_iff, beq_iff_eq, decide_eq_true_iff]; omega
      have hbk2 : b * (k / 2) * 2 ≤ b * k := by rw [Nat.mul_assoc]; exact Nat.mul_le_mul_left b (by omega)
      refine while_go (by simp! [e0]) ?_
      refine q_ifJ (fun ρ => ρ = [x0, x1, some (.d (.int (if k % 2 = 1 then f * x else f))), some (.d (.int k)), some (.d (.int x))]) (t := decide (k % 2 = 1)) (by simp! [eo]) ?_ ?_ ?_
      · rintro ρ rfl
        refine q_set (v := .int (x * x)) (by simp! []) ?_
        simp_arith!
        refine z_set (v := .int ((k / 2 : Nat) : Int)) (by simp! [hd]) ?_
        simp_arith!
        refine ih (k / 2) (b + b) (if k % 2 = 1 then c + b else c) _ _ (by omega) (hx.mul hx (Nat.le_refl _)) ?_ ?_ fun y => ?_
        · split
          · exact hf.mul hx (Nat.le_refl _)
          · exact hf
        · have h1 : (b + b) * (k / 2) = b * (k / 2) * 2 := by rw [Nat.add_mul]; omega
          rw [h1]
          split
          · rename_i ho
            have h2 : b * (k / 2) * 2 + b = b * k := by
              rw [Nat.mul_assoc]
              have : b * (k / 2 * 2) + b * 1 = b * (k / 2 * 2 + 1) := (Nat.mul_add _ _ _).symm
              rw [Nat.mul_one] at this
              rw [this, show k / 2 * 2 + 1 = k by omega]
            omega
          · omega
        · have h3 : (if k % 2 = 1 then f * x else f) * (x * x) ^ (k / 2) = f * x ^ k := by
            rw [show x * x = x ^ 2 by rw [Int.pow_succ, Int.pow_succ, Int.pow_zero, Int.one_mul], ← Int.pow_mul]
            split
            · rename_i ho
              rw [Int.mul_assoc, Int.mul_comm x, ← Int.pow_succ, show (2 * (k / 2)).succ = k by omega]
            · rw [show 2 * (k / 2) = k by omega]
          rw [h3]
          exact hP y
      · intro K hK ht
        have ho := of_decide_eq_true ht
        exact z_set (v := .int (f * x)) (by simp! []) (hK _ (by rw [if_pos ho]; rfl))
      · intro K hK ht
        have ho := of_decide_eq_false ht
        exact hK _ (by rw [if_neg ho])
theorem ev__law_prime_power {p k : Int} (hp : Pr p) (l : k.natAbs ≤ 100000) : f__law_prime_power [.int p, .int k] = okD (fr (pz p k)) := by
  refine outF_ev rfl ?_
  simp_arith!
  refine q_set (v := .int 1) (by simp! []) ?_
  simp_arith!
  refine q_set (v := .int (k.natAbs : Int)) (by simp! []) ?_
  simp_arith!
  refine q_set (v := .int p) (by simp! []) ?_
  simp_arith!
  refine q_while ⟨_, loop_pp _ _ _ (k.natAbs + 1) k.natAbs 3 1 p 1 (by omega) hp.bd (by decide) (by omega) fun y => (by
    dsimp only
    rw [Int.one_mul]
    refine q_ifN (t := decide (k < 0)) (by simp! []) (fun ht => ?_) fun ht => ?_
    · have h := of_decide_eq_true ht
      have e := fr_pz_neg hp k.natAbs
      rw [show -(k.natAbs : Int) = k by omega] at e
      exact z_ret (sv := .d (fr (pz p k))) (by simp! [e]) rfl
    · have h := of_decide_eq_false ht
      have e := fr_pz hp k.natAbs
      rw [show (k.natAbs : Int) = k by omega] at e
      exact z_ret (sv := .d (fr (pz p k))) (by simp! [e]) rfl)⟩
end PT
/-! PM: helpers of the laws on moved spots, continued: rests by Euclid's way, moved spots, what is drawn. -/
namespace PT
open PySem (Str)
theorem al_of {p k : Int} {q x : Rat} (h : IsRest p k q x) : Al p k (q - x) := h.al
theorem z_asg {P : PD} {ρ ρ' : En} {f : EF} {g : GF} {sv : SV} (h : f ρ = some (.ok sv)) (h2 : g (toD sv) ρ = some ρ') (k : P.nx ρ') : wAsg f g P ρ := by
  show wR (f ρ) _ _
  rw [h]
  show (match g (toD sv) ρ with
    | some ρ' => P.nx ρ'
    | none => False)
  rw [h2]
  exact k
/-! ### Euclid's way -/
/-- what the loop keeps: m is turned over by M -/
structure Eu (m M u v f s : Int) : Prop where
  u0 : 0 < u
  v0 : 0 ≤ v
  uM : u ≤ M
  vM : v ≤ M
  hf : M ∣ m * f - u
  hs : M ∣ m * s - v
  co : ∀ d : Int, d ∣ u → d ∣ v → d ∣ 1
  sg : (0 ≤ f ∧ s ≤ 0) ∨ (f ≤ 0 ∧ 0 ≤ s)
  sz : u * s.natAbs + v * f.natAbs = M
  fM : f.natAbs ≤ M
theorem Eu.step {m M u v f s : Int} (h : Eu m M u v f s) (hv : v ≠ 0) : Eu m M v (u - u / v * v) s (f - u / v * s) := by
  have v0 : 0 < v := by have := h.v0; omega
  have u0 := h.u0
  have e : u - u / v * v = u % v := by have := Int.emod_add_mul_ediv u v; rw [Int.mul_comm]; omega
  have r0 := Int.emod_nonneg u hv
  have r1 := Int.emod_lt_of_pos u v0
  have q0 : 0 ≤ u / v := Int.ediv_nonneg (by omega) (by omega)
  have hs1 : (s.natAbs : Int) ≤ M := by
    have h1 := h.sz
    have h2 : (1 : Int) * s.natAbs ≤ u * s.natAbs := Int.mul_le_mul_of_nonneg_right (by omega) (by omega)
    have h3 : 0 ≤ v * (f.natAbs : Int) := Int.mul_nonneg (by omega) (by omega)
    omega
  have qs : (f - u / v * s).natAbs = f.natAbs + (u / v) * s.natAbs ∧ ((0 ≤ s ∧ f - u / v * s ≤ 0) ∨ (s ≤ 0 ∧ 0 ≤ f - u / v * s)) := by
    rcases h.sg with ⟨a, b⟩ | ⟨a, b⟩
    · have c : 0 ≤ u / v * (-s) := Int.mul_nonneg q0 (by omega)
      rw [Int.mul_neg] at c
      have e1 : (s.natAbs : Int) = -s := by omega
      refine ⟨?_, .inr ⟨b, by omega⟩⟩
      rw [e1, Int.mul_neg]; omega
    · have c : 0 ≤ u / v * s := Int.mul_nonneg q0 b
      have e1 : (s.natAbs : Int) = s := by omega
      refine ⟨?_, .inl ⟨b, by omega⟩⟩
      rw [e1]; omega
  refine ⟨v0, by rw [e]; exact r0, h.vM, by rw [e]; have := h.vM; omega, h.hs, ?_, fun d h1 h2 => h.co d ?_ h1, qs.2, ?_, hs1⟩
  · obtain ⟨x, hx⟩ := h.hf
    obtain ⟨y, hy⟩ := h.hs
    refine ⟨x - u / v * y, ?_⟩
    rw [Int.mul_sub, Int.mul_sub, ← hx, show M * (u / v * y) = u / v * (M * y) by grind, ← hy]
    grind
  · have : u = (u - u / v * v) + u / v * v := by omega
    rw [this]
    exact Int.dvd_add h2 ⟨u / v * (v / d), by rw [Int.mul_comm d, Int.mul_assoc, Int.ediv_mul_cancel h1]⟩
  · rw [qs.1, ← h.sz]
    grind
theorem loop_eu (P : PD) (x0 x1 x2 x3 x4 x5 : Option SV) {m M : Int} {b : Nat} (hM : B b M) (lb : b < 9000) :
    ∀ (n : Nat) (u v f s : Int) (z : Option SV), v.natAbs < n → Eu m M u v f s → (∀ (f : Int) (y1 y2 y3 y4 : Option SV), M ∣ m * f - 1 → B b f → P.nx [x0, x1, x2, x3, x4, x5, y1, y2, some (.d (.int f)), y3, y4]) →
    wWhileN (cT (PT.e2 neR (eVar 7) (eC (.int 0)))) (wSeq (wSet 10 (PT.e2 fdivD (eVar 6) (eVar 7))) (wAsg (eTup (aCons (eVar 7) (aCons (PT.e2 subD (eVar 6) (PT.e2 mulD (eVar 10) (eVar 7))) (aCons (eVar 9) (aCons (PT.e2 subD (eVar 8) (PT.e2 mulD (eVar 10) (eVar 9))) (aNil)))))) (gTup (gCons (gN 6) (gCons (gN 7) (gCons (gN 8) (gCons (gN 9) (gNil)))))))) P n [x0, x1, x2, x3, x4, x5, some (.d (.int u)), some (.d (.int v)), some (.d (.int f)), some (.d (.int s)), z]
  | 0, _, _, _, _, _, h, _, _ => by omega
  | n + 1, u, v, f, s, z, h, hE, hQ => by
    have u0 := hE.u0
    have v0 := hE.v0
    by_cases hv : v = 0
    · have e1 : (v == 0) = true := by rw [hv]; rfl
      have hu : u = 1 := by
        have h1 := hE.co u (Int.dvd_refl u) (by rw [hv]; exact Int.dvd_zero u)
        have := Int.le_of_dvd (by decide) h1
        omega
      refine while_end (by simp! [e1]) (hQ f _ _ _ _ (by have := hE.hf; rw [hu] at this; exact this) (hM.le (by have := hE.fM; omega)))
    · have e1 : (v == 0) = false := by rw [beq_eq_false_iff_ne]; exact hv
      have vp : 0 < v := by omega
      have bv : B b v := hM.le (by have := hE.vM; omega)
      have bu : B b u := hM.le (by have := hE.uM; omega)
      have hs1 : (s.natAbs : Int) ≤ M := by
        have h1 := hE.sz
        have h2 : (1 : Int) * s.natAbs ≤ u * s.natAbs := Int.mul_le_mul_of_nonneg_right (by omega) (by omega)
        have h3 : 0 ≤ v * (f.natAbs : Int) := Int.mul_nonneg (by omega) (by omega)
        omega
      have bs : Bd s b := ⟨hM.le (by omega)⟩
      have bvi : Bd v b := ⟨bv⟩
      have bq : Bd (u / v) b := ⟨bu.div (by omega) vp⟩
      have l2 : b + b < 4000000 := by omega
      have st := hE.step hv
      have r1 := Int.emod_lt_of_pos u vp
      have e2 : u - u / v * v = u % v := by have := Int.emod_add_mul_ediv u v; rw [Int.mul_comm]; omega
      refine while_go (by simp! [e1]) ?_
      refine q_set (v := .int (u / v)) (by simp! [divR vp bv lb]) ?_
      simp_arith!
      generalize u / v = q at *
      refine z_asg (sv := .d (.tup [.int v, .int (u - q * v), .int s, .int (f - q * s)])) (by simp! []) rfl ?_
      simp_arith!
      exact loop_eu P x0 x1 x2 x3 x4 x5 hM lb n v (u - q * v) s (f - q * s) _ (by have := st.v0; omega) st hQ

theorem loop_deep (P : PD) {p : Int} (hp : Pr p) (x1 x2 x5 x6 x7 x8 x9 x10 : Option SV) : ∀ (k n : Nat) (x c : Int), k < n → Vk p x k → (∀ y, x = p ^ k * y → ¬ p ∣ y → P.nx [some (.d (.int p)), x1, x2, some (.d (.int (c + k))), some (.d (.int y)), x5, x6, x7, x8, x9, x10]) →
    wWhileN (cT (PT.e2 eqR (PT.e2 modD (eVar 4) (eVar 0)) (eC (.int 0)))) (wSeq (wSet 4 (PT.e2 fdivD (eVar 4) (eVar 0))) (wSet 3 (PT.e2 addD (eVar 3) (eC (.int 1))))) P n [some (.d (.int p)), x1, x2, some (.d (.int c)), some (.d (.int x)), x5, x6, x7, x8, x9, x10] := by
  intro k
  have pp := hp.pos
  have bp : Bd p 3 := ⟨hp.bd⟩
  induction k with
  | zero =>
    rintro (_ | n) x c h ⟨m, e, z⟩ hP
    · omega
    rw [Int.pow_zero, Int.one_mul] at e
    subst e
    have e0 : decide (p ∣ x) = false := decide_eq_false z
    exact while_end (by simp! [mod_zero, e0]) (by have := hP x (by simp) z; simpa using this)
  | succ k ih =>
    rintro (_ | n) x c h ⟨m, e, z⟩ hP
    · omega
    have e0 : decide (p ∣ x) = true := decide_eq_true ⟨p ^ k * m, by rw [e, Int.pow_succ, Int.mul_comm (p ^ k), Int.mul_assoc]⟩
    have e3 : x / p = p ^ k * m := by
      rw [e, Int.pow_succ, Int.mul_comm (p ^ k), Int.mul_assoc, Int.mul_ediv_cancel_left _ hp.ne]
    refine while_go (by simp! [mod_zero, e0]) (q_set (v := .int (x / p)) (by simp! []) ?_)
    simp_arith!
    refine z_set (v := .int (c + 1)) (by simp! []) ?_
    simp_arith!
    rw [e3]
    exact ih n _ _ (by omega) ⟨m, rfl, z⟩ fun y hy hz => by
      have := hP y (by rw [e, Int.pow_succ, Int.mul_comm (p ^ k) p, Int.mul_assoc, Int.mul_assoc, hy]) hz
      rw [show c + ((k + 1 : Nat) : Int) = c + 1 + k by push_cast; omega] at this
      exact this
theorem nat_dvd {p t : Int} (hp : Pr p) (ht : ¬ p ∣ t) {n : Nat} (h : t ∣ p ^ n) : t ∣ 1 := by
  have t0 : t ≠ 0 := fun z => by
    rw [z] at ht; exact ht (Int.dvd_zero p)
  have h1 := den_one (t := (t.natAbs : Int)) hp (fun z => ht (Int.dvd_natAbs.mp z)) (by omega) n (Int.natAbs_dvd.mpr h)
  exact Int.natAbs_dvd.mp (by rw [h1]; exact Int.dvd_refl 1)
theorem ev__law_rest {p k : Int} {q : Rat} {n : Nat} (hp : Pr p) (hq : Qd q n) (l : n ≤ 6000) (lk : k.natAbs ≤ 900) : f__law_rest [.int p, .int k, fr q] = okD (fr (rst p k q)) := by
  have hvl : vp p (q.den : Int) < n := vp_lt hp.two (den_ne q) hq.den
  obtain ⟨m0, hm0, zm0⟩ := vp_spec hp.two (den_ne q)
  have dpos := den_pos q
  generalize hd : vp p (q.den : Int) = d at *
  have pd := hp.pow_pos d
  refine outF_ev rfl ?_
  simp_arith!
  refine q_set (v := .int 0) (by simp! []) ?_
  simp_arith!
  refine q_set (v := .int (q.den : Int)) (by simp! []) ?_
  simp_arith!
  refine q_while ⟨_, loop_deep _ hp _ _ _ _ _ _ _ _ d (d + 1) (q.den : Int) 0 (by omega) ⟨m0, hm0, zm0⟩ fun m hm zm => ?_⟩
  dsimp only
  rw [Int.zero_add]
  refine q_ifN (t := decide (k + (d : Int) ≤ 0)) (by simp! []) (fun ht => ?_) fun ht => ?_
  · have h := of_decide_eq_true ht
    have e : rst p k q = 0 := rst_of hp (rest_zero hp (by rw [hd]; exact h))
    rw [e]
    exact z_ret (by simp! [fr_0]) rfl
  · have h := of_decide_eq_false ht
    obtain ⟨K, hK⟩ : ∃ K : Nat, (K : Int) = k + d := ⟨(k + d).toNat, by omega⟩
    have pK := hp.pow_pos K
    have e1 : f__law_prime_power [.int p, .int (k + d)] = okD (fr (pz p K)) := by rw [← hK]; exact ev__law_prime_power hp (by omega)
    have e2 : f__law_prime_power [.int p, .int d] = okD (fr (pz p d)) := ev__law_prime_power hp (by omega)
    have n1 : ∀ j : Nat, ixR (fr (pz p j)) (.int 0) = okD (.int (p ^ j)) := fun j => by rw [pz_nat]; rfl
    refine q_set (v := .int (p ^ K)) (by simp! [e1, n1]) ?_
    simp_arith!
    have nz : ¬ p ∣ m := zm
    have r0 := Int.emod_nonneg m (show p ^ K ≠ 0 by omega)
    have r1 := Int.emod_lt_of_pos m pK
    have em : m % p ^ K = m - p ^ K * (m / p ^ K) := by have := Int.emod_add_mul_ediv m (p ^ K); omega
    have K1 : 1 ≤ K := by omega
    have pdK : p ∣ p ^ K := by
      obtain ⟨j, rfl⟩ : ∃ j, K = j + 1 := ⟨K - 1, by omega⟩
      exact ⟨p ^ j, by rw [Int.pow_succ, Int.mul_comm]⟩
    have st : Eu m (p ^ K) (m % p ^ K) (p ^ K) 1 0 := by
      refine ⟨?_, by omega, by omega, Int.le_refl _, ?_, ?_, fun d h1 h2 => ?_, .inl ⟨by decide, Int.le_refl _⟩, by simp, by simp; omega⟩
      · rcases Int.lt_or_eq_of_le r0 with z | z
        · exact z
        · exact (nz (Int.dvd_trans pdK (Int.dvd_of_emod_eq_zero z.symm))).elim
      · rw [em]; exact ⟨m / p ^ K, by omega⟩
      · exact ⟨-1, by omega⟩
      · refine nat_dvd hp (fun z => nz ?_) h2
        have h3 : d ∣ m := by
          have : m = m % p ^ K + p ^ K * (m / p ^ K) := by omega
          rw [this]
          exact Int.dvd_add h1 (Int.dvd_trans h2 (Int.dvd_mul_right _ _))
        exact Int.dvd_trans z h3
    refine q_asg (sv := .d (.tup [.int (m % p ^ K), .int (p ^ K), .int 1, .int 0])) (by simp! [modR pK]) rfl ?_
    simp_arith!
    have b9 : 3 * k.natAbs + 1 + n < 9000 := by omega
    have bdn : B n (p ^ d) := hq.den.le (by
      rw [hm, Int.natAbs_mul]
      have : 1 ≤ m.natAbs := by
        rcases Nat.eq_zero_or_pos m.natAbs with z | z
        · exact (nz (by rw [show m = 0 by omega]; exact Int.dvd_zero p)).elim
        · exact z
      exact Nat.le_mul_of_pos_right _ this)
    have bM : B (3 * k.natAbs + 1 + n) (p ^ K) := by
      have h1 : B (3 * k.natAbs + 1 + n) (p ^ k.natAbs * p ^ d) := (hp.pow_bd k.natAbs).mul bdn (Nat.le_refl _)
      refine h1.le ?_
      rw [← Int.pow_add]
      have pp : (p ^ K).natAbs ≤ (p ^ (k.natAbs + d)).natAbs := by
        have e : p ^ (k.natAbs + d) = p ^ K * p ^ (k.natAbs + d - K) := by rw [← Int.pow_add, show K + (k.natAbs + d - K) = k.natAbs + d by omega]
        rw [e, Int.natAbs_mul]
        have := hp.pow_pos (k.natAbs + d - K)
        exact Nat.le_mul_of_pos_right _ (by omega)
      exact pp
    refine q_while ⟨_, loop_eu _ _ _ _ _ _ _ bM b9 ((p ^ K).natAbs + 1) _ _ _ _ _ (Nat.lt_succ_self _) st (fun f y1 y2 y3 y4 hf bf => ?_)⟩
    dsimp only
    have bfi : Bd f (3 * k.natAbs + 1 + n) := ⟨bf⟩
    have bn : Bd q.num n := ⟨hq.num⟩
    have l2 : n + (3 * k.natAbs + 1 + n) < 4000000 := by omega
    have hr := rest_make hp (K := K) hK hm nz hf
    rw [rst_of hp hr]
    exact z_ret (sv := .d (fr (Rat.divInt (q.num * f % p ^ K) (p ^ d)))) (by simp! [modR pK, e2, n1, ev__law_low bdn (show p ^ d ≠ 0 by omega) (show n < 9000 by omega)]) rfl
/-! ### tables -/
theorem fr_neg (r : Rat) : D.tup [.int (-r.num), .int r.den] = fr (-r) := rfl
theorem ev__law_measure {t : Tb} {n : Nat} [Td t n] (l : n < 2250) : f__law_measure [tb t] = okD (fr (det t)) := by
  have l1 : n + n < 9000 := by omega
  have l2 : n + n + (n + n) < 9000 := by omega
  have e : t.a * t.d + -(t.b * t.c) = det t := by unfold det; grind
  refine outF_ev rfl ?_
  simp_arith!
  refine q_asg (sv := .d (tb t)) (by simp! []) rfl ?_
  simp_arith!
  refine q_set (v := fr (t.b * t.c)) (by simp! [ev__law_both]) ?_
  simp_arith!
  exact z_ret (sv := .d (fr (det t))) (by simp! [ev__law_both, fr_neg, ev__law_sum, e]) rfl
theorem SpotIs.reads_b {p : Int} (hp : Pr p) {T : Tb} {k : Int} {x : Rat} {m : Int} (h : SpotIs p T k x) (low : IsLow p [T.c, T.d] m) (hd : T.d ≠ 0 ∧ vq p T.d = m) : IsRest p k (T.b / T.d) x := by
  have o : Al p 0 (1 : Rat) := .inr (by rw [vq_one hp]; decide)
  have sw : Fm p (⟨0, 1, 1, 0⟩ : Tb) := by
    have d : det (⟨0, 1, 1, 0⟩ : Tb) = -1 := by unfold det; simp only; grind
    exact ⟨Al.zero p 0, o, o, Al.zero p 0, by rw [d]; decide, by rw [d, vq_neg hp, vq_one hp]⟩
  have e : tbMul T ⟨0, 1, 1, 0⟩ = ⟨T.b, T.a, T.d, T.c⟩ := by rw [Tb.eq_iff]; unfold tbMul; simp only; refine ⟨?_, ?_, ?_, ?_⟩ <;> grind
  have h2 := h.right hp sw
  rw [e] at h2
  obtain ⟨m', a1, -, a3, -⟩ := h2.reads hp
  have : m' = m := by
    refine IsLow.one a1 ⟨fun q hq => low.1 q (by simp at hq ⊢; exact hq.symm), ?_⟩
    obtain ⟨q, hq, r⟩ := low.2
    exact ⟨q, by simp at hq ⊢; exact hq.symm, r⟩
  exact a3 (by rw [this]; exact hd)
end PT
/-! PM: how great a fraction is, in powers of the prime. -/
namespace PT
open PySem (Str)
/-- less than p ^ A; whole when multiplied by powers of p and a number to 2 ^ e -/
def Ps (p : Int) (q : Rat) (A e : Nat) : Prop := ∃ (k d : Nat) (m : Int), 0 < d ∧ d ≤ 2 ^ e ∧ q * (pz p k * (d : Rat)) = (m : Rat) ∧ (m.natAbs : Int) < p ^ (A + k) * d
theorem two_pow_le {p : Int} (hp : Pr p) (n : Nat) : (2 : Int) ^ n ≤ p ^ n := by
  induction n with
  | zero => simp
  | succ n ih =>
    rw [Int.pow_succ, Int.pow_succ]
    have h1 := hp.two
    have h2 : (0 : Int) ≤ 2 ^ n := Int.pow_nonneg (by decide)
    exact Int.mul_le_mul ih h1 (by decide) (Int.le_trans h2 ih)
theorem pow_mono {p : Int} (hp : Pr p) {a b : Nat} (h : a ≤ b) : p ^ a ≤ p ^ b := by
  obtain ⟨c, rfl⟩ : ∃ c, b = a + c := ⟨b - a, by omega⟩
  rw [Int.pow_add]
  have h1 := hp.pow_pos a
  have h2 := hp.pow_pos c
  have := Int.mul_le_mul_of_nonneg_left (show (1 : Int) ≤ p ^ c by omega) (Int.le_of_lt h1)
  simpa using this
theorem Ps.mono {p : Int} {q : Rat} {A e A' e' : Nat} (hp : Pr p) (h : Ps p q A e) (l : A ≤ A') (l2 : e ≤ e') : Ps p q A' e' := by
  obtain ⟨k, d, m, d0, d1, e1, e2⟩ := h
  refine ⟨k, d, m, d0, Nat.le_trans d1 (Nat.pow_le_pow_right (by decide) l2), e1, Int.lt_of_lt_of_le e2 ?_⟩
  exact Int.mul_le_mul_of_nonneg_right (pow_mono hp (by omega)) (by omega)
theorem Ps.neg {p : Int} {q : Rat} {A e : Nat} (h : Ps p q A e) : Ps p (-q) A e := by
  obtain ⟨k, d, m, d0, d1, e1, e2⟩ := h
  refine ⟨k, d, -m, d0, d1, ?_, by rw [Int.natAbs_neg]; exact e2⟩
  rw [Rat.neg_mul, e1, Rat.intCast_neg]
theorem Ps.mul {p : Int} {q r : Rat} {A e A' e' : Nat} (hp : Pr p) (h : Ps p q A e) (g : Ps p r A' e') : Ps p (q * r) (A + A') (e + e') := by
  obtain ⟨k, d, m, d0, d1, e1, e2⟩ := h
  obtain ⟨k', d', m', d0', d1', e1', e2'⟩ := g
  refine ⟨k + k', d * d', m * m', Nat.mul_pos d0 d0', by rw [Nat.pow_add]; exact Nat.mul_le_mul d1 d1', ?_, ?_⟩
  · rw [Rat.intCast_mul, ← e1, ← e1']
    have : pz p ((k + k' : Nat) : Int) = pz p k * pz p k' := by rw [← pz_add hp]; congr 1
    rw [this]
    push_cast
    grind
  · rw [Int.natAbs_mul]
    push_cast
    have p1 := hp.pow_pos (A + k)
    have p2 := hp.pow_pos (A' + k')
    have hd : (0 : Int) < d := by omega
    have hd' : (0 : Int) < d' := by omega
    have e3 : p ^ (A + A' + (k + k')) * ((d : Int) * d') = (p ^ (A + k) * d) * (p ^ (A' + k') * d') := by
      rw [show A + A' + (k + k') = (A + k) + (A' + k') by omega, Int.pow_add]; grind
    rw [e3]
    exact Int.mul_lt_mul' (Int.le_of_lt e2) e2' (by omega) (Int.mul_pos p1 hd)
theorem Ps.add {p : Int} {q r : Rat} {A e e' : Nat} (hp : Pr p) (h : Ps p q A e) (g : Ps p r A e') : Ps p (q + r) (A + 1) (e + e') := by
  obtain ⟨k, d, m, d0, d1, e1, e2⟩ := h
  obtain ⟨k', d', m', d0', d1', e1', e2'⟩ := g
  refine ⟨k + k', d * d', m * (p ^ k' * d') + m' * (p ^ k * d), Nat.mul_pos d0 d0', by rw [Nat.pow_add]; exact Nat.mul_le_mul d1 d1', ?_, ?_⟩
  · have : pz p ((k + k' : Nat) : Int) = pz p k * pz p k' := by rw [← pz_add hp]; congr 1
    rw [this]
    simp only [Rat.intCast_add, Rat.intCast_mul]
    rw [← e1, ← e1', ← pz_nat, ← pz_nat]
    push_cast
    grind
  · have p1 := hp.pow_pos (A + k)
    have p3 := hp.pow_pos k
    have p4 := hp.pow_pos k'
    have hd : (0 : Int) < d := by omega
    have hd' : (0 : Int) < d' := by omega
    have n1 : ((p ^ k' * (d' : Int)).natAbs : Int) = p ^ k' * d' := Int.natAbs_of_nonneg (Int.le_of_lt (Int.mul_pos p4 hd'))
    have n2 : ((p ^ k * (d : Int)).natAbs : Int) = p ^ k * d := Int.natAbs_of_nonneg (Int.le_of_lt (Int.mul_pos p3 hd))
    have a1 : ((m * (p ^ k' * d')).natAbs : Int) < p ^ (A + k + k') * (d * d') := by
      rw [Int.natAbs_mul, Int.natCast_mul, n1]
      have := Int.mul_lt_mul_of_pos_right e2 (Int.mul_pos p4 hd')
      rw [Int.pow_add p (A + k) k']
      grind
    have a2 : ((m' * (p ^ k * d)).natAbs : Int) < p ^ (A + k + k') * (d * d') := by
      rw [Int.natAbs_mul, Int.natCast_mul, n2]
      have := Int.mul_lt_mul_of_pos_right e2' (Int.mul_pos p3 hd)
      have e5 : p ^ (A + k + k') = p ^ (A + k') * p ^ k := by rw [← Int.pow_add]; congr 1; omega
      rw [e5]
      grind
    have a3 : p ^ (A + 1 + (k + k')) * ((d : Int) * d') = p * (p ^ (A + k + k') * (d * d')) := by
      rw [show A + 1 + (k + k') = (A + k + k') + 1 by omega, Int.pow_succ]; grind
    have two := hp.two
    have pos : (0 : Int) < p ^ (A + k + k') * (d * d') := Int.mul_pos (hp.pow_pos _) (Int.mul_pos hd hd')
    push_cast
    rw [a3]
    have : 2 * (p ^ (A + k + k') * ((d : Int) * d')) ≤ p * (p ^ (A + k + k') * (d * d')) := Int.mul_le_mul_of_nonneg_right two (Int.le_of_lt pos)
    omega
theorem Ps.val {p : Int} {q : Rat} {A e : Nat} (hp : Pr p) (h : Ps p q A e) (h0 : q ≠ 0) : vq p q < A + e := by
  obtain ⟨k, d, m, d0, d1, e1, e2⟩ := h
  have hd : ((d : Int) : Rat) ≠ 0 := cast_ne (by omega)
  have pk := pz_ne hp (k : Int)
  have e1 : q * (pz p k * ((d : Int) : Rat)) = (m : Rat) := e1
  have m0 : m ≠ 0 := fun z => by
    rw [z] at e1
    exact mul_ne h0 (mul_ne pk hd) e1
  have ev : vq p q + ((k : Int) + vp p (d : Int)) = vp p m := by
    rw [← vq_int hp (a := m), ← e1, vq_mul hp h0 (mul_ne pk hd), vq_mul hp pk hd, vq_pz hp, vq_int hp]
  obtain ⟨u, hu, -⟩ := vp_spec hp.two m0
  have u0 : u ≠ 0 := fun z => m0 (by rw [hu, z, Int.mul_zero])
  have le : p ^ (vp p m) ≤ (m.natAbs : Int) := by
    have pv := hp.pow_pos (vp p m)
    have e3 : (m.natAbs : Int) = p ^ (vp p m) * (u.natAbs : Int) := by
      have h1 : m.natAbs = (p ^ (vp p m)).natAbs * u.natAbs := by rw [← Int.natAbs_mul, ← hu]
      rw [h1, Int.natCast_mul, Int.natAbs_of_nonneg (Int.le_of_lt pv)]
    have := Int.mul_le_mul_of_nonneg_left (show (1 : Int) ≤ (u.natAbs : Int) by omega) (Int.le_of_lt pv)
    rw [e3]
    simpa using this
  have lt : vp p m < A + k + e := by
    refine Classical.byContradiction fun c => ?_
    have h1 := pow_mono hp (show A + k + e ≤ vp p m by omega)
    have h2 : p ^ (A + k) * (d : Int) ≤ p ^ (A + k) * p ^ e := by
      refine Int.mul_le_mul_of_nonneg_left (Int.le_trans ?_ (two_pow_le hp e)) (Int.le_of_lt (hp.pow_pos _))
      exact_mod_cast d1
    rw [← Int.pow_add] at h2
    omega
  omega
theorem Ps.mk4 {p t c j : Int} {a : Nat} (hp : Pr p) (ht : B a t) (c1 : 1 ≤ c) (c2 : c ≤ 12) (hj : j.natAbs ≤ 4) : Ps p ((t : Rat) / (c : Rat) * pz p j) (a + 4) 4 := by
  have cr : (c : Rat) ≠ 0 := cast_ne (by omega)
  have ec : ((c.toNat : Nat) : Rat) = (c : Rat) := by
    show (((c.toNat : Nat) : Int) : Rat) = _
    rw [Int.toNat_of_nonneg (by omega)]
  have ec2 : ((c.toNat : Nat) : Int) = c := by omega
  have b : (t.natAbs : Int) < p ^ a := by
    have h1 : (t.natAbs : Int) < 2 ^ a := by exact_mod_cast (show t.natAbs < 2 ^ a from ht)
    exact Int.lt_of_lt_of_le h1 (two_pow_le hp a)
  by_cases h : 0 ≤ j
  · obtain ⟨i, rfl⟩ : ∃ i : Nat, j = i := ⟨j.toNat, by omega⟩
    refine ⟨0, c.toNat, t * p ^ i, by omega, by omega, ?_, ?_⟩
    · rw [ec, Rat.intCast_mul, ← pz_nat]
      have : pz p ((0 : Nat) : Int) = 1 := pz_zero p
      rw [this]
      grind
    · have pi := hp.pow_pos i
      rw [Int.natAbs_mul, Int.natCast_mul, Int.natAbs_of_nonneg (Int.le_of_lt pi), ec2]
      have h1 := Int.mul_lt_mul_of_pos_right b pi
      rw [← Int.pow_add] at h1
      have h2 := pow_mono hp (show a + i ≤ a + 4 + 0 by omega)
      have h3 := Int.mul_le_mul_of_nonneg_left c1 (Int.le_of_lt (hp.pow_pos (a + 4 + 0)))
      omega
  · obtain ⟨i, hi⟩ : ∃ i : Nat, j = -(i : Int) := ⟨(-j).toNat, by omega⟩
    subst hi
    refine ⟨i, c.toNat, t, by omega, by omega, ?_, ?_⟩
    · rw [ec, pz_neg]
      have pk := pz_ne hp (i : Int)
      grind
    · rw [ec2]
      have h2 := pow_mono hp (show a ≤ a + 4 + i by omega)
      have h3 := Int.mul_le_mul_of_nonneg_left c1 (Int.le_of_lt (hp.pow_pos (a + 4 + i)))
      omega
end PT
/-! PM: helpers of the laws on moved spots: the moved spot reckoned, what is drawn. -/
namespace PT
open PySem (Str)
theorem lst2_least (p : Int) (x1 x2 x3 x4 x5 x6 x7 x8 x9 x11 x14 x15 : Option SV) {a u b v : Rat} {m : Int} (hp : Pr p) (low : IsLow p [u, v] m) :
    eCall minR (aCons (eLc (itD (eVar 10)) (gTup (gCons (gN 12) (gCons (gN 13) (gNil)))) (cT (PT.e2 neR (PT.e2 ixR (eVar 13) (eC (.int 0))) (eC (.int 0)))) (eCall f__law_power (aCons (eVar 0) (aCons (eVar 13) (aNil)))) [12, 13]) (aNil)) [some (.d (.int p)), x1, x2, x3, x4, x5, x6, x7, x8, x9, some (.d (.lst [.tup [fr a, fr u], .tup [fr b, fr v]])), x11, none, none, x14, x15] = okI m := by
  have z0 : ∀ x : Rat, (x.num == 0) = decide (x = 0) := fun x => by rw [Bool.eq_iff_iff]; simp [fr_num]
  obtain ⟨h1, q, hq, q0, hv⟩ := low
  have a1 := h1 u (by simp)
  have a2 := h1 v (by simp)
  simp only [List.mem_cons, List.mem_nil_iff, or_false] at hq
  by_cases hu : u = 0
  · have du : decide (u = 0) = true := decide_eq_true hu
    have v0 : v ≠ 0 := by
      rcases hq with z | z
      · exact (q0 (z.trans hu)).elim
      · rw [← z]; exact q0
    have dv : decide (v = 0) = false := decide_eq_false v0
    have ev : vq p v = m := by
      rcases hq with z | z
      · exact (q0 (z.trans hu)).elim
      · rw [← z]; exact hv
    have mn : minR [.lst [.int (vq p v)]] = okI (vq p v) := rfl
    simp! [z0, du, dv, ev__law_power hp v0, mn, ev]
  · have du : decide (u = 0) = false := decide_eq_false hu
    have u1 := a1.resolve_left hu
    by_cases hv0 : v = 0
    · have dv : decide (v = 0) = true := decide_eq_true hv0
      have eu : vq p u = m := by
        rcases hq with z | z
        · rw [← z]; exact hv
        · exact (q0 (z.trans hv0)).elim
      have mn : minR [.lst [.int (vq p u)]] = okI (vq p u) := rfl
      simp! [z0, du, dv, ev__law_power hp hu, mn, eu]
    · have dv : decide (v = 0) = false := decide_eq_false hv0
      have v1 := a2.resolve_left hv0
      have mn : minR [.lst [.int (vq p u), .int (vq p v)]] = okI (if vq p v < vq p u then vq p v else vq p u) := rfl
      have e : (if vq p v < vq p u then vq p v else vq p u) = m := by
        rcases hq with z | z <;> (rw [z] at hv; split <;> omega)
      simp! [z0, du, dv, ev__law_power hp hu, ev__law_power hp hv0, mn, e]
theorem ev__law_moved {p : Int} {T : Tb} {S : Spt} {n dS eT : Nat} [Td T n] (hp : Pr p) (h : Rd p S dS) (t : Tr p T eT) (l1 : n ≤ 1000) (l2 : 2 * (2 * n + 3 * dS + 2) ≤ 6000) (l3 : eT + dS ≤ 900) : f__law_moved [.int p, tb T, spD S] = okD (spD (mvS p T S)) := by
  have q := h.qd hp
  have hk := (h.sm hp).k
  have hm := mv_is (S := S) hp t.u
  have hk' := ((mv_rd hp h t).sm hp).k
  generalize mvS p T S = S' at *
  have z0 : ∀ x : Rat, (x.num == 0) = decide (x = 0) := fun x => by rw [Bool.eq_iff_iff]; simp [fr_num]
  have qz := (qd_pz hp S.1).mono (show 3 * S.1.natAbs + 1 ≤ 3 * dS + 1 by omega)
  have gt : ∀ ρ, gTup (gCons (gN 7) (gCons (gN 8) (gNil))) (spD S) ρ = some ((ρ.set 7 (some (.d (.int S.1)))).set 8 (some (.d (fr S.2)))) := fun _ => rfl
  have ec : (tbMul T (tS p S.1 S.2)).c = T.c * pz p S.1 := by unfold tbMul tS; simp only; grind
  have ed : (tbMul T (tS p S.1 S.2)).d = T.c * S.2 + T.d := by unfold tbMul tS; simp only; grind
  have ea : (tbMul T (tS p S.1 S.2)).a = T.a * pz p S.1 := by unfold tbMul tS; simp only; grind
  have eb : (tbMul T (tS p S.1 S.2)).b = T.a * S.2 + T.b := by unfold tbMul tS; simp only; grind
  obtain ⟨m, low, hk2, ra, -⟩ := hm.reads hp
  have rb := SpotIs.reads_b hp hm low
  have dv : vq p (det (tbMul T (tS p S.1 S.2))) = vq p (det T) + S.1 := by rw [det_tbMul, det_tS, vq_mul hp t.u (pz_ne hp _), vq_pz hp]
  rw [dv] at hk2
  rw [ec, ed] at low
  rw [ec, ea] at ra
  rw [ed, eb] at rb
  have bm : Bd m 30 := by
    have := low.bd (n := 2 * n + 3 * dS + 2) hp (fun q hq => by
      simp only [List.mem_cons, List.mem_nil_iff, or_false] at hq
      rcases hq with rfl | rfl
      · exact (inferInstance : Qd (T.c * pz p S.1) _).mono (by omega)
      · exact (inferInstance : Qd (T.c * S.2 + T.d) _).mono (by omega))
    exact ⟨B.of (by omega) (by omega)⟩
  have p1 := ev__law_prime_power (k := S.1) hp (by omega)
  have m1 : f__law_both [fr T.a, fr (pz p S.1)] = okD (fr (T.a * pz p S.1)) := ev__law_both (by omega)
  have m2 : f__law_both [fr T.c, fr (pz p S.1)] = okD (fr (T.c * pz p S.1)) := ev__law_both (by omega)
  have m3 : f__law_both [fr T.a, fr S.2] = okD (fr (T.a * S.2)) := ev__law_both (by omega)
  have m4 : f__law_both [fr T.c, fr S.2] = okD (fr (T.c * S.2)) := ev__law_both (by omega)
  have m5 : f__law_sum [fr (T.a * S.2), fr T.b] = okD (fr (T.a * S.2 + T.b)) := ev__law_sum (by omega)
  have m6 : f__law_sum [fr (T.c * S.2), fr T.d] = okD (fr (T.c * S.2 + T.d)) := ev__law_sum (by omega)
  have m7 := ev__law_measure (t := T) (n := n) (by omega)
  have m8 := ev__law_power (q := det T) hp t.u
  have r1 : T.c * pz p S.1 ≠ 0 → vq p (T.c * pz p S.1) = m → f__law_by [fr (T.a * pz p S.1), fr (T.c * pz p S.1)] = okD (fr (T.a * pz p S.1 / (T.c * pz p S.1))) ∧ f__law_rest [.int p, .int S'.1, fr (T.a * pz p S.1 / (T.c * pz p S.1))] = okD (fr S'.2) := fun c0 cv => by
    have e := ev__law_rest (k := S'.1) (q := T.a * pz p S.1 / (T.c * pz p S.1)) hp inferInstance (by omega) (by omega)
    rw [rst_of hp (ra ⟨c0, cv⟩)] at e
    exact ⟨ev__law_by c0 (by omega), e⟩
  have r2 : T.c * S.2 + T.d ≠ 0 → vq p (T.c * S.2 + T.d) = m → f__law_by [fr (T.a * S.2 + T.b), fr (T.c * S.2 + T.d)] = okD (fr ((T.a * S.2 + T.b) / (T.c * S.2 + T.d))) ∧ f__law_rest [.int p, .int S'.1, fr ((T.a * S.2 + T.b) / (T.c * S.2 + T.d))] = okD (fr S'.2) := fun c0 cv => by
    have e := ev__law_rest (k := S'.1) (q := (T.a * S.2 + T.b) / (T.c * S.2 + T.d)) hp inferInstance (by omega) (by omega)
    rw [rst_of hp (rb ⟨c0, cv⟩)] at e
    exact ⟨ev__law_by c0 (by omega), e⟩
  generalize ha1 : T.a * pz p S.1 = a1 at *
  generalize hu1 : T.c * pz p S.1 = u1 at *
  generalize T.a * S.2 + T.b = b1 at *
  generalize T.c * S.2 + T.d = v1 at *
  have mk : D.tup [.int S'.1, fr S'.2] = spD S' := rfl
  refine outF_ev rfl ?_
  simp_arith!
  refine q_asg (sv := .d (tb T)) (by simp! []) rfl ?_
  simp_arith!
  refine q_asg (sv := .d (spD S)) (by simp! []) (gt _) ?_
  simp_arith!
  refine q_set (v := fr (pz p S.1)) (by simp! [p1]) ?_
  simp_arith!
  refine q_own (sv := .own [.tup [fr a1, fr u1]]) (by simp! [m1, m2]) ?_
  simp_arith!
  refine q_app (xs := [.tup [fr a1, fr u1]]) (v := .tup [fr b1, fr v1]) rfl (by simp! [m3, m4, m5, m6]) (by simp) ?_
  simp_arith!
  refine z_frz rfl ?_
  simp_arith!
  refine q_set (v := .int m) (lst2_least p _ _ _ _ _ _ _ _ _ _ _ _ hp low) ?_
  simp_arith!
  refine q_set (v := .int S'.1) (by simp! [m7, m8, hk2]) ?_
  simp_arith!
  have hit : ∀ (a u : Rat) (x12 x15 : Option SV) (K : En → Prop) (P : PD), P.nx = K → (u ≠ 0 → vq p u = m → f__law_by [fr a, fr u] = okD (fr (a / u)) ∧ f__law_rest [.int p, .int S'.1, fr (a / u)] = okD (fr S'.2)) →
      (∀ z, (u ≠ 0 ∧ vq p u = m → z = some (.d (spD S'))) → (¬ (u ≠ 0 ∧ vq p u = m) → z = x15) → K [some (.d (.int p)), some (.d (tb T)), some (.d (spD S)), some (.d (fr T.a)), some (.d (fr T.b)), some (.d (fr T.c)), some (.d (fr T.d)), some (.d (.int S.1)), some (.d (fr S.2)), some (.d (fr (pz p S.1))), some (.d (.lst [.tup [fr a1, fr u1], .tup [fr b1, fr v1]])), some (.d (.int m)), some (.d (fr a)), some (.d (fr u)), some (.d (.int S'.1)), z]) →
      wIf (cAnd (cT (PT.e2 neR (PT.e2 ixR (eVar 13) (eC (.int 0))) (eC (.int 0)))) (cT (PT.e2 eqR (eCall f__law_power (aCons (eVar 0) (aCons (eVar 13) (aNil)))) (eVar 11)))) (wSet 15 (eTup (aCons (eVar 14) (aCons (eCall f__law_rest (aCons (eVar 0) (aCons (eVar 14) (aCons (eCall f__law_by (aCons (eVar 12) (aCons (eVar 13) (aNil)))) (aNil))))) (aNil))))) (wNop) P [some (.d (.int p)), some (.d (tb T)), some (.d (spD S)), some (.d (fr T.a)), some (.d (fr T.b)), some (.d (fr T.c)), some (.d (fr T.d)), some (.d (.int S.1)), some (.d (fr S.2)), some (.d (fr (pz p S.1))), some (.d (.lst [.tup [fr a1, fr u1], .tup [fr b1, fr v1]])), some (.d (.int m)), some (.d (fr a)), some (.d (fr u)), some (.d (.int S'.1)), x15] := by
    intro a u x12 x15 K P hP hr hK
    by_cases u0 : u = 0
    · have du : decide (u = 0) = true := decide_eq_true u0
      refine z_if (t := false) (by simp! [z0, du]) (fun z => by cases z) fun _ => ?_
      show P.nx _
      rw [hP]
      exact hK _ (fun z => (z.1 u0).elim) (fun _ => rfl)
    · have du : decide (u = 0) = false := decide_eq_false u0
      by_cases uv : vq p u = m
      · obtain ⟨e1, e2⟩ := hr u0 uv
        have bm2 : (m == m) = true := by simp
        refine z_if (t := true) (by simp! [z0, du, ev__law_power hp u0, uv, bm2]) (fun _ => z_set (v := spD S') (by simp! [e1, e2, mk]) ?_) fun z => by cases z
        rw [hP]
        exact hK _ (fun _ => rfl) (fun z => (z ⟨u0, uv⟩).elim)
      · have bm2 : (vq p u == m) = false := by rw [beq_eq_false_iff_ne]; exact uv
        refine z_if (t := false) (by simp! [z0, du, ev__law_power hp u0, bm2]) (fun z => by cases z) fun _ => ?_
        show P.nx _
        rw [hP]
        exact hK _ (fun z => (uv z.2).elim) (fun _ => rfl)
  refine q_forN (ds := [.tup [fr a1, fr u1], .tup [fr b1, fr v1]]) (fun j ρ => ∃ x12 x13 z, (j ≥ 1 → (u1 ≠ 0 ∧ vq p u1 = m) → z = some (.d (spD S'))) ∧ (j ≥ 2 → z = some (.d (spD S'))) ∧ ρ = [some (.d (.int p)), some (.d (tb T)), some (.d (spD S)), some (.d (fr T.a)), some (.d (fr T.b)), some (.d (fr T.c)), some (.d (fr T.d)), some (.d (.int S.1)), some (.d (fr S.2)), some (.d (fr (pz p S.1))), some (.d (.lst [.tup [fr a1, fr u1], .tup [fr b1, fr v1]])), some (.d (.int m)), x12, x13, some (.d (.int S'.1)), z]) (by simp! []) ⟨none, none, none, fun h => by omega, fun h => by omega, rfl⟩ ?_ ?_
  · rintro ρ ⟨x12, x13, z, -, hz, rfl⟩
    rw [hz (by simp)]
    exact z_ret (sv := .d (spD S')) (by simp! []) rfl
  · rintro j d ρ K hd ⟨x12, x13, z, hz1, hz2, rfl⟩ hK
    rcases j with _ | _ | j
    · cases hd
      refine ⟨_, rfl, ?_⟩
      simp_arith!
      exact hit a1 u1 none z K _ rfl r1 fun z' h1 h2 => hK _ ⟨_, _, z', fun _ h => h1 h, fun h => by omega, rfl⟩
    · cases hd
      refine ⟨_, rfl, ?_⟩
      simp_arith!
      refine hit b1 v1 none z K _ rfl r2 fun z' h1 h2 => hK _ ⟨_, _, z', fun _ h => ?_, fun _ => ?_, rfl⟩
      · by_cases g : v1 ≠ 0 ∧ vq p v1 = m
        · exact h1 g
        · rw [h2 g]; exact hz1 (by omega) h
      · by_cases g : v1 ≠ 0 ∧ vq p v1 = m
        · exact h1 g
        · rw [h2 g]
          refine hz1 (by omega) ?_
          obtain ⟨q, hq, q0, qv⟩ := low.2
          simp only [List.mem_cons, List.mem_nil_iff, or_false] at hq
          rcases hq with z | z
          · rw [← z]; exact ⟨q0, qv⟩
          · exact (g (by rw [← z]; exact ⟨q0, qv⟩)).elim
    · simp at hd
theorem ev__law_prime (ns : List Int) (hb : ∀ n ∈ ns, B 1048577 n) : ∃ p : Int, Pr p ∧ f__law_prime [.scr (ns.map D.int)] = okI p := by
  obtain ⟨n, -, ne⟩ := ev__law_cell ns hb 0 (by decide)
  have ne : f__law_cell [.scr (ns.map D.int), .int 0] = okI n := ne
  obtain ⟨p, hp, pe⟩ : ∃ p : Int, Pr p ∧ ixR (.tup [.int 2, .int 3, .int 5, .int 7]) (.int (n / 2 % 4)) = okI p := by
    rcases (show n / 2 % 4 = 0 ∨ n / 2 % 4 = 1 ∨ n / 2 % 4 = 2 ∨ n / 2 % 4 = 3 by omega) with h | h | h | h <;> rw [h]
    · exact ⟨2, .inl rfl, rfl⟩
    · exact ⟨3, .inr (.inl rfl), rfl⟩
    · exact ⟨5, .inr (.inr (.inl rfl)), rfl⟩
    · exact ⟨7, .inr (.inr (.inr rfl)), rfl⟩
  refine ⟨p, hp, outF_ev rfl ?_⟩
  exact z_ret (sv := .d (.int p)) (by simp! [ne, pe]) rfl
theorem ev__law_is_spot (S : Spt) : f__law_is_spot [spD S, spD S] = okB true := by
  have e2 : ((2 : Int) == 2) = true := rfl
  have i0 : ixR (spD S) (.int 0) = okD (.int S.1) := rfl
  have i1 : ixR (spD S) (.int 1) = okD (fr S.2) := rfl
  have e5 : lenR [spD S] = okI 2 := rfl
  have e6 : isiR [spD S, .raw (.ty "tuple")] = okB true := rfl
  have ee : eqR (spD S) (spD S) = okB true := by show eqR (sp S.1 S.2) (sp S.1 S.2) = _; rw [eqR_sp, sp_self]
  have fs : fr S.2 = .tup [.int S.2.num, .int S.2.den] := rfl
  have al : allR [.lst [.bl true, .bl true, .bl true]] = okB true := rfl
  refine outF_ev rfl ?_
  simp_arith!
  refine q_ifN (t := false) (by simp! [i0, i1, e2, e5, e6]) (fun z => by cases z) fun _ => ?_
  exact z_ret (sv := .d (.bl true)) (by simp! [i0, i1, fs, ev__law_whole, al, ee, List.isEmpty_cons, and_self]) rfl
/-- a number: small, or with a great top -/
theorem ev__law_numberP {p n : Int} (hp : Pr p) (h0 : 0 ≤ n) (hn : B 1048577 n) (g : Bool) : ∃ q : Rat, (Qd q (if g then 80 else 18) ∧ Al p (-8) q ∧ (g = false → q ≠ 0 → vq p q ≤ 8) ∧ Ps p q 71 4 ∧ (g = false → Ps p q 8 4)) ∧ f__law_number [.int p, .int n, .bl g] = okD (fr q) := by
  refine postQ rfl ?_
  have bn : Bd n 1048577 := ⟨hn⟩
  obtain ⟨c, hc, ec⟩ : ∃ c : Int, (1 ≤ c ∧ c ≤ 12) ∧ 1 + n / 207 % 12 = c := ⟨_, by omega, rfl⟩
  obtain ⟨j, hj, ej⟩ : ∃ j : Int, j.natAbs ≤ 4 ∧ n / 23 % 9 - 4 = j := ⟨_, by omega, rfl⟩
  have pj := hp.pow_pos j.natAbs
  have bp : B 12 (p ^ j.natAbs) := by
    have h4 : j.natAbs = 0 ∨ j.natAbs = 1 ∨ j.natAbs = 2 ∨ j.natAbs = 3 ∨ j.natAbs = 4 := by omega
    rcases hp with rfl | rfl | rfl | rfl <;> rcases h4 with h | h | h | h | h <;> rw [h] <;> decide
  have e1 : f__law_prime_power [.int p, .int (j.natAbs : Int)] = okD (fr (pz p (j.natAbs : Int))) := ev__law_prime_power hp (by omega)
  have n1 : ∀ j : Nat, ixR (fr (pz p j)) (.int 0) = okD (.int (p ^ j)) := fun j => by rw [pz_nat]; rfl
  have bpi : Bd (p ^ j.natAbs) 12 := ⟨bp⟩
  have bc : Bd c 4 := ⟨B.of (by omega) (by omega)⟩
  -- the power of what is made
  have vc : vp p c ≤ 3 := by
    have := vp_lt hp.two (show c ≠ 0 by omega) bc.b
    omega
  have mk : ∀ t : Int, B (if g then 67 else 4) t → (g = false → t.natAbs ≤ 11) → ∃ q : Rat, (q = if j < 0 then Rat.divInt t (c * p ^ j.natAbs) else Rat.divInt (t * p ^ j.natAbs) c) ∧ (Qd q (if g then 80 else 18) ∧ Al p (-8) q ∧ (g = false → q ≠ 0 → vq p q ≤ 8) ∧ Ps p q 71 4 ∧ (g = false → Ps p q 8 4)) := by
    intro t bt ht
    have cr : (c : Rat) ≠ 0 := cast_ne (by omega)
    have e : (if j < 0 then Rat.divInt t (c * p ^ j.natAbs) else Rat.divInt (t * p ^ j.natAbs) c) = (t : Rat) / (c : Rat) * pz p j := by
      split
      · have : pz p j = ((p ^ j.natAbs : Int) : Rat)⁻¹ := by rw [← pz_nat, ← pz_neg]; congr 1; omega
        rw [this, Rat.divInt_eq_div, Rat.intCast_mul]
        have := cast_ne (show p ^ j.natAbs ≠ 0 by omega)
        grind
      · have : pz p j = ((p ^ j.natAbs : Int) : Rat) := by rw [← pz_nat]; congr 1; omega
        rw [this, Rat.divInt_eq_div, Rat.intCast_mul]
        grind
    refine ⟨_, rfl, ?_, ?_, ?_, ?_, ?_⟩
    · split
      · refine B.divInt (bt.mono (by cases g <;> decide)) ((Bd.b (x := c * p ^ j.natAbs)).mono (by cases g <;> decide)) (Int.mul_ne_zero (by omega) (by omega))
      · refine B.divInt ?_ (bc.b.mono (by cases g <;> decide)) (by omega)
        exact (bt.mul bp (Nat.le_refl _)).mono (by cases g <;> decide)
    · rw [e]
      have a1 : Al p (0 - 3) ((t : Rat) / (c : Rat)) := by
        have := (al_int (t := t) hp).dv hp cr (vq_int hp)
        exact this.le (by omega)
      have := a1.mul hp (Al.pz hp j)
      exact this.le (by omega)
    · intro hg h0
      rw [e] at h0 ⊢
      have t0 : (t : Rat) ≠ 0 := fun z => h0 (by rw [z]; grind)
      have ti : t ≠ 0 := fun z => t0 (by rw [z]; rfl)
      have vt : vp p t ≤ 3 := by
        have := vp_lt (b := 4) hp.two ti (B.of (by have := ht hg; omega) (by have := ht hg; omega))
        omega
      have c1 : (t : Rat) / (c : Rat) ≠ 0 := by rw [Rat.div_def]; exact mul_ne t0 (by grind)
      rw [vq_mul hp c1 (pz_ne hp j), vq_dv hp t0 cr, vq_int hp, vq_int hp, vq_pz hp]
      omega
    · rw [e]
      exact Ps.mk4 hp (a := 67) (bt.mono (by cases g <;> decide)) hc.1 hc.2 hj
    · intro hg
      subst hg
      rw [e]
      exact Ps.mk4 hp (a := 4) bt hc.1 hc.2 hj
  simp_arith!
  refine q_set (v := .int (n % 23 - 11)) (by simp! []) ?_
  simp_arith!
  refine q_ifJ (fun ρ => ∃ t : Int, B (if g then 67 else 4) t ∧ (g = false → t.natAbs ≤ 11) ∧ ρ = [some (.d (.int p)), some (.d (.int n)), some (.d (.bl g)), some (.d (.int t)), none, none]) (t := g) (by simp! []) ?_ ?_ ?_
  · rintro ρ ⟨t, bt, ht, rfl⟩
    obtain ⟨q, eq, hq⟩ := mk t bt ht
    have bt2 : Bd t 67 := ⟨bt.mono (by cases g <;> decide)⟩
    refine q_set (v := .int j) (by simp! [ej]) ?_
    simp_arith!
    refine q_set (v := .int (p ^ j.natAbs)) (by simp! [e1, n1]) ?_
    simp_arith!
    refine q_ifN (t := decide (j < 0)) (by simp! []) (fun hz => ?_) fun hz => ?_
    · have h := of_decide_eq_true hz
      rw [if_pos h] at eq
      have l0 : c * p ^ j.natAbs ≠ 0 := Int.mul_ne_zero (by omega) (by omega)
      refine z_ret (sv := .d (fr q)) (by simp! [ec, ev__law_low' l0 (by decide : 4 + 12 < 9000), ← eq]) ⟨_, hq, rfl⟩
    · have h := of_decide_eq_false hz
      rw [if_neg h] at eq
      have l0 : c ≠ 0 := by omega
      refine z_ret (sv := .d (fr q)) (by simp! [ec, ev__law_low' l0 (by decide : 4 < 9000), ← eq]) ⟨_, hq, rfl⟩
  · intro K hK hg
    subst hg
    have c5 : (48271 : Int) ^ 5 = 262078551400494415750351 := by decide
    refine z_set (v := .int (n * 262078551400494415750351 % 200000000000000000001 - 100000000000000000000)) (by simp! [modR (show (0 : Int) < 200000000000000000001 by decide), c5]) (hK _ ⟨_, ?_, (fun z => by cases z), rfl⟩)
    generalize n * 262078551400494415750351 = y
    exact (show B 67 (y % 200000000000000000001 - 100000000000000000000) from B.of (by omega) (by omega))
  · intro K hK hg
    subst hg
    exact hK _ ⟨_, (show B 4 (n % 23 - 11) from B.of (by omega) (by omega)), fun _ => by omega, rfl⟩
theorem ev__law_number {p n : Int} (hp : Pr p) (h0 : 0 ≤ n) (hn : B 1048577 n) (g : Bool) : ∃ q : Rat, (Qd q (if g then 80 else 18) ∧ Al p (-8) q ∧ (g = false → q ≠ 0 → vq p q ≤ 8)) ∧ f__law_number [.int p, .int n, .bl g] = okD (fr q) := by
  obtain ⟨q, ⟨a, b, c, -⟩, e⟩ := ev__law_numberP hp h0 hn g
  exact ⟨q, ⟨a, b, c⟩, e⟩
end PT
/-! PM: the tables and spots that the laws on moved spots draw. -/
namespace PT
open PySem (Str)
theorem range1_5 : range1L [.int 5] = some (.ok [.int 0, .int 1, .int 2, .int 3, .int 4]) := by
  rw [range1_ev (by decide) (by decide)]; rfl
theorem Qd.sub2 {x y : Rat} {m n : Nat} (h : Qd x m) (g : Qd y n) : Qd (x - y) (m + n + 1) := inferInstance
theorem tr_of {p : Int} {T : Tb} (hp : Pr p) (ha : Alt p (-24) T) (h0 : det T ≠ 0) (hv : vq p (det T) ≤ 88) : Tr p T 136 := ⟨h0, -24, ha, by omega⟩
/-- how a drawn table is made -/
def Fo (p : Int) (T : Tb) : Prop := ∃ x y z w : Rat, (y ≠ 0 ∧ vq p y ≤ 8 ∧ Ps p x 71 4 ∧ Ps p y 8 4 ∧ Ps p z 71 4 ∧ Ps p w 71 4) ∧ (Al p (-8) x ∧ Al p (-8) y ∧ Al p (-8) z ∧ Al p (-8) w) ∧ Qd (x * y) 98 ∧ Qd y 18 ∧ (T = ⟨y, y * w, x * y, x * y * w + z⟩ ∨ T = ⟨x * y, x * y * w + z, y, y * w⟩)
/-- a drawn table: its sizes, how far it moves the first spot -/
theorem ev__law_tableP (ns : List Int) (hb : ∀ n ∈ ns, B 1048577 n) {p : Int} (hp : Pr p) (i : Nat) (hi : i < 900) : ∃ T : Tb, (Td T 135 ∧ Qd (det T) 98 ∧ Tr p T 136 ∧ (T.b = 0 → T.c = 0 → Qd (T.a - T.d) 99) ∧ Fo p T) ∧ f__law_table [.scr (ns.map D.int), .int p, .int i] = okD (tb T) := by
  refine postT rfl ?_
  obtain ⟨c0, ⟨n0, b0⟩, e0⟩ := ev__law_cell ns hb (i + 0) (by omega)
  obtain ⟨c1, ⟨n1, b1⟩, e1⟩ := ev__law_cell ns hb (i + 1) (by omega)
  obtain ⟨c2, ⟨n2, b2⟩, e2⟩ := ev__law_cell ns hb (i + 2) (by omega)
  obtain ⟨c3, ⟨n3, b3⟩, e3⟩ := ev__law_cell ns hb (i + 3) (by omega)
  obtain ⟨c4, ⟨n4, b4⟩, e4⟩ := ev__law_cell ns hb (i + 4) (by omega)
  have e0 : f__law_cell [.scr (ns.map D.int), .int (i + 0)] = okI c0 := by rw [← e0]; rfl
  have e1 : f__law_cell [.scr (ns.map D.int), .int (i + 1)] = okI c1 := by rw [← e1]; rfl
  have e2 : f__law_cell [.scr (ns.map D.int), .int (i + 2)] = okI c2 := by rw [← e2]; rfl
  have e3 : f__law_cell [.scr (ns.map D.int), .int (i + 3)] = okI c3 := by rw [← e3]; rfl
  have e4 : f__law_cell [.scr (ns.map D.int), .int (i + 4)] = okI c4 := by rw [← e4]; rfl
  have i0 : ixR (.lst [.int c0, .int c1, .int c2, .int c3, .int c4]) (.int 0) = okD (.int c0) := rfl
  have i1 : ixR (.lst [.int c0, .int c1, .int c2, .int c3, .int c4]) (.int 1) = okD (.int c1) := rfl
  have i2 : ixR (.lst [.int c0, .int c1, .int c2, .int c3, .int c4]) (.int 2) = okD (.int c2) := rfl
  have i3 : ixR (.lst [.int c0, .int c1, .int c2, .int c3, .int c4]) (.int 3) = okD (.int c3) := rfl
  have i4 : ixR (.lst [.int c0, .int c1, .int c2, .int c3, .int c4]) (.int 4) = okD (.int c4) := rfl
  generalize es : c4 % 6 = s
  obtain ⟨x, ⟨qx, ax, -, px, -⟩, ex⟩ := ev__law_numberP hp n0 b0 (s == 2)
  obtain ⟨y, ⟨qy, ay, vy, -, py⟩, ey⟩ := ev__law_numberP hp n1 b1 false
  have py : Ps p y 8 4 := py rfl
  obtain ⟨z, ⟨qz, az, vz, pz_, -⟩, ez⟩ := ev__law_numberP hp n2 b2 (s == 4)
  obtain ⟨w, ⟨qw, aw, -, pw, -⟩, ew⟩ := ev__law_numberP hp n3 b3 (s == 5)
  have p1_ : Ps p 1 8 4 := by
    have := Ps.mk4 (t := 1) (c := 1) (j := 0) (a := 4) hp (by decide) (by decide) (by decide) (by decide)
    have e : ((1 : Int) : Rat) / ((1 : Int) : Rat) * pz p 0 = 1 := by rw [pz_zero]; decide +kernel
    rwa [e] at this
  have z0 : ∀ x : Rat, (x.num == 0) = decide (x = 0) := fun x => by rw [Bool.eq_iff_iff]; simp [fr_num]
  have qy : Qd y 18 := qy
  simp_arith!
  refine q_setL (ds := [.int c0, .int c1, .int c2, .int c3, .int c4]) (by simp! [range1_5, e0, e1, e2, e3, e4]) ?_
  simp_arith!
  refine q_set (v := .int s) (by simp! [i4, es]) ?_
  simp_arith!
  have k3 : andV (PT.e2 eqR (eVar 5) (PT.e2 addD (eVar 4) (eC (.int 2)))) (PT.e2 neR (eVar 4) (eC (.int 1))) [some (.d (.scr (ns.map D.int))), some (.d (.int p)), some (.d (.int i)), some (.d (.lst [.int c0, .int c1, .int c2, .int c3, .int c4])), some (.d (.int 1)), some (.d (.int s)), none, none, none, none, none, none] = okB false := by
    cases hs : (s == 3) <;> simp! [hs]
  have k0 : ∀ (k : Int) (b : Bool), (k == 1) = false → (s == k + 2) = b → andV (PT.e2 eqR (eVar 5) (PT.e2 addD (eVar 4) (eC (.int 2)))) (PT.e2 neR (eVar 4) (eC (.int 1))) [some (.d (.scr (ns.map D.int))), some (.d (.int p)), some (.d (.int i)), some (.d (.lst [.int c0, .int c1, .int c2, .int c3, .int c4])), some (.d (.int k)), some (.d (.int s)), none, none, none, none, none, none] = okB b := by
    intro k b hk hb
    cases b <;> simp! [hb, hk]
  have g0 := k0 0 (s == 2) rfl rfl
  have g2 := k0 2 (s == 4) rfl rfl
  have g3 := k0 3 (s == 5) rfl rfl
  -- the four numbers
  have lc : eLc (itA range1L (aCons (eC (.int 4)) (aNil))) (gN 4) (cYes) (eCall f__law_number (aCons (eVar 1) (aCons (PT.e2 ixR (eVar 3) (eVar 4)) (aCons (andV (PT.e2 eqR (eVar 5) (PT.e2 addD (eVar 4) (eC (.int 2)))) (PT.e2 neR (eVar 4) (eC (.int 1)))) (aNil))))) [4] [some (.d (.scr (ns.map D.int))), some (.d (.int p)), some (.d (.int i)), some (.d (.lst [.int c0, .int c1, .int c2, .int c3, .int c4])), none, some (.d (.int s)), none, none, none, none, none, none] = some (.ok (.own [fr x, fr y, fr z, fr w])) := by
    have each : ∀ (k c : Int) (g : Bool) (q : Rat), ixR (.lst [.int c0, .int c1, .int c2, .int c3, .int c4]) (.int k) = okD (.int c) → andV (PT.e2 eqR (eVar 5) (PT.e2 addD (eVar 4) (eC (.int 2)))) (PT.e2 neR (eVar 4) (eC (.int 1))) [some (.d (.scr (ns.map D.int))), some (.d (.int p)), some (.d (.int i)), some (.d (.lst [.int c0, .int c1, .int c2, .int c3, .int c4])), some (.d (.int k)), some (.d (.int s)), none, none, none, none, none, none] = okB g → f__law_number [.int p, .int c, .bl g] = okD (fr q) → eCall f__law_number (aCons (eVar 1) (aCons (PT.e2 ixR (eVar 3) (eVar 4)) (aCons (andV (PT.e2 eqR (eVar 5) (PT.e2 addD (eVar 4) (eC (.int 2)))) (PT.e2 neR (eVar 4) (eC (.int 1)))) (aNil)))) [some (.d (.scr (ns.map D.int))), some (.d (.int p)), some (.d (.int i)), some (.d (.lst [.int c0, .int c1, .int c2, .int c3, .int c4])), some (.d (.int k)), some (.d (.int s)), none, none, none, none, none, none] = okD (fr q) := by
      intro k c g q h1 h2 h3
      simp only [eCall, aCons, aNil, bindRL, bindL, h2, okB]
      simp! [h1, h3]
    have l0 := each 0 c0 (s == 2) x i0 g0 ex
    have l1 := each 1 c1 false y i1 k3 ey
    have l2 := each 2 c2 (s == 4) z i2 g2 ez
    have l3 := each 3 c3 (s == 5) w i3 g3 ew
    unfold eLc
    rw [show itA range1L (aCons (eC (.int 4)) (aNil)) [some (.d (.scr (ns.map D.int))), some (.d (.int p)), some (.d (.int i)), some (.d (.lst [.int c0, .int c1, .int c2, .int c3, .int c4])), none, some (.d (.int s)), none, none, none, none, none, none] = some (.ok [.int 0, .int 1, .int 2, .int 3]) from range1_4]
    simp only [bindL, wipeE, List.set_cons_succ, List.set_cons_zero, lcL, gN, cYes, l0, l1, l2, l3, okD, toD]
    rfl
  refine q_asg (sv := .own [fr x, fr y, fr z, fr w]) lc rfl ?_
  simp_arith!
  -- y and z are not nought
  refine q_ifJ (fun ρ => ∃ y : Rat, (Qd y 18 ∧ y ≠ 0 ∧ Al p (-8) y ∧ vq p y ≤ 8 ∧ Ps p y 8 4) ∧ ρ = [some (.d (.scr (ns.map D.int))), some (.d (.int p)), some (.d (.int i)), some (.d (.lst [.int c0, .int c1, .int c2, .int c3, .int c4])), none, some (.d (.int s)), some (.d (fr x)), some (.d (fr y)), some (.d (fr z)), some (.d (fr w)), none, none]) (t := decide (y = 0)) (by simp! [z0]) ?_ (fun K hK _ => z_set (v := fr 1) (by simp! [fr_1]) (hK _ ⟨1, ⟨(inferInstance : Qd (1 : Rat) 1).mono (by decide), by decide, .inr (by rw [vq_one hp]; decide), by rw [vq_one hp]; decide, p1_⟩, rfl⟩)) (fun K hK ht => hK _ ⟨y, ⟨qy, of_decide_eq_false ht, ay, vy rfl (of_decide_eq_false ht), py⟩, rfl⟩)
  rintro ρ ⟨y, ⟨qy, y0, ay, vy, py⟩, rfl⟩
  have vzt : z ≠ 0 → vq p z ≤ 80 := fun z1 => by
    cases hg : (s == 4) with
    | false => have := vz hg z1; omega
    | true =>
      rw [hg] at qz
      have qz : Qd z 80 := qz
      have h1 := vp_lt hp.two (fun y => z1 (fr_num.mp y)) qz.num
      have : vq p z = (vp p z.num : Int) - vp p (z.den : Int) := rfl
      omega
  have m1 : D.tup [.int (-1), .int 1] = fr (-1) := rfl
  refine q_ifJ (fun ρ => ∃ z : Rat, (Qd z (if (s == 4) then 80 else 18) ∧ z ≠ 0 ∧ Al p (-8) z ∧ vq p z ≤ 80 ∧ Ps p z 71 4) ∧ ρ = [some (.d (.scr (ns.map D.int))), some (.d (.int p)), some (.d (.int i)), some (.d (.lst [.int c0, .int c1, .int c2, .int c3, .int c4])), none, some (.d (.int s)), some (.d (fr x)), some (.d (fr y)), some (.d (fr z)), some (.d (fr w)), none, none]) (t := decide (z = 0)) (by simp! [z0]) ?_ (fun K hK _ => z_set (v := fr (-1)) (by simp! [m1]) (hK _ ⟨-1, ⟨(⟨by decide, by decide⟩ : Qd (-1 : Rat) 1).mono (by split <;> decide), by decide, .inr (by rw [vq_neg hp, vq_one hp]; decide), by rw [vq_neg hp, vq_one hp]; decide, (p1_.neg.mono hp (by decide) (by decide) : Ps p (-1) 71 4)⟩, rfl⟩)) (fun K hK ht => hK _ ⟨z, ⟨qz, of_decide_eq_false ht, az, vzt (of_decide_eq_false ht), pz_⟩, rfl⟩)
  rintro ρ ⟨z, ⟨qz, z1, az, vz, pz_⟩, rfl⟩
  -- sizes
  have sz : Qd x 80 ∧ Qd z 80 ∧ Qd w 80 ∧ Qd (x * y * w + z) 135 := by
    refine ⟨qx.mono (by split <;> decide), qz.mono (by split <;> decide), qw.mono (by split <;> decide), ?_⟩
    cases h2 : (s == 2) <;> cases h4 : (s == 4) <;> cases h5 : (s == 5) <;> rw [h2] at qx <;> rw [h4] at qz <;> rw [h5] at qw
    all_goals first
      | (exfalso; simp at h2 h4; omega)
      | (exfalso; simp at h2 h5; omega)
      | (exfalso; simp at h4 h5; omega)
      | skip
    · have qx : Qd x 18 := qx; have qz : Qd z 18 := qz; have qw : Qd w 18 := qw
      exact (inferInstance : Qd (x * y * w + z) _).mono (by decide)
    · have qx : Qd x 18 := qx; have qz : Qd z 18 := qz; have qw : Qd w 80 := qw
      exact (inferInstance : Qd (x * y * w + z) _).mono (by decide)
    · have qx : Qd x 18 := qx; have qz : Qd z 80 := qz; have qw : Qd w 18 := qw
      exact (inferInstance : Qd (x * y * w + z) _).mono (by decide)
    · have qx : Qd x 80 := qx; have qz : Qd z 18 := qz; have qw : Qd w 18 := qw
      exact (inferInstance : Qd (x * y * w + z) _).mono (by decide)
  obtain ⟨qx, qz, qw, qd⟩ := sz
  have qyz : Qd (y * z) 98 := inferInstance
  have qxy : Qd (x * y) 98 := (inferInstance : Qd (x * y) (80 + 18))
  have m2 : f__law_both [fr y, fr w] = okD (fr (y * w)) := ev__law_both (by decide : 18 + 80 < 9000)
  have m3 : f__law_both [fr x, fr y] = okD (fr (x * y)) := ev__law_both (by decide : 80 + 18 < 9000)
  have m4 : f__law_both [fr (x * y), fr w] = okD (fr (x * y * w)) := ev__law_both (by decide : 80 + 18 + 80 < 9000)
  have m5 : f__law_sum [fr (x * y * w), fr z] = okD (fr (x * y * w + z)) := ev__law_sum (by decide : 80 + 18 + 80 + 80 < 9000)
  have q2 : Qd (y * w) 135 := (inferInstance : Qd (y * w) _).mono (by decide)
  have q3 : Qd (x * y) 135 := (inferInstance : Qd (x * y) _).mono (by decide)
  have q1 : Qd y 135 := qy.mono (by decide)
  have a1 : Al p (-24) y := ay.le (by decide)
  have a2 : Al p (-24) (y * w) := (ay.mul hp aw).le (by decide)
  have a3 : Al p (-24) (x * y) := (ax.mul hp ay).le (by decide)
  have a4 : Al p (-24) (x * y * w + z) := (((ax.mul hp ay).mul hp aw).le (by decide)).add hp (az.le (by decide))
  have dt : det (⟨y, y * w, x * y, x * y * w + z⟩ : Tb) = y * z := by unfold det; simp only; grind
  have dt2 : det (⟨x * y, x * y * w + z, y, y * w⟩ : Tb) = -(y * z) := by unfold det; simp only; grind
  have yz := mul_ne y0 z1
  have vyz : vq p (y * z) ≤ 88 := by rw [vq_mul hp y0 z1]; omega
  have t1 : Tr p ⟨y, y * w, x * y, x * y * w + z⟩ 136 := tr_of hp ⟨a1, a2, a3, a4⟩ (by rw [dt]; exact yz) (by rw [dt]; exact vyz)
  have t2 : Tr p ⟨x * y, x * y * w + z, y, y * w⟩ 136 := tr_of hp ⟨a3, a4, a1, a2⟩ (by rw [dt2]; grind) (by rw [dt2, vq_neg hp]; exact vyz)
  refine q_set (v := .tup [fr y, fr (y * w)]) (by simp! [m2]) ?_
  simp_arith!
  refine q_set (v := .tup [fr (x * y), fr (x * y * w + z)]) (by simp! [m3, m4, m5]) ?_
  simp_arith!
  refine q_ifN (t := decide (c4 / 6 % 3 = 1)) (by simp! [i4]) (fun _ => ?_) fun _ => ?_
  · exact z_ret (sv := .d (tb ⟨x * y, x * y * w + z, y, y * w⟩)) (by simp! [List.isEmpty_cons, and_self, tb_mk]) ⟨_, ⟨⟨q3, qd, q1, q2⟩, by rw [dt2]; exact ⟨by rw [Rat.neg_num]; exact qyz.num.neg, by rw [Rat.neg_den]; exact qyz.den⟩, t2, fun _ c0 => (y0 c0).elim, ⟨x, y, z, w, ⟨y0, vy, px, py, pz_, pw⟩, ⟨ax, ay, az, aw⟩, qxy, qy, .inr rfl⟩⟩, rfl⟩
  · exact z_ret (sv := .d (tb ⟨y, y * w, x * y, x * y * w + z⟩)) (by simp! [List.isEmpty_cons, and_self, tb_mk]) ⟨_, ⟨⟨q1, q2, q3, qd⟩, by rw [dt]; exact qyz, t1, fun b0 c0 => by
      have w0 : w = 0 := (Rat.mul_eq_zero.mp b0).resolve_left y0
      have e : y - (x * y * w + z) = y - z := by rw [w0]; grind
      show Qd (y - (x * y * w + z)) 99
      rw [e]
      exact qy.sub2 qz, ⟨x, y, z, w, ⟨y0, vy, px, py, pz_, pw⟩, ⟨ax, ay, az, aw⟩, qxy, qy, .inl rfl⟩⟩, rfl⟩
theorem ev__law_tableG (ns : List Int) (hb : ∀ n ∈ ns, B 1048577 n) {p : Int} (hp : Pr p) (i : Nat) (hi : i < 900) : ∃ T : Tb, (Td T 135 ∧ Qd (det T) 98 ∧ Tr p T 136 ∧ (T.b = 0 → T.c = 0 → Qd (T.a - T.d) 99)) ∧ f__law_table [.scr (ns.map D.int), .int p, .int i] = okD (tb T) := by
  obtain ⟨T, ⟨a, b, c, d, -⟩, e⟩ := ev__law_tableP ns hb hp i hi
  exact ⟨T, ⟨a, b, c, d⟩, e⟩
theorem ev__law_table (ns : List Int) (hb : ∀ n ∈ ns, B 1048577 n) {p : Int} (hp : Pr p) (i : Nat) (hi : i < 900) : ∃ T : Tb, (Td T 135 ∧ Qd (det T) 98 ∧ Tr p T 136) ∧ f__law_table [.scr (ns.map D.int), .int p, .int i] = okD (tb T) := by
  obtain ⟨T, ⟨a, b, c, -⟩, e⟩ := ev__law_tableG ns hb hp i hi
  exact ⟨T, ⟨a, b, c⟩, e⟩
theorem rd_of {p k : Int} {x : Rat} {d : Nat} (hp : Pr p) (h : IsRest p k x x) (a : Al p (-(d : Int)) x) (h1 : -(d : Int) ≤ k) {N : Nat} (h2 : k + 2 * d ≤ N) : Rd p (k, x) N := by
  refine ⟨h, ?_⟩
  have : -(d : Int) ≤ Lv p (0, 0) (k, x) := lv_iff.mpr ⟨by show -(d : Int) ≤ 0; omega, h1, by
    show Al p (-(d : Int)) (0 - x)
    have e : (0 : Rat) - x = -x := by grind
    rw [e]; exact a.neg hp⟩
  show 0 + k - 2 * Lv p (0, 0) (k, x) ≤ N
  omega
/-- a drawn spot -/
theorem ev__law_spot (ns : List Int) (hb : ∀ n ∈ ns, B 1048577 n) {p : Int} (hp : Pr p) (i : Nat) (hi : i < 900) : ∃ d : D, (∃ S : Spt, d = spD S ∧ Rd p S 210) ∧ f__law_spot [.scr (ns.map D.int), .int p, .int i] = okD d := by
  refine postD rfl ?_
  obtain ⟨c0, ⟨n0, b0⟩, e0⟩ := ev__law_cell ns hb i (by omega)
  obtain ⟨c1, ⟨n1, b1⟩, e1⟩ := ev__law_cell ns hb (i + 1) (by omega)
  have e1 : f__law_cell [.scr (ns.map D.int), .int (i + 1)] = okI c1 := by rw [← e1]; rfl
  simp_arith!
  refine q_set (v := .int c0) (by simp! [e0]) ?_
  simp_arith!
  refine q_set (v := .int c1) (by simp! [e1]) ?_
  simp_arith!
  refine q_set (v := .int (c0 % 25 - 12)) (by simp! []) ?_
  simp_arith!
  refine q_ifJ (fun ρ => ∃ k : Int, k.natAbs ≤ 200 ∧ ρ = [some (.d (.scr (ns.map D.int))), some (.d (.int p)), some (.d (.int i)), some (.d (.int c0)), some (.d (.int c1)), some (.d (.int k)), none, none]) (t := decide (c0 / 25 % 8 = 3)) (by simp! []) ?_ (fun K hK _ => z_set (v := .int (c0 / 200 % 401 - 200)) (by simp! []) (hK _ ⟨_, by omega, rfl⟩)) (fun K hK _ => hK _ ⟨_, by omega, rfl⟩)
  rintro ρ ⟨k, hk, rfl⟩
  obtain ⟨d, hd1, hd2, hd3⟩ : ∃ d : Nat, (if -k > 0 then -k else 0) + c1 % 6 = (d : Int) ∧ d ≤ 205 ∧ (0 ≤ k + d ∧ k + 2 * d ≤ 210) := by
    refine ⟨((if -k > 0 then -k else 0) + c1 % 6).toNat, ?_, ?_, ?_, ?_⟩ <;> (split <;> omega)
  obtain ⟨K, hK⟩ : ∃ K : Nat, (K : Int) = k + d := ⟨(k + d).toNat, by omega⟩
  have pK := hp.pow_pos K
  have pd := hp.pow_pos d
  have p1 : f__law_prime_power [.int p, .int (k + d)] = okD (fr (pz p K)) := by rw [← hK]; exact ev__law_prime_power hp (by omega)
  have p2 : f__law_prime_power [.int p, .int d] = okD (fr (pz p d)) := ev__law_prime_power hp (by omega)
  have nn : ∀ j : Nat, ixR (fr (pz p j)) (.int 0) = okD (.int (p ^ j)) := fun j => by rw [pz_nat]; rfl
  refine q_set (v := .int d) (by simp! [hd1]) ?_
  simp_arith!
  refine q_set (v := .int (p ^ K)) (by simp! [p1, nn]) ?_
  simp_arith!
  have bc : Bd (c1 / 6) 1048577 := ⟨b1.div n1 (by decide)⟩
  have hpw : powD (.int 48271) (.int 50) = okI (48271 ^ 50) := powRi (show powOk 48271 50 = true by decide)
  have bC : Bd ((48271 : Int) ^ 50) 801 := ⟨(show B 16 (48271 : Int) by decide).pow 50⟩
  have hmul : mulD (.int (c1 / 6)) (.int (48271 ^ 50)) = okI (c1 / 6 * 48271 ^ 50) := mulRi (by decide)
  generalize (48271 : Int) ^ 50 = C at *
  generalize c1 / 6 * C = u at *
  have t0 := Int.emod_nonneg u (show p ^ K ≠ 0 by omega)
  have t1 := Int.emod_lt_of_pos u pK
  have hs := rest_self hp hK t0 t1
  have el := ev__law_low (t := u % p ^ K) (hp.pow_bd d) (show p ^ d ≠ 0 by omega) (by omega)
  exact z_ret (sv := .d (spD (k, Rat.divInt (u % p ^ K) (p ^ d)))) (by simp! [hpw, hmul, modR pK, p2, nn, el]) ⟨_, ⟨(k, _), rfl, rd_of hp hs (al_low hp) (by omega) (by omega)⟩, rfl⟩
end PT
/-! PT: a def that outlives its maker (k51). -/
namespace PT
open PySem PySem.Spec PyProof.Rows L2 NdefX
open LamX (CodeO ExtN ExtN.refl TabS)
/-- the object at c is a cell that holds v -/
def CellO (c : Addr) (v : V) : HO := .ext fun h => ∃ u, L2.RelV v u ∧ h.IsCell c (some u)
def ers (cs : List Addr) (H : Hp) : Hp := fun b => if b ∈ cs then none else H b
def back (cs : List Addr) (H H' : Hp) : Hp := fun b => if b ∈ cs then H b else H' b
theorem objOk_imp {P : Program} {w : World} {H H' : Hp} {h : Heap} {a : Addr} (h1 : ∀ b xs, H b = some (.tup xs) → H' b = some (.tup xs)) (h2 : ∀ b x, H b = some (.own x) → H' b = some (.own x)) : ∀ {o : HO}, ObjOk P w H h a o → ObjOk P w H' h a o
  | .lst _, x => x
  | .tup _, x => x
  | .dK _, x => x
  | .dT _, ⟨a1, a2, xs, a3, a4⟩ => ⟨a1, a2, xs, L2.Paired.mapP a3 (fun _ _ z => ⟨z.1, h1 _ _ z.2.1, z.2.2⟩), a4⟩
  | .set _ _, x => x
  | .ins _ _ _, ⟨a1, a2⟩ => ⟨h2 _ _ a1, a2⟩
  | .own _, x => x
  | .xd _, x => x
  | .met _ _, x => x
  | .rng _ _, x => x
  | .frz _ _, ⟨a1, a2⟩ => ⟨a1, objOk_imp h1 h2 a2⟩
  | .tbl _, x => x
  | .ext _, x => x
section
variable {P : Program} {w : World} {H H' : Hp} {h h' : Heap} {cs : List Addr}
/-- every address of cs is a cell's -/
def CellsO (H : Hp) (cs : List Addr) : Prop := ∀ c ∈ cs, ∃ v, H c = some (CellO c v)
theorem ers_in {b : Addr} (h : b ∈ cs) : ers cs H b = none := if_pos h
theorem ers_out {b : Addr} (h : b ∉ cs) : ers cs H b = H b := if_neg h
theorem back_in {b : Addr} (h : b ∈ cs) : back cs H H' b = H b := if_pos h
theorem back_out {b : Addr} (h : b ∉ cs) : back cs H H' b = H' b := if_neg h
theorem CellsO.ne {b : Addr} {o : HO} (C : CellsO H cs) (e : H b = some o) (n : ∀ φ, o ≠ .ext φ) : b ∉ cs := fun z => by
  obtain ⟨v, q⟩ := C b z
  rw [q] at e
  exact n _ (Option.some.inj e).symm
theorem CellsO.free {b : Addr} (C : CellsO H cs) (e : H b = none) : b ∉ cs := fun z => by
  obtain ⟨v, q⟩ := C b z
  rw [q] at e
  cases e
theorem hok_ers (C : CellsO H cs) (k : HOk P w H h) : HOk P w (ers cs H) h := fun a o e => by
  have na : a ∉ cs := fun z => by rw [ers_in z] at e; cases e
  rw [ers_out na] at e
  refine objOk_imp (fun b xs q => ?_) (fun b x q => ?_) (k a o e)
  · rw [ers_out (C.ne q fun φ z => by cases z)]; exact q
  · rw [ers_out (C.ne q fun φ z => by cases z)]; exact q
theorem hok_back (C : CellsO H cs) (hn : ∀ c ∈ cs, H' c = none) (k : HOk P w H' h') (kc : ∀ c ∈ cs, ∀ o, H c = some o → ObjOk P w H h' c o) : HOk P w (back cs H H') h' := fun a o e => by
  by_cases z : a ∈ cs
  · rw [back_in z] at e
    obtain ⟨v, q⟩ := C a z
    have x := kc a z o e
    rw [q] at e
    cases e
    exact x
  · rw [back_out z] at e
    refine objOk_imp (fun b xs q => ?_) (fun b x q => ?_) (k a o e)
    · rw [back_out fun z => by rw [hn b z] at q; cases q]; exact q
    · rw [back_out fun z => by rw [hn b z] at q; cases q]; exact q
/-- what a run beside the cells leaves, with the cells put back -/
theorem un_back {fs : List Addr} (C : CellsO H cs) (u : Un fs [] (ers cs H) H' h h') : Un fs [] H (back cs H H') h h' where
  keep := fun b o e n hf hx => u.keep b o e (by rw [ers_out (C.free n)]; exact n) hf hx
  slot := fun b o e n hf hx => u.slot b o e (by rw [ers_out (C.free n)]; exact n) hf hx
  free := fun b o e n hx => by rw [back_out (C.free n)]; exact u.free b o e (by rw [ers_out (C.free n)]; exact n) hx
  there := u.there
  tups := fun b xs e => by
    have n := C.ne e fun φ z => by cases z
    rw [back_out n]; exact u.tups b xs (by rw [ers_out n]; exact e)
  frzs := fun b o x e => by
    have n := C.ne e fun φ z => by cases z
    rw [back_out n]; exact u.frzs b o x (by rw [ers_out n]; exact e)
  tbls := fun b ps e => by
    have n := C.ne e fun φ z => by cases z
    rw [back_out n]; exact u.tbls b ps (by rw [ers_out n]; exact e)
/-- the cells' objects after such a run -/
theorem cells_kept {fs : List Addr} (C : CellsO H cs) (k : HOk P w H h) (hf : ∀ c ∈ cs, c ∉ fs) (u : Un fs [] (ers cs H) H' h h') : (∀ c ∈ cs, H' c = none) ∧ ∀ c ∈ cs, ∀ o, H c = some o → ObjOk P w H h' c o := by
  refine ⟨fun c hc => ?_, fun c hc o e => ?_⟩
  · obtain ⟨v, q⟩ := C c hc
    obtain ⟨_, ⟨o, ho⟩, _⟩ := k c _ q
    exact u.free c o ho (ers_in hc) (by simp)
  · obtain ⟨v, q⟩ := C c hc
    rw [q] at e
    cases e
    obtain ⟨x, ⟨o, ho⟩, st⟩ := k c _ q
    have kp := u.keep c o ho (ers_in hc) (hf c hc) (by simp)
    have s2 : ∀ o, h.get? c = some o → h'.get? c = some o := fun o2 e2 => by
      rw [ho] at e2; cases e2; exact kp
    exact ⟨st h h' x s2, ⟨o, kp⟩, st⟩
end
/-- the def at f that captured the cells cs, with what they hold -/
structure CloAt (H : Hp) (f : Addr) (F : NF) (fr : List Str) (cs : List Addr) (ws : List V) : Prop where
  fn : H f = some (FnO f F)
  co : H F.c = some (CodeO F.c F.qual)
  len : ws.length = fr.length
  cells : CellsO H cs
  inC : ∀ y c, F.cl.lookup y = some c → c ∈ cs
  inj : ∀ x y c, F.cl.lookup x = some c → F.cl.lookup y = some c → x = y
  has : ∀ (i : Nat) (y : Str) (v : V), fr[i]? = some y → ws[i]? = some v → ∃ c, F.cl.lookup y = some c ∧ H c = some (CellO c v)
theorem CloAt.up {H H' : Hp} {f : Addr} {F : NF} {fr : List Str} {cs : List Addr} {ws : List V} (c : CloAt H f F fr cs ws) (s : Same H H') : CloAt H' f F fr cs ws where
  fn := s _ _ c.fn
  co := s _ _ c.co
  len := c.len
  cells := fun a ha => let ⟨v, e⟩ := c.cells a ha; ⟨v, s _ _ e⟩
  inC := c.inC
  inj := c.inj
  has := fun i y v e1 e2 => let ⟨a, h1, h2⟩ := c.has i y v e1 e2; ⟨a, h1, s _ _ h2⟩
section
variable {CX : CXT} {P : Program} {w : World} {K : PySem.W.Frag} {mg : Str → Option Value} {base : Heap} {ps fr : List Str} {F : NF} {f : Addr} {k : Nat} {sp : List (Option V) → Sp} {A : Around} {outer : List Env} {s : Shared} {H : Hp} {E : XK} {us : List Value} {vs ws : List V} {cs : List Addr} {Q : VK}
theorem cellO_at {h : Heap} {c : Addr} {v : V} (k : HOk P w H h) (e : H c = some (CellO c v)) : ∃ u, L2.RelV v u ∧ h.IsCell c (some u) := (k c _ e).1
theorem cell_nofn {h : Heap} (k : HOk P w H h) (C : CellsO H cs) {F : NF} (e : H f = some (FnO f F)) : f ∉ cs := fun z => by
  obtain ⟨v, q⟩ := C f z
  obtain ⟨u, _, o, ho, hd⟩ := cellO_at k q
  obtain ⟨od, sl, doc, pm, ctv, h1⟩ := fnO_at k e
  rw [ho] at h1
  cases h1
  cases hd
theorem cell_noco {h : Heap} (k : HOk P w H h) (C : CellsO H cs) {c : Addr} {q : Str} (e : H c = some (CodeO c q)) : c ∉ cs := fun z => by
  obtain ⟨v, qq⟩ := C c z
  obtain ⟨u, _, o, ho, hd⟩ := cellO_at k qq
  obtain ⟨c2, oc, vs, t, e2, h1, h2, h3⟩ := codeO_at k e
  cases e2
  rw [ho] at h1
  cases h1
  rw [hd] at h2
  cases h2
theorem run_clo (o : NOk P w K mg base CX k f F ps fr sp) (hCX : ∀ H e s', CX outer H s (fun _ _ _ => False) e s' → False) (hr : Room k A) (e0 : Env0 P w K mg base A outer s H) (c : CloAt H f F fr cs ws) (r : Vals vs us)
    (q : sp (ws.map some) vs (ers cs H) (fun v H' => (∀ c ∈ cs, H' c = none) → Q v (back cs H H')) fun _ _ _ => False) : codeAny (model P w) A (.call (.ref f) ⟨us, []⟩) (CR CX outer P w H s Q E) s := by
  have nn : ∀ b, H b = none → ers cs H b = none := fun b e => by rw [ers_out (c.cells.free e)]; exact e
  have nf : ∀ a ∈ cs, a ∉ frs outer := fun a ha hb => by
    obtain ⟨v, e⟩ := c.cells a ha
    rw [e0.frf a hb] at e
    cases e
  have e1 : Env0 P w K mg base A outer s (ers cs H) := ⟨e0.frames, e0.mod, fun b o e => ⟨(e0.bs b o e).1, nn b (e0.bs b o e).2⟩, e0.bsz, e0.funs, fun b hb => nn b (e0.frf b hb), hok_ers c.cells e0.hok, e0.bare⟩
  have f1 : ers cs H f = some (FnO f F) := by rw [ers_out (cell_nofn e0.hok c.cells c.fn)]; exact c.fn
  have f2 : ers cs H F.c = some (CodeO F.c F.qual) := by rw [ers_out (cell_noco e0.hok c.cells c.co)]; exact c.co
  have C : CellsAt F.cl fr (ws.map some) s.heap (ers cs H) := by
    refine ⟨by rw [List.length_map]; exact c.len, fun y a e => ⟨ers_in (c.inC y a e), ?_⟩, c.inj, fun i y e => ?_⟩
    · obtain ⟨v, h⟩ := c.cells a (c.inC y a e)
      obtain ⟨u, _, h2⟩ := cellO_at e0.hok h
      exact ⟨_, h2⟩
    · have li : i < ws.length := by
        rw [c.len]
        exact (List.getElem?_eq_some_iff.mp e).1
      obtain ⟨a, h1, h2⟩ := c.has i y _ e (List.getElem?_eq_getElem li)
      refine ⟨a, h1, fun v hv => ?_⟩
      rw [List.getElem?_map, List.getElem?_eq_getElem li] at hv
      cases hv
      exact cellO_at e0.hok h2
  refine codeAny_mono (o.run A outer s (ers cs H) us vs _ _ _ hr e1 f1 f2 C r q) fun r s' hq => ?_
  cases r with
  | error e => exact (hCX _ e s' hq).elim
  | ok fl =>
    cases fl with
    | ret u =>
      obtain ⟨v, H', os, bare, un, hok, rv, q⟩ := hq
      obtain ⟨k1, k2⟩ := cells_kept c.cells e0.hok nf un
      exact ⟨v, back cs H H', os, bare, un_back c.cells un, hok_back c.cells k1 hok k2, rv, q k1⟩
    | next => exact False.elim hq
    | brk => exact False.elim hq
    | cont => exact False.elim hq
end
/-! ### the maker -/
theorem zip_lk : ∀ {cs : List Addr} {vs : List V} {i : Nat} {c : Addr} {v : V}, cs.Nodup → cs[i]? = some c → vs[i]? = some v → (cs.zip vs).lookup c = some v
  | [], _, _, _, _, _, h, _ => by simp at h
  | _ :: _, [], _, _, _, _, _, h => by simp at h
  | a :: cs, x :: vs, 0, c, v, nd, h1, h2 => by
    simp at h1 h2
    subst h1; subst h2
    rw [List.zip_cons_cons, List.lookup_cons, beq_self_eq_true]
  | a :: cs, x :: vs, i + 1, c, v, nd, h1, h2 => by
    have m : c ∈ cs := List.mem_of_getElem? (by simpa using h1)
    have ne : (c == a) = false := by
      rw [beq_eq_false_iff_ne]
      rintro rfl
      exact (List.nodup_cons.mp nd).1 m
    rw [List.zip_cons_cons, List.lookup_cons, ne]
    exact zip_lk (List.nodup_cons.mp nd).2 (by simpa using h1) (by simpa using h2)
theorem zip_no : ∀ {cs : List Addr} {vs : List V} {c : Addr}, c ∉ cs → (cs.zip vs).lookup c = none
  | [], _, _, _ => rfl
  | _ :: _, [], _, _ => rfl
  | a :: cs, x :: vs, c, h => by
    have ne : (c == a) = false := by
      rw [beq_eq_false_iff_ne]
      rintro rfl
      exact h List.mem_cons_self
    rw [List.zip_cons_cons, List.lookup_cons, ne]
    exact zip_no fun z => h (List.mem_cons_of_mem _ z)
def putC (cs : List Addr) (vs : List V) (H : Hp) : Hp := fun b => match (cs.zip vs).lookup b with
  | some v => some (CellO b v)
  | none => H b
theorem putC_in {cs : List Addr} {vs : List V} {H : Hp} {i : Nat} {c : Addr} {v : V} (nd : cs.Nodup) (h1 : cs[i]? = some c) (h2 : vs[i]? = some v) : putC cs vs H c = some (CellO c v) := by
  unfold putC
  rw [zip_lk nd h1 h2]
theorem putC_out {cs : List Addr} {vs : List V} {H : Hp} {c : Addr} (h : c ∉ cs) : putC cs vs H c = H c := by
  unfold putC
  rw [zip_no h]
theorem putC_up {cs : List Addr} {vs : List V} {H : Hp} (n : ∀ c ∈ cs, H c = none) : Same H (putC cs vs H) := fun b o e => by
  rw [putC_out fun z => by rw [n b z] at e; cases e]
  exact e
/-- what a maker tells: the def made, with what it captured -/
def spM (T : List NTab) (mk : List (Str × Addr) → Addr → NF) (ps : List Str) : Sp := fun vs H Q _ => vs.length = ps.length ∧ TabsN T H ∧
  ∀ (f c' : Addr) (cl : List (Str × Addr)) (cs : List Addr) (H1 : Hp), ExtN H H1 → (∀ b, H1 b = none → H b = none) → TabsN T H1 → H f = none → CloAt H1 f (mk cl c') ps cs vs → Q (.ref f) H1
theorem un_put {fs : List Addr} {H H1 H2 : Hp} {h h' : Heap} {cs : List Addr} (u : Un fs [] H H1 h h') (n : ∀ c ∈ cs, H1 c = none) (lt : ∀ c ∈ cs, h.objs.size ≤ c) (o : ∀ b, b ∉ cs → H2 b = H1 b) : Un fs [] H H2 h h' where
  keep := u.keep
  slot := u.slot
  free := fun b ob e nn hx => by
    rw [o b fun z => Nat.lt_irrefl _ (Nat.lt_of_lt_of_le (Heap.lt_size e) (lt b z))]
    exact u.free b ob e nn hx
  there := u.there
  tups := fun b xs e => by
    have q := u.tups b xs e
    rw [o b fun z => by rw [n b z] at q; cases q]; exact q
  frzs := fun b ob x e => by
    have q := u.frzs b ob x e
    rw [o b fun z => by rw [n b z] at q; cases q]; exact q
  tbls := fun b pp e => by
    obtain ⟨more, q⟩ := u.tbls b pp e
    exact ⟨more, by rw [o b fun z => by rw [n b z] at q; cases q]; exact q⟩
/-- THE RULE: a def that makes a def of its own out of all its parameters, and returns it -/
theorem fn_mk {CX : CXT} {P : Program} {w : World} {K : PySem.W.Frag} {mg : Str → Option Value} {base : Heap} {k : Nat} {f : Addr} {name qual : Str} {params : Arguments} {body : List Stmt} {scope nsc : Scope} {dV kV doc pm cdv ct oc : Value} {an od : Option Addr}
    {osl : Array (Option Value)} {N ps : List Str} {T : List NTab} {mk : List (Str × Addr) → Addr → NF} {st : Stmt} {x : Str} {p1 pos : Pos} {i : Nat}
    (lk : K.lookup f = some ⟨oc, od, .func (PySem.W.fnOf name qual params body scope dV kV doc pm an cdv ct), osl⟩) (hcd : PySem.W.codeIn K cdv qual = true) (S : FnScope N ps scope)
    (hb : body = [st, .Return (some (.Name x p1)) pos]) (hi : N[i]? = some x) (il : ps.length ≤ i) (hv : Vis scope x) (hd : (x == ("__debug__" : Str)) = false) (hcdd : (x == ("__classdict__" : Str)) = false)
    (hcell : ∀ y ∈ ps, scope.names.lookup y = some .cell) (fr1 : ∀ y ∈ ps, (y, NameKind.free) ∈ nsc.names) (fr2 : ∀ y ∈ nsc.names, y.2 = .free → y.1 ∈ ps) (hcl : ∀ cl c', (mk cl c').cl = cl) (hq : ∀ cl c' cl', (mk cl c').qual = (mk cl' c').qual) (hc : ∀ cl c', (mk cl c').c = c')
    (hst : ∀ (A : Around) (outer : List Env) (s : Shared) (H : Hp) (E : XK), PS (cxOf CX P w K mg base N qual scope f cdv A outer s H E) st (tNdefM T i fun c' => mk (cloFrom (cxOf CX P w K mg base N qual scope f cdv A outer s H E).env.cells nsc.names []) c')) :
    FnOk P w K mg base CX (k + 1) f (PySem.W.fnOf name qual params body scope dV kV doc pm an cdv ct) ps (spM T mk ps) := by
  refine ⟨fun vs H Q E h => h.1, fun A outer s H args us vs Q E hr e0 hbi r hsp => ?_⟩
  obtain ⟨hl, hT, hsp⟩ := hsp
  have KX : K.In s.heap := e0.mod.kin.keeps fun b o e => (e0.bs b o e).1
  have lim : s.heap.NoLimit := e0.mod.nolimit.keeps fun b o e => (e0.bs b o e).1
  have hkind : ∀ y ∈ ps.zip us, scope.names.lookup y.1 = some .local ∨ (scope.names.lookup y.1 = some .cell ∧ ((cellsFrom (s.heap.objs.size + 1) scope.names []).lookup y.1).isSome = true) := fun ⟨n, v⟩ hy => by
    rcases S.par n (List.of_mem_zip hy).1 with q | q
    · exact .inl q
    · exact .inr ⟨q, PySem.W.cellsFrom_some _ _ _ (.inl q)⟩
  refine codeAny_call_function hr.depth (KX _ _ lk) rfl S.co S.gen rfl (PySem.W.codeRec_of KX hcd) (hbi _ _ _ _ ?_)
  refine wpAny_newFunctionEnv_cells S.kind hkind fun env he s1 xc => ?_
  subst he
  refine ⟨lim.keeps xc.toInCall.keep, codeAny_func ?_⟩
  have I : Inv (cxOf CX P w K mg base N qual scope f cdv A outer s H E) [] (start N vs) H s1 := inv_start S hr.hd e0 hl r xc
  rw [hb]
  refine wpAny_mono (wpAny_execs_cons (thn ((hst A outer s H E).run [] s1 (start N vs) H { nx := fun σ H' => ∃ f1 c', σ = (start N vs).set i (some (.ref f1)) ∧ ExtN H H' ∧ (∀ b, H' b = none → H b = none) ∧ TabsN T H' ∧ H f1 = none ∧ H' f1 = some (FnO f1 (mk (cloFrom (cxOf CX P w K mg base N qual scope f cdv A outer s H E).env.cells nsc.names []) c')) ∧ H' c' = some (CodeO c' (mk (cloFrom (cxOf CX P w K mg base N qual scope f cdv A outer s H E).env.cells nsc.names []) c').qual), rt := fun _ _ => False } I ⟨hT, fun f1 c' H' a1 a2 a3 a4 a5 a6 => ⟨f1, c', rfl, a1, a2, a3, a4, a5, a6⟩⟩) fun fl s2 q => ?_)) (fun fl s' hs => hs) fun e s' hs => hs
  have fin : ∀ {H1 : Hp} {s3 : Shared} {f1 c' : Addr}, Inv (cxOf CX P w K mg base N qual scope f cdv A outer s H E) [] ((start N vs).set i (some (.ref f1))) H1 s3 → ExtN H H1 → (∀ b, H1 b = none → H b = none) → TabsN T H1 → H f1 = none → H1 f1 = some (FnO f1 (mk (cloFrom (cxOf CX P w K mg base N qual scope f cdv A outer s H E).env.cells nsc.names []) c')) → H1 c' = some (CodeO c' (mk (cloFrom (cxOf CX P w K mg base N qual scope f cdv A outer s H E).env.cells nsc.names []) c').qual) → CE outer P w H s Q (.ref f1) s3 := by
    intro H1 s3 f1 c' J a1 a2 a3 a4 a5 a6
    obtain ⟨cells, hcells⟩ : ∃ cells, (cxOf CX P w K mg base N qual scope f cdv A outer s H E).env.cells = cells := ⟨_, rfl⟩
    rw [hcells] at a5 a6
    have hx : ∀ y ∈ ps, ∃ c, cells.lookup y = some c := fun y hy => by rw [← hcells]; exact cell_has (hcell y hy)
    have hfree : ∀ y ∈ nsc.names, y.2 = .free → ∃ c, cells.lookup y.1 = some c := fun y hy e => hx _ (fr2 y hy e)
    obtain ⟨cs, hcs⟩ : ∃ cs, ps.map (fun y => (cells.lookup y).getD 0) = cs := ⟨_, rfl⟩
    have csi : ∀ (j : Nat) (y : Str), ps[j]? = some y → ∃ c, cells.lookup y = some c ∧ cs[j]? = some c := fun j y e => by
      obtain ⟨c, hc⟩ := hx y (List.mem_of_getElem? e)
      refine ⟨c, hc, ?_⟩
      rw [← hcs, List.getElem?_map, e]
      show some ((cells.lookup y).getD 0) = _
      rw [hc]; rfl
    have mem : ∀ c ∈ cs, ∃ (j : Nat) (y : Str) (v : V), ps[j]? = some y ∧ cells.lookup y = some c ∧ cs[j]? = some c ∧ vs[j]? = some v := fun c hc => by
      obtain ⟨j, hj⟩ := List.mem_iff_getElem?.mp hc
      have hj' := hj
      rw [← hcs, List.getElem?_map] at hj'
      cases hy : ps[j]? with
      | none => rw [hy] at hj'; cases hj'
      | some y =>
        obtain ⟨c2, h1, h2⟩ := csi j y hy
        rw [hj] at h2
        cases h2
        have lj : j < vs.length := by rw [hl]; exact (List.getElem?_eq_some_iff.mp hy).1
        exact ⟨j, y, _, hy, h1, hj, List.getElem?_eq_getElem lj⟩
    have n1 : ∀ c ∈ cs, H1 c = none := fun c hc => by
      obtain ⟨j, y, v, h1, h2, h3, h4⟩ := mem c hc
      exact J.freeC y c (by rw [hcells]; exact h2)
    have lt : ∀ c ∈ cs, s.heap.objs.size ≤ c := fun c hc => by
      obtain ⟨j, y, v, h1, h2, h3, h4⟩ := mem c hc
      exact J.ok.cab y c rfl (by rw [hcells]; exact h2)
    have ndP : ps.Nodup := by rw [← S.pre]; exact S.nd.sublist (List.take_sublist _ _)
    have nd : cs.Nodup := by
      rw [← hcs]
      refine List.pairwise_map.mpr (ndP.imp_of_mem fun {a b} ha hb ne e => ne ?_)
      obtain ⟨c, h1⟩ := hx a ha
      obtain ⟨c2, h2⟩ := hx b hb
      rw [h1, h2] at e
      have e : c = c2 := e
      subst e
      exact J.ok.inj a b c (by rw [hcells]; exact h1) (by rw [hcells]; exact h2)
    have up : Same H1 (putC cs vs H1) := putC_up n1
    have hok2 : HOk P w (putC cs vs H1) s3.heap := fun a o e => by
      by_cases z : a ∈ cs
      · obtain ⟨j, y, v, h1, h2, h3, h4⟩ := mem a z
        rw [putC_in nd h3 h4] at e
        cases e
        obtain ⟨m, hn, hlk⟩ := J.loc
        have lj : j < ps.length := (List.getElem?_eq_some_iff.mp h1).1
        have hN : N[j]? = some y := by
          rw [← S.pre, List.getElem?_take_of_lt lj] at h1; exact h1
        have hσ : ((start N vs).set i (some (.ref f1)))[j]? = some (some v) := by
          rw [List.getElem?_set_ne (by omega)]
          unfold L2.start
          rw [List.getElem?_append_left (by rw [List.length_map]; omega), List.getElem?_map, h4]
          rfl
        have kd := hcell y (List.mem_of_getElem? h1)
        obtain ⟨u, rv, l⟩ := hlk j y v hN hσ (.inr (.inl kd))
        rcases l with ⟨q, _⟩ | ⟨_, c2, q1, q2⟩
        · have q : scope.names.lookup y = some .local := q
          rw [kd] at q
          cases q
        · rw [hcells, h2] at q1
          cases q1
          obtain ⟨ob, ho, hd2⟩ := q2
          exact ⟨⟨u, rv, ob, ho, hd2⟩, ⟨ob, ho⟩, fun g1 g2 ⟨u, ru, o2, k1, k2⟩ st2 => ⟨u, ru, o2, st2 _ k1, k2⟩⟩
      · rw [putC_out z] at e
        exact objOk_imp (fun b xs q => up _ _ q) (fun b x q => up _ _ q) (J.hok a o e)
    refine ⟨.ref f1, putC cs vs H1, J.os, J.bare, un_put J.base n1 lt fun b hb => putC_out hb, hok2, rfl, hsp f1 c' (cloFrom cells nsc.names []) cs _ (fun b o e nt => up _ _ (a1 b o e nt)) (fun b e => a2 b ?_) (a3.ext up) a4 ?_⟩
    · by_cases z : b ∈ cs
      · exact n1 b z
      · rwa [putC_out z] at e
    · refine ⟨up _ _ a5, by rw [hc]; exact up _ _ a6, hl, fun c hc => ?_, fun y c e => ?_, fun x y c e1 e2 => ?_, fun j y v e1 e2 => ?_⟩
      · obtain ⟨j, y, v, h1, h2, h3, h4⟩ := mem c hc
        exact ⟨v, putC_in nd h3 h4⟩
      · rw [hcl] at e
        have h1 := clo_cm hfree e
        rcases cloFrom_mem (PySem.mem_of_lookup e) with z | ⟨z, _⟩
        · cases z
        · obtain ⟨j, hj⟩ := List.mem_iff_getElem?.mp (fr2 _ z rfl)
          obtain ⟨c2, h2, h3⟩ := csi j y hj
          rw [h1] at h2
          cases h2
          exact List.mem_of_getElem? h3
      · rw [hcl] at e1 e2
        exact J.ok.inj x y c (by rw [hcells]; exact clo_cm hfree e1) (by rw [hcells]; exact clo_cm hfree e2)
      · obtain ⟨c, h1, h2⟩ := csi j y e1
        refine ⟨c, ?_, putC_in nd h2 e2⟩
        rw [hcl]
        exact clo_has hfree (fr1 y (List.mem_of_getElem? e1)) h1
  cases fl with
  | next =>
    obtain ⟨σ1, H1, J, f1, c', rfl, a1, a2, a3, a4, a5, a6⟩ := q
    have len : i < (start N vs).length := by rw [show (start N vs).length = N.length from I.len]; exact (List.getElem?_eq_some_iff.mp hi).1
    refine wpAny_execs_cons (wpAny_Return_some (thn ((pe_var (X := cxOf CX P w K mg base N qual scope f cdv A outer s H E) (pos := p1) hi hv hd hcdd).run [] s2 _ H1 (fun v H' => v = .ref f1 ∧ H' = H1) J ⟨.ref f1, List.getElem?_set_self len, rfl, rfl⟩) fun u s3 ⟨v, H2, J3, r3, q3⟩ => ?_))
    obtain ⟨rfl, rfl⟩ := q3
    obtain rfl : u = Value.ref f1 := r3
    exact fin J3 a1 a2 a3 a4 a5 a6
  | ret u =>
    obtain ⟨_, _, _, _, _, q⟩ := q
    exact q.elim
  | brk =>
    obtain ⟨_, _, _, q⟩ := q
    exact False.elim q
  | cont =>
    obtain ⟨_, _, _, q⟩ := q
    exact False.elim q
/-! ### what the def made promises -/
def spN (K : PySem.W.Frag) (mg : Str → Option Value) (fn : List D → Option R) (n : Nat) : List (Option V) → Sp := fun ws vs H Q E => vs.length = n ∧ ∃ wv : List V, ws = wv.map some ∧ spF K mg fn (vs ++ wv) H Q E
theorem startF_is {N : List Str} {vs wv : List V} : startF N vs (wv.map some) = L2.start N (vs ++ wv) := by
  unfold startF L2.start
  rw [List.map_append, List.append_assoc, List.length_map, List.length_append, Nat.sub_sub]
theorem nok_ok {P : Program} {w : World} {K : PySem.W.Frag} {mg : Str → Option Value} {base : Heap} {N ps fr : List Str} {F : NF} {f : Addr} {k : Nat} {wb : SF} {fn : List D → Option R} (S : NScope N ps fr F.scope) (hbd : ∀ (doc pm ctv : Value) (us : List Value), us.length = ps.length → bindArgs (F.fd doc pm ctv) ⟨us, []⟩ = pure (ps.zip us))
    (hb : ∀ (A : Around) (outer : List Env) (s : Shared) (H F0 : Hp) (E : XK) (X : Cx), X = ncx (L2.CX P w) P w K mg base N F f A outer s H E → Room k X.A → Fit X ⟨K, mg, F0, H, fun cls d _ H => E cls d H, false⟩ → PSs X F.body (lS ⟨K, mg, F0, H, fun cls d _ H => E cls d H, false⟩ wb))
    (hw : Does N.length wb fn) : NOk P w K mg base (L2.CX P w) (k + 1) f F ps fr (spN K mg fn ps.length) := by
  refine nok_of S hbd (fun ws vs H Q E h => h.1) fun A outer s H vs ws Q E hr _ _ _ h => ?_
  obtain ⟨hl, wv, rfl, F0, ds, s0, r, h⟩ := h
  refine ⟨_, hb A outer s H F0 E _ rfl hr ⟨rfl, rfl, takes_of rfl rfl rfl rfl, fun _ => rfl, passes_of rfl⟩, ?_⟩
  rw [startF_is]
  cases e : fn ds with
  | none => rw [e] at h; exact h.elim
  | some q =>
    rw [e] at h
    refine ⟨_, F0, _, good_start s0 r, hw ds q e, ?_⟩
    refine ⟨fun σ ρ F1 H1 g t z => ?_, fun σ ρ F1 H1 v sv g t q' z => ?_, fun _ _ _ _ _ _ z => z.elim, fun _ _ _ _ _ _ z => z.elim, fun σ ρ F1 H1 y p cls d g t xr z => ?_⟩
    · have z : q = .ok (.d .non) := z
      subst z
      exact h .non F1 H1 g.f0 g.fh g.h0 g.nw .non
    · have z : q = .ok sv := z
      subst z
      exact h v F1 H1 g.f0 g.fh g.h0 g.nw q'
    · have z : q = .ex y p := z
      subst z
      exact h H1 cls d g.h0 xr
/-! ### the call -/
/-- what is tracked but for what is told by a property -/
def Plain (F F' : Hp) : Prop := ∀ b o, F b = some o → (∀ φ, o ≠ .ext φ) → (∀ ps, o ≠ .tbl ps) → F' b = some o
theorem sqT_plain {K : PySem.W.Frag} {F F' : Hp} {a : Addr} {xs : List V} (s : Plain F F') (h : SqT K F a xs) : SqT K F' a xs := by
  rcases h with (h | ⟨o, h⟩) | h
  · exact .inl (.inl (s _ _ h (fun φ z => by cases z) fun φ z => by cases z))
  · exact .inl (.inr ⟨o, s _ _ h (fun φ z => by cases z) fun φ z => by cases z⟩)
  · exact .inr h
theorem sqL_plain {K : PySem.W.Frag} {F F' : Hp} {a : Addr} {xs : List V} (s : Plain F F') (h : SqL K F a xs) : SqL K F' a xs := by
  rcases h with (h | ⟨o, h⟩) | h
  · exact .inl (.inl (s _ _ h (fun φ z => by cases z) fun φ z => by cases z))
  · exact .inl (.inr ⟨o, s _ _ h (fun φ z => by cases z) fun φ z => by cases z⟩)
  · exact .inr h
theorem box_plain {K : PySem.W.Frag} {F F' : Hp} {t : Tg} {a : Addr} {vs : List V} (s : Plain F F') (h : BoxAt K F t a vs) : BoxAt K F' t a vs := by
  cases t with
  | dic ks => exact ⟨s _ _ h.1 (fun φ z => by cases z) (fun φ z => by cases z), h.2⟩
  | ins c fs => exact ⟨let ⟨dx, e⟩ := h.1; ⟨dx, s _ _ e (fun φ z => by cases z) fun φ z => by cases z⟩, h.2⟩
mutual
theorem Rep.plain {K : PySem.W.Frag} {F F' : Hp} (s : Plain F F') : ∀ (d : D) (v : V), Rep K F d v → Rep K F' d v
  | .non, _, h => by cases h; exact .non
  | .bl _, _, h => by cases h; exact .bl _
  | .int _, _, h => by cases h; exact .int _
  | .str _, _, h => by cases h; exact .str _
  | .tup ds, _, h => by cases h with | tup q r => exact .tup (sqT_plain s q) (RepL.plain s ds _ r)
  | .lst ds, _, h => by cases h with | lst q r => exact .lst (s _ _ q (fun φ z => by cases z) fun φ z => by cases z) (RepL.plain s ds _ r)
  | .scr ds, _, h => by cases h with | scr q r => exact .scr (sqL_plain s q) (RepL.plain s ds _ r)
  | .raw _, _, h => by cases h; exact .raw _
  | .box t ds, _, h => by cases h with | box q r => exact .box (box_plain s q) (RepL.plain s ds _ r)
theorem RepL.plain {K : PySem.W.Frag} {F F' : Hp} (s : Plain F F') : ∀ (ds : List D) (vs : List V), RepL K F ds vs → RepL K F' ds vs
  | [], _, h => by cases h; exact .nil
  | d :: ds, _, h => by cases h with | cons a b => exact .cons (Rep.plain s d _ a) (RepL.plain s ds _ b)
end
theorem plain_ers {F : Hp} {cs : List Addr} (C : CellsO F cs) : Plain F (ers cs F) := fun b o e n _ => by
  rw [ers_out (C.ne e n)]; exact e
theorem repL_app {K : PySem.W.Frag} {F : Hp} : ∀ {ds es : List D} {vs ws : List V}, RepL K F ds vs → RepL K F es ws → RepL K F (ds ++ es) (vs ++ ws)
  | [], _, _, _, h, g => by cases h; exact g
  | d :: ds, _, _, _, h, g => by cases h with | cons a b => exact .cons a (repL_app b g)
/-- f(..), f a name that holds the def at f that captured ds -/
noncomputable def eClo (i : Nat) (f : Addr) (ds : List D) (fn : List D → Option R) (ff : AF) : EF := fun ρ => match ρ[i]? with
  | some (some (.d (.raw (.ref g)))) => if g = f then bindL (ff ρ) fun es => (match fn (es ++ ds) with
    | some (.ok (.d y)) => okD y
    | _ => none) else none
  | _ => none
theorem x_clo {X : Cx} {C : FR} {i k j n : Nat} {x : Str} {f : Addr} {F : NF} {ps fr : List Str} {cs : List Addr} {ws : List V} {ds : List D} {fn : List D → Option R} {ff : AF} {e : Expr} {es : List Expr} {p pos : Pos} (ft : Fit X C)
    (o : NOk X.prog X.w X.K X.mg X.base (L2.CX X.prog X.w) k f F ps fr (spN C.K C.mg fn n)) (c : CloAt C.F0 f F fr cs ws) (rd : RepL C.K C.F0 ds ws) (hr : Room j X.A) (hk : k ≤ j) (hN : X.N[i]? = some x) (hv : Vis X.env.scope x) (ha : PA X (e :: es) (lA C ff))
    (len : ∀ ρ es', ff ρ = some (.ok es') → es'.length = n) (hd : (x == ("__debug__" : Str)) = false := by decide) (hcd : (x == ("__classdict__" : Str)) = false := by decide)
    (he : starEach (e :: es) X.env = (false, eval e X.env) :: starEach es X.env := by rfl) (hpl : (backTo pos (starEach es X.env)).any (·.1) = false := by rfl) : PE X (.Call (.Name x p) (e :: es) [] pos) (lE C (eClo i f ds fn ff)) := by
  refine ⟨fun pins s σ H Q I h => ?_⟩
  obtain ⟨ρ, F0, G, h⟩ := h
  have hi : ρ[i]? = some (some (.d (.raw (.ref f)))) ∧ PostE C σ ρ F0 H (bindL (ff ρ) fun es => (match fn (es ++ ds) with
    | some (.ok (.d y)) => okD y
    | _ => none)) Q := by
    unfold eClo at h
    split at h
    · rename_i g hg
      split at h
      · rename_i e1
        subst e1
        exact ⟨hg, h⟩
      · exact h.elim
    · exact h.elim
  obtain ⟨hi, h⟩ := hi
  have hs : σ[i]? = some (some (.ref f)) := by
    obtain ⟨v, h1, h2⟩ := G.at_ i _ hi
    have h2 : Rep C.K F0 (.raw (.ref f)) v := h2
    cases h2
    exact h1
  have cH : ∀ {F1 H1 : Hp}, Good C F1 H1 σ ρ → CloAt H1 f F fr cs ws := fun g => (c.up g.f0).up g.fh
  have hp : PostA C σ ρ F0 H (ff ρ) fun vs H2 => ∃ es' F2, Step C σ ρ F0 H F2 H2 ∧ RepL C.K F2 es' vs ∧ ff ρ = some (.ok es') := by
    cases q : ff ρ with
    | none => rw [q] at h; exact h.elim
    | some r =>
      cases r with
      | ex y z => rw [q] at h; exact h
      | ok es' => exact fun vs F2 H2 st rl => ⟨es', F2, st, rl, rfl⟩
  refine wpAny_Call_Name_kw (thn ((pe_var (pos := p) hN hv hd hcd).run pins s σ H (fun v H1 => v = .ref f ∧ H1 = H) I ⟨.ref f, hs, rfl, rfl⟩) fun u s1 ⟨v, H1, I1, r1, q1⟩ => ?_)
  obtain ⟨ev, eH⟩ := q1
  subst ev
  rw [eH] at I1
  obtain rfl : u = Value.ref f := r1
  refine PySem.W.callWith_F (first := []) (fnAt_of I1 (cH G).fn) (thn (ha.run pos pins s1 σ H _ I1 ⟨ρ, F0, G, hp⟩) fun us s2 ⟨vs, H2, I2, r, es', F2, st, rl, q⟩ => ⟨fnAt_of I2 (cH st.g).fn, ?_⟩) he hpl
  show wpAny _ _ (call (.ref f) us) _ _ _
  rw [q] at h
  have cF : CloAt F2 f F fr cs ws := c.up st.g.f0
  have cG : CloAt H2 f F fr cs ws := cH st.g
  refine wpAny_call (codeAny_mono (run_clo (E := fun _ _ _ => False) (Q := Q) o (fun _ _ _ z => CX_not z) (hr.mono hk) I2.env0 cG r ?_) fun r s' hq => ?_)
  · refine ⟨by rw [← rl.len]; exact len ρ es' q, ws, rfl, ers cs F2, es' ++ ds, fun b o e => ?_, repL_app (RepL.plain (plain_ers cF.cells) _ _ rl) (RepL.plain (plain_ers cF.cells) _ _ (RepL.mono st.g.f0 _ _ rd)), ?_⟩
    · by_cases z : b ∈ cs
      · rw [ers_in z] at e; cases e
      · rw [ers_out z] at e ⊢
        exact st.g.fh b o e
    · have h : PostE C σ ρ F0 H (match fn (es' ++ ds) with
        | some (.ok (.d y)) => okD y
        | _ => none) Q := h
      split at h
      · rename_i y hy
        rw [hy]
        intro v F3 H3 a1 a2 a3 a4 a5 k1
        have n3 : ∀ c ∈ cs, F3 c = none := fun c hc => by
          cases z : F3 c with
          | none => rfl
          | some o => have := a2 c o z; rw [k1 c hc] at this; cases this
        have s1 : Same F2 (back cs F2 F3) := fun b o e => by
          by_cases z : b ∈ cs
          · rw [back_in z]; exact e
          · rw [back_out z]; exact a1 b o (by rw [ers_out z]; exact e)
        have s2 : Same (back cs F2 F3) (back cs H2 H3) := fun b o e => by
          by_cases z : b ∈ cs
          · rw [back_in z] at e ⊢; exact st.g.fh b o e
          · rw [back_out z] at e ⊢; exact a2 b o e
        have s3 : Same H2 (back cs H2 H3) := fun b o e => by
          by_cases z : b ∈ cs
          · rw [back_in z]; exact e
          · rw [back_out z]; exact a3 b o (by rw [ers_out z]; exact e)
        have nw : ∀ b o, back cs F2 F3 b = some o → F2 b = some o ∨ H2 b = none := fun b o e => by
          by_cases z : b ∈ cs
          · rw [back_in z] at e; exact .inl e
          · rw [back_out z] at e
            rcases a4 b o e with q | q
            · rw [ers_out z] at q; exact .inl q
            · rw [ers_out z] at q; exact .inr q
        have up : Same F3 (back cs F2 F3) := fun b o e => by
          rw [back_out fun z => by rw [n3 b z] at e; cases e]; exact e
        have st2 : Step C σ ρ F0 H (back cs F2 F3) (back cs H2 H3) := ⟨st.g.after s1 s2 s3 nw, st.s.trans s1, st.t.trans s3, fun b o e => by
          rcases nw b o e with q | q
          · exact st.gr b o q
          · exact .inr (by
              cases z : H b with
              | none => rfl
              | some o2 => rw [st.t b o2 z] at q; cases q)⟩
        exact h v _ _ st2 (Rep.mono up _ _ a5)
      · exact h.elim
  · cases r with
    | error e => exact (CX_not hq).elim
    | ok fl =>
      cases fl with
      | ret u => exact I2.after hq
      | next => exact False.elim hq
      | brk => exact False.elim hq
      | cont => exact False.elim hq
/-! ### the making, as a step that rebases -/
/-- mover(..): the value is a def just made -/
def tMkE (C : FR) (T : List NTab) (mk : List (Str × Addr) → Addr → NF) (ps : List Str) (ff : AF) : TE := fun σ H Q => ∃ ρ F ds, Good C F H σ ρ ∧ TabsN T H ∧ ff ρ = some (.ok ds) ∧ ds.length = ps.length ∧
  ∀ F1 H1 vs, Step C σ ρ F H F1 H1 → RepL C.K F1 ds vs → ∀ (f c' : Addr) (cl : List (Str × Addr)) (cs : List Addr) (H2 : Hp), ExtN H1 H2 → (∀ b, H2 b = none → H1 b = none) → TabsN T H2 → H1 f = none → CloAt H2 f (mk cl c') ps cs vs → Q (.ref f) H2
theorem x_mkC {X : Cx} {C : FR} {T : List NTab} {mk : List (Str × Addr) → Addr → NF} {k : Nat} {fp : Addr} {fd : FuncData} {ps : List Str} {x : Str} {p pos : Pos} {e : Expr} {es : List Expr} {ff : AF} (ft : Fit X C) (F : FnOk X.prog X.w X.K X.mg X.base (L2.CX X.prog X.w) k fp fd ps (spM T mk ps)) (hr : Room k X.A) (hg : Gl X x) (hm : C.mg x = some (.ref fp))
    (hk : PySem.W.keepIn C.K (.ref fp) = true) (hb : Binds C.K fd ps []) (ha : PA X (e :: es) (lA C ff)) (hdb : (x == ("__debug__" : Str)) = false := by decide) (he : starEach (e :: es) X.env = (false, eval e X.env) :: starEach es X.env := by rfl) (hpl : (backTo pos (starEach es X.env)).any (·.1) = false := by rfl) :
    PE X (.Call (.Name x p) (e :: es) [] pos) (tMkE C T mk ps ff) := by
  refine PE.imp ?_ (pe_callS F hr hg (by rw [ft.mg]; exact hm) (by rw [ft.K]; exact hk) (by rw [ft.K]; exact hb) (fun σ => passAt ft.tk σ) ha hdb he hpl)
  rintro σ H Q ⟨ρ, F0, ds, G, hT, hff, hl, h⟩
  refine ⟨ρ, F0, G, ?_⟩
  rw [hff]
  intro vs F1 H1 st rl
  exact ⟨by rw [← rl.len]; exact hl, hT.ext st.t, fun f c' cl cs H2 a1 a2 a3 a4 a5 => h F1 H1 vs st rl f c' cl cs H2 a1 a2 a3 a4 a5⟩
/-- all but the tables stay -/
theorem CloAt.upN {H H' : Hp} {f : Addr} {F : NF} {fr : List Str} {cs : List Addr} {ws : List V} (c : CloAt H f F fr cs ws) (s : ExtN H H') : CloAt H' f F fr cs ws where
  fn := s _ _ c.fn fun ps z => by unfold FnO at z; cases z
  co := s _ _ c.co fun ps z => by unfold LamX.CodeO at z; cases z
  len := c.len
  cells := fun a ha => let ⟨v, e⟩ := c.cells a ha; ⟨v, s _ _ e fun ps z => by unfold CellO at z; cases z⟩
  inC := c.inC
  inj := c.inj
  has := fun i y v e1 e2 => let ⟨a, h1, h2⟩ := c.has i y v e1 e2; ⟨a, h1, s _ _ h2 fun ps z => by unfold CellO at z; cases z⟩
open Classical in
/-- the frame's tracked part, with the def made, without tables -/
noncomputable def joinC (F H2 : Hp) (f c' : Addr) (cs : List Addr) : Hp := fun b => if b = f ∨ b = c' ∨ b ∈ cs then H2 b else if (∃ ps, F b = some (.tbl ps)) then none else F b
theorem joinC_in {F H2 : Hp} {f c' b : Addr} {cs : List Addr} (h : b = f ∨ b = c' ∨ b ∈ cs) : joinC F H2 f c' cs b = H2 b := if_pos h
theorem joinC_up {F H1 H2 : Hp} {f c' : Addr} {cs : List Addr} (fh : Same F H1) (e : ExtN H1 H2) : ExtN F (joinC F H2 f c' cs) := fun b o h n => by
  by_cases z : b = f ∨ b = c' ∨ b ∈ cs
  · rw [joinC_in z]; exact e b o (fh b o h) n
  · unfold joinC
    rw [if_neg z, if_neg, h]
    rintro ⟨ps, q⟩
    rw [h] at q
    exact n ps (Option.some.inj q)
theorem joinC_sub {F H1 H2 : Hp} {f c' : Addr} {cs : List Addr} (fh : Same F H1) (e : ExtN H1 H2) : Same (joinC F H2 f c' cs) H2 := fun b o h => by
  by_cases z : b = f ∨ b = c' ∨ b ∈ cs
  · rwa [joinC_in z] at h
  · unfold joinC at h
    rw [if_neg z] at h
    split at h
    · cases h
    · rename_i n
      exact e b o (fh b o h) fun ps q => n ⟨ps, by rw [h, q]⟩
theorem rebase {C : FR} {F1 H1 H2 : Hp} {σ : St} {ρ : En} {ds : List D} {vs : List V} {f : Addr} {N : NF} {fr : List Str} {cs : List Addr} {i : Nat} (G : Good C F1 H1 σ ρ) (rl : RepL C.K F1 ds vs) (no : ∀ (j : Nat) xs, ρ[j]? ≠ some (some (.own xs))) (a1 : ExtN H1 H2) (c : CloAt H2 f N fr cs vs) (hi : i < σ.length) :
    Good { C with F0 := joinC F1 H2 f N.c cs, H0 := H2 } (joinC F1 H2 f N.c cs) H2 (σ.set i (some (.ref f))) (ρ.set i (some (.d (.raw (.ref f))))) ∧ CloAt (joinC F1 H2 f N.c cs) f N fr cs vs ∧ RepL C.K (joinC F1 H2 f N.c cs) ds vs ∧ ExtN F1 (joinC F1 H2 f N.c cs) := by
  have up := joinC_up (f := f) (c' := N.c) (cs := cs) G.fh a1
  have pl : Plain F1 (joinC F1 H2 f N.c cs) := fun b o e _ n => up b o e n
  have noS : ∀ (j : Nat) xs, (ρ.set i (some (.d (.raw (.ref f)))))[j]? ≠ some (some (SV.own xs)) := fun j xs e => by
    by_cases z : i = j
    · subst z
      rw [List.getElem?_set_self (by rw [G.len]; exact hi)] at e
      cases e
    · rw [List.getElem?_set_ne z] at e
      exact no j xs e
  refine ⟨⟨joinC_sub G.fh a1, Same.refl _, Same.refl _, fun b o e => .inl e, by rw [List.length_set, List.length_set]; exact G.len, fun j sv e => ?_, fun i1 j1 xs ys a _ e _ _ _ => noS i1 xs e⟩, ?_, RepL.plain pl _ _ rl, up⟩
  · by_cases z : i = j
    · subst z
      rw [List.getElem?_set_self (by rw [G.len]; exact hi)] at e
      cases e
      exact ⟨.ref f, List.getElem?_set_self hi, .raw _⟩
    · cases sv with
      | own xs => exact absurd e (noS j xs)
      | d x =>
        rw [List.getElem?_set_ne z] at e
        obtain ⟨v, h1, h2⟩ := G.at_ j _ e
        exact ⟨v, by rw [List.getElem?_set_ne z]; exact h1, Rep.plain pl _ _ h2⟩
  · refine ⟨by rw [joinC_in (.inl rfl)]; exact c.fn, by rw [joinC_in (.inr (.inl rfl))]; exact c.co, c.len, fun a ha => ?_, c.inC, c.inj, fun j y v e1 e2 => ?_⟩
    · obtain ⟨v, e⟩ := c.cells a ha
      exact ⟨v, by rw [joinC_in (.inr (.inr ha))]; exact e⟩
    · obtain ⟨a, h1, h2⟩ := c.has j y v e1 e2
      exact ⟨a, h1, by rw [joinC_in (.inr (.inr (c.inC y a h1)))]; exact h2⟩
/-- x = mover(..), in a frame whose names hold data: from then on the frame stands on the heap behind it -/
def tMkS (X : Cx) (K : PySem.W.Frag) (mg : Str → Option Value) (T : List NTab) (mk : List (Str × Addr) → Addr → NF) (ps : List Str) (ff : AF) (i : Nat) : TS := fun D σ H => ∃ C ρ F ds, C.K = K ∧ C.mg = mg ∧ Fit X C ∧ Good C F H σ ρ ∧ TabsN T H ∧ (∀ (j : Nat) xs, ρ[j]? ≠ some (some (.own xs))) ∧ ff ρ = some (.ok ds) ∧ ds.length = ps.length ∧ i < σ.length ∧
  ∀ (C' : FR) (F' H' : Hp) (f c' : Addr) (cl : List (Str × Addr)) (cs : List Addr) (vs : List V), C'.K = K → C'.mg = mg → Fit X C' → C'.W = C.W → C'.hot = C.hot → Good C' F' H' (σ.set i (some (.ref f))) (ρ.set i (some (.d (.raw (.ref f))))) → TabsN T H' → CloAt C'.F0 f (mk cl c') ps cs vs → RepL K C'.F0 ds vs → ExtN C.F0 C'.F0 → D.nx (σ.set i (some (.ref f))) H'
theorem s_mk {X : Cx} {K : PySem.W.Frag} {mg : Str → Option Value} {T : List NTab} {mk : List (Str × Addr) → Addr → NF} {ps : List Str} {ff : AF} {i : Nat} {x : Str} {e : Expr} {pos pos' : Pos} (he : ∀ C : FR, C.K = K → C.mg = mg → Fit X C → PE X e (tMkE C T mk ps ff)) (hN : X.N.Nodup) (hi : X.N[i]? = some x) (hx : Loc X.env.scope x) (hs : swapsWith e (some (.Name x pos')) pos.line X.env = pure false := by rfl)
    (hf : X.fn x = true ∨ X.env.scope.names.lookup x = some .local := by first | exact .inl rfl | exact .inr rfl) : PS X (.Assign [.Name x pos'] e pos) (tMkS X K mg T mk ps ff i) := by
  refine ⟨fun pins s σ H D I h => ?_⟩
  obtain ⟨C, ρ, F, ds, k1, k2, ft, G, hT, no, hff, hl, il, h⟩ := h
  refine (ps_set hN hi hx (he C k1 k2 ft) hs hf).run pins s σ H D I ?_
  refine ⟨ρ, F, ds, G, hT, hff, hl, fun F1 H1 vs st rl f c' cl cs H2 a1 a2 a3 a4 a5 => ?_⟩
  obtain ⟨g1, g2, g3, g4⟩ := rebase st.g rl no a1 a5 il
  exact h { C with F0 := joinC F1 H2 f (mk cl c').c cs, H0 := H2 } _ H2 f c' cl cs vs k1 k2 ⟨ft.K, ft.mg, ft.tk, ft.calm, ft.po⟩ rfl rfl g1 a3 g2 (by rw [← k1]; exact g3) fun b o e n => g4 b o (st.g.f0 b o e) n
end PT
/-! PT: a law that makes two defs by one maker, and calls them by turns (k51). -/
namespace PT
open PySem PySem.Spec PyProof.Rows L2 NdefX
open LamX (CodeO ExtN TabB)
theorem lS_nx {C : FR} {w : SF} {ρ ρ1 : En} {σ : L2.St} {F H : Hp} {D : Ends} (h : w (PDnx ρ1) ρ) (G : Good C F H σ ρ) (k : ∀ σ1 F1 H1, Good C F1 H1 σ1 ρ1 → Same F F1 → D.nx σ1 H1) : lS C w D σ H := by
  refine ⟨ρ, F, PDnx ρ1, G, h, fun σ1 r1 F1 H1 g s e => ?_, fun _ _ _ _ _ _ _ _ _ z => z.elim, fun _ _ _ _ _ _ z => z.elim, fun _ _ _ _ _ _ z => z.elim, fun _ _ _ _ _ _ _ _ _ _ _ z => z.elim⟩
  have e : r1 = ρ1 := e
  subst e
  exact k σ1 F1 H1 g s
theorem lS_rt {C : FR} {w : SF} {ρ : En} {σ : L2.St} {F H : Hp} {D : Ends} (h : w (PDrt (.d (.bl true))) ρ) (G : Good C F H σ ρ) (k : ∀ H', D.rt (.bl true) H') : lS C w D σ H := by
  refine ⟨ρ, F, PDrt (.d (.bl true)), G, h, fun _ _ _ _ _ _ z => z.elim, fun σ1 r1 F1 H1 v sv g s r e => ?_, fun _ _ _ _ _ _ z => z.elim, fun _ _ _ _ _ _ z => z.elim, fun _ _ _ _ _ _ _ _ _ _ _ z => z.elim⟩
  have e : sv = .d (.bl true) := e
  subst e
  have r : Rep C.K F1 (.bl true) v := r
  cases r
  exact k H1
/-- the rest of the law's body: both names hold defs that the maker made -/
def tTwo (X : Cx) (K : PySem.W.Frag) (mg : Str → Option Value) (mk : List (Str × Addr) → Addr → NF) (ps : List Str) (wB : Addr → Addr → List D → List D → SF) : TS := fun Z σ H => ∃ (C : FR) (f1 f2 c1 c2 : Addr) (cl1 cl2 : List (Str × Addr)) (cs1 cs2 : List Addr) (d1 d2 : List D) (vs1 vs2 : List V), C.K = K ∧ C.mg = mg ∧ C.hot = false ∧ Fit X C ∧ CloAt C.F0 f1 (mk cl1 c1) ps cs1 vs1 ∧ RepL K C.F0 d1 vs1 ∧ CloAt C.F0 f2 (mk cl2 c2) ps cs2 vs2 ∧ RepL K C.F0 d2 vs2 ∧ lS C (wB f1 f2 d1 d2) Z σ H
theorem pss_two {X : Cx} {K : PySem.W.Frag} {mg : Str → Option Value} {mk : List (Str × Addr) → Addr → NF} {ps : List Str} {wB : Addr → Addr → List D → List D → SF} {rest : List Stmt}
    (hB : ∀ (C : FR) (f1 f2 c1 c2 : Addr) (cl1 cl2 : List (Str × Addr)) (cs1 cs2 : List Addr) (d1 d2 : List D) (vs1 vs2 : List V), C.K = K → C.mg = mg → C.hot = false → Fit X C → CloAt C.F0 f1 (mk cl1 c1) ps cs1 vs1 → RepL C.K C.F0 d1 vs1 → CloAt C.F0 f2 (mk cl2 c2) ps cs2 vs2 → RepL C.K C.F0 d2 vs2 → PSs X rest (lS C (wB f1 f2 d1 d2))) : PSs X rest (tTwo X K mg mk ps wB) :=
  ⟨fun pins s σ H Z I ⟨C, f1, f2, c1, c2, cl1, cl2, cs1, cs2, d1, d2, vs1, vs2, k1, k2, k3, ft, a1, a2, a3, a4, h⟩ => (hB C f1 f2 c1 c2 cl1 cl2 cs1 cs2 d1 d2 vs1 vs2 k1 k2 k3 ft a1 (by rw [k1]; exact a2) a3 (by rw [k1]; exact a4)).run pins s σ H Z I h⟩
/-- what is asked of the law's readings: three statements ahead of the makings, then the rest -/
structure LawTwo (n : Nat) (w1 w2 w3 : SF) (ff1 ff2 : AF) (i1 i2 m : Nat) (wB : Addr → Addr → List D → List D → SF) (ds : List D) : Prop where
  ex : ∃ (ρ1 ρ2 ρ3 : En) (d1 d2 : List D), w1 (PDnx ρ1) (startE n ds) ∧ w2 (PDnx ρ2) ρ1 ∧ w3 (PDnx ρ3) ρ2 ∧ (∀ (j : Nat) xs, ρ3[j]? ≠ some (some (SV.own xs))) ∧ ρ3.length = n ∧ ff1 ρ3 = some (.ok d1) ∧ d1.length = m ∧
    (∀ f : Addr, ff2 (ρ3.set i1 (some (.d (.raw (.ref f))))) = some (.ok d2)) ∧ d2.length = m ∧ ∀ f1 f2 : Addr, wB f1 f2 d1 d2 (PDrt (.d (.bl true))) ((ρ3.set i1 (some (.d (.raw (.ref f1))))).set i2 (some (.d (.raw (.ref f2)))))
theorem two_law {X : Cx} {K : PySem.W.Frag} {mg : Str → Option Value} {C : FR} {T : List NTab} {mk : List (Str × Addr) → Addr → NF} {ps : List Str} {n i1 i2 : Nat} {w1 w2 w3 : SF} {ff1 ff2 : AF} {wB : Addr → Addr → List D → List D → SF} {ds : List D} {σ : L2.St} {F H : Hp} {Z : Ends}
    (k1 : C.K = K) (k2 : C.mg = mg) (k3 : C.hot = false) (ft : Fit X C) (hT : TabsN T C.H0) (G : Good C F H σ (startE n ds)) (h : LawTwo n w1 w2 w3 ff1 ff2 i1 i2 ps.length wB ds) (hi1 : i1 < n) (hi2 : i2 < n) (hQ : ∀ H', Z.rt (.bl true) H') :
    tSeq (lS C w1) (tSeq (lS C w2) (tSeq (lS C w3) (tSeq (tMkS X K mg T mk ps ff1 i1) (tSeq (tMkS X K mg T mk ps ff2 i2) (tTwo X K mg mk ps wB))))) Z σ H := by
  obtain ⟨ρ1, ρ2, ρ3, d1, d2, h1, h2, h3, no, hl, hf1, l1, hf2, l2, hB⟩ := h.ex
  refine lS_nx h1 G fun σ1 F1 H1 G1 s1 => ?_
  refine lS_nx h2 G1 fun σ2 F2 H2 G2 s2 => ?_
  refine lS_nx h3 G2 fun σ3 F3 H3 G3 s3 => ?_
  have hlen : σ3.length = n := by rw [← G3.len, hl]
  refine ⟨C, ρ3, F3, d1, k1, k2, ft, G3, hT.ext G3.h0, no, hf1, l1, by rw [hlen]; exact hi1, fun C' F' H' f1 c1 cl1 cs1 vs1 a1 a2 a3 a4 a5 G4 T4 cA rA e1 => ?_⟩
  have no2 : ∀ (j : Nat) xs, (ρ3.set i1 (some (.d (.raw (.ref f1)))))[j]? ≠ some (some (SV.own xs)) := fun j xs e => by
    by_cases z : i1 = j
    · subst z
      rw [List.getElem?_set_self (by rw [hl]; exact hi1)] at e
      cases e
    · rw [List.getElem?_set_ne z] at e
      exact no j xs e
  refine ⟨C', _, F', d2, a1, a2, a3, G4, T4, no2, hf2 f1, l2, by rw [List.length_set, hlen]; exact hi2, fun C'' F'' H'' f2 c2 cl2 cs2 vs2 b1 b2 b3 b4 b5 G5 T5 cB rB e2 => ?_⟩
  exact ⟨C'', f1, f2, c1, c2, cl1, cl2, cs1, cs2, d1, d2, vs1, vs2, b1, b2, b5.trans (a5.trans k3), b3, cA.upN e2, RepL.plain (fun b o e _ nt => e2 b o e nt) _ _ rA, cB, rB, lS_rt (hB f1 f2) G5 hQ⟩
/-- what such a law is asked to keep -/
def spL (T : List NTab) (K : PySem.W.Frag) (Φ : List D → Prop) (n : Nat) : Sp := fun vs H Q _ => vs.length = n ∧ TabsN T H ∧ ∃ F ds, Same F H ∧ RepL K F ds vs ∧ Φ ds ∧ ∀ H', Q (.bl true) H'
theorem two_ok {P : Program} {w : World} {K : PySem.W.Frag} {mg : Str → Option Value} {base : Heap} {x qual : Str} {params : Arguments} {body : List Stmt} {scope : Scope} {f : Addr} {fd : FuncData} {N qs ps : List Str} {k : Nat} {T : List NTab} {mk : List (Str × Addr) → Addr → NF} {w1 w2 w3 : SF} {ff1 ff2 : AF} {i1 i2 : Nat} {wB : Addr → Addr → List D → List D → SF}
    (F : FunD K x qual params body scope [] [] f fd) (S : FnScope N qs scope) (hi1 : i1 < N.length) (hi2 : i2 < N.length)
    (hb : ∀ (cdv : Value) (A : Around) (outer : List Env) (s : Shared) (H F0 : Hp) (E : XK) (X : Cx), X = cxOf (L2.CX P w) P w K mg base N qual scope f cdv A outer s H E → Room k X.A → ∀ C : FR, C = ⟨K, mg, F0, H, fun cls d _ H => E cls d H, false⟩ → Fit X C →
      PSs X body (tSeq (lS C w1) (tSeq (lS C w2) (tSeq (lS C w3) (tSeq (tMkS X K mg T mk ps ff1 i1) (tSeq (tMkS X K mg T mk ps ff2 i2) (tTwo X K mg mk ps wB))))))) :
    FnOk P w K mg base (L2.CX P w) (k + 1) f fd qs (spL T K (LawTwo N.length w1 w2 w3 ff1 ff2 i1 i2 ps.length wB) qs.length) := by
  refine F.ok S (fun vs H Q E h => h.1) fun cdv A outer s H vs Q E hr h => ?_
  obtain ⟨hl, hT, F0, ds, s0, r, hΦ, hQ⟩ := h
  have ft : Fit (cxOf (L2.CX P w) P w K mg base N qual scope f cdv A outer s H E) ⟨K, mg, F0, H, fun cls d _ H => E cls d H, false⟩ := ⟨rfl, rfl, takes_of rfl rfl rfl rfl, fun _ => rfl, passes_of rfl⟩
  exact ⟨_, hb cdv A outer s H F0 E _ rfl hr _ rfl ft, two_law rfl rfl rfl ft hT (good_start s0 r) hΦ hi1 hi2 hQ⟩
theorem law_endT {l : PySem.W.OpenLaw} {q : Program} {loose : List Str} {XP : (Str → Option Value) → Heap → Prop} {YP : World → Heap → Prop} {d : DefRec} {x : Str} {k : Nat} (Φ : List D → Prop)
    (hm : l.most = some 63) (hdf : d.params.defaults = []) (hr : Room k callerA)
    (F : ∀ (w : World) (mg : Str → Option Value) (fa : Addr) (h : Heap), YP w h → h.Ns mainGlobals mg → mg d.name = some (.ref fa) → ∃ (K : PySem.W.Frag) (fd : FuncData) (cs : List (Addr × Addr)) (T : List NTab), K.In h ∧ (∀ p ∈ cs, h.get? p.2 = some { cls := .none, data := .fields #[] }) ∧ (∀ p ∈ cs, K.lookup p.2 = none) ∧ (∀ p ∈ cs, PySem.W.CodeHd h p.1 p.2) ∧ (∀ p ∈ T, ∃ c, (c, p.1) ∈ cs) ∧ (∀ (s : Shared) (u : Value), BindsTo s fd ⟨[u], []⟩ [(x, u)]) ∧
      ∀ base : Heap, K.In base → base.Ns mainGlobals mg → (∀ p ∈ cs, TabB base mg p.1 p.2) → FnOk l.prog w K mg base (L2.CX l.prog w) k fa fd [x] (spL T K Φ 1))
    (hΦ : ∀ ns : List Int, ns.length ≤ 63 → (∀ n ∈ ns, B 1048577 n) → Φ [.scr (ns.map D.int)]) : PySem.W.WalkO q loose XP YP l.row.toRowW d [] (fun f vs => PySem.call f vs) := by
  refine LamX.walk_ofTsE (CX := fun w => L2.CX l.prog w) (x := x) hm (by rw [sizeLine_eq]; decide) hdf hr ?_ (fun w H s e s' z => CX_not z)
  intro w mg fa h Y hns hmg
  obtain ⟨K, fd, cs, T, KX, hT, nT, C, hTc, hb, hF⟩ := F w mg fa h Y hns hmg
  refine ⟨K, KX, fd, cs, spL T K Φ 1, hT, nT, C, hb, fun H a ns hl hbits hH hS => ?_, hF⟩
  refine ⟨rfl, fun p hp => ?_, H, [.scr (ns.map D.int)], Same.refl H, .cons (.scr hS (RepL.ofInts ns)) .nil, hΦ ns hl fun n hn => bits_B (hbits n hn), fun H' => rfl⟩
  obtain ⟨c, hc⟩ := hTc p hp
  exact TabN.nil (hH _ hc)
theorem lenA1 {f : EF} {ρ : En} {es : List D} (h : aCons f aNil ρ = some (.ok es)) : es.length = 1 := by
  unfold aCons aNil at h
  cases q : f ρ with
  | none => rw [q] at h; cases h
  | some r =>
    rw [q] at h
    cases r with
    | ok sv => cases h; rfl
    | ex x p => cases h
theorem saysP_of {fa : List He.Fa} {fn : List He.DefD} {ex : List (PySem.W.Frag → Bool)} {K : PySem.W.Frag} (c : He.SaysD fa fn K) (e : ex.all (fun e => e K) = true) : SaysP fa fn ex K := by
  have c : He.obsD fa fn K = He.valD fn := c
  unfold SaysP obsP
  rw [c, e]
  rfl
/-- the maker, by its statement -/
theorem maker_ok {P : Program} {w : World} {K : PySem.W.Frag} {mg : Str → Option Value} {base : Heap} {k : Nat} {x qual nx : Str} {params : Arguments} {body : List Stmt} {scope : Scope} {f : Addr} {fd : FuncData} {N ps : List Str} {st : Stmt} {p1 pos pst : Pos} {i : Nat} {at_ : He.Defn}
    (F : FunD K x qual params body scope [] [] f fd) (hat : He.fAd K at_ = f) (S : FnScope N ps scope) (hb : body = [st, .Return (some (.Name nx p1)) pos]) (hst : st = .FunctionDef nx (C8.fnArgs st) (C8.fnBody st) [] none [] (C8.fnScope st) none nx pst)
    (TB : TabB base mg (He.cT K at_).1 (He.cT K at_).2) (hi : N[i]? = some nx) (il : ps.length ≤ i) (hd : (nx == ("__debug__" : Str)) = false) (hcdd : (nx == ("__classdict__" : Str)) = false)
    (hcell : ∀ y ∈ ps, scope.names.lookup y = some .cell) (hloc : scope.names.lookup nx = some .local) (fr1 : ∀ y ∈ ps, (y, NameKind.free) ∈ (C8.fnScope st).names) (fr2 : ∀ y ∈ (C8.fnScope st).names, y.2 = .free → y.1 ∈ ps)
    (hd0 : (C8.fnArgs st).defaults = []) (hk0 : (C8.fnArgs st).kw_defaults = []) (ha : ∀ env : Env, annTrees (C8.fnArgs st) none env = []) (q : Str) (hq : ∀ (n : Nat) (cd : Value), (envOfC qual scope n f cd).qual ++ nx = q) :
    FnOk P w K mg base (L2.CX P w) (k + 1) f fd ps (spM [((He.cT K at_).2, fun _ _ => q)] (NF.of st nx q) ps) := by
  obtain ⟨oc, od, dV, kV, doc, pm, an, cdv, ct, osl, rfl, lk, hcd, _, _⟩ := F.ex
  obtain ⟨c, rfl⟩ := He.codeIn_ref hcd
  have ec : (He.cT K at_).1 = c := He.codeOf_eq (by rw [hat]; exact lk) rfl
  have hfree : ∀ y ∈ (C8.fnScope st).names, y.2 = .free → scope.names.lookup y.1 = some .cell ∨ scope.names.lookup y.1 = some .free := fun y hy e => .inl (hcell _ (fr2 y hy e))
  refine fn_mk (i := i) (nsc := C8.fnScope st) lk hcd S hb hi il (.inl hloc) hd hcdd hcell fr1 fr2 (fun _ _ => rfl) (fun _ _ _ => rfl) (fun _ _ => rfl) fun A outer s H E => ?_
  have r := ps_ndefMS (X := cxOf (L2.CX P w) P w K mg base N qual scope f (.ref c) A outer s H E) (T := [((He.cT K at_).2, fun _ _ => q)]) (nm := fun _ _ => q) (c := c) (P := (He.cT K at_).2) (i := i) hst (by rw [← ec]; exact TB) rfl List.mem_cons_self (hq _ _).symm
    (fun p hp _ => by rw [List.mem_singleton.mp hp]) hfree hd0 hk0 (ha _) S.nd hi (.inl hloc) (.inl rfl)
  rw [show (cxOf (L2.CX P w) P w K mg base N qual scope f (.ref c) A outer s H E).env.qual ++ nx = q from hq _ _] at r
  exact r
end PT
namespace PT
open PySem (Str)
/-- move(spot): slots spot, p, table -/
def w_move : SF := wRet (eCall f_moved (aCons (eVar 1) (aCons (eVar 2) (aCons (eVar 0) (aNil)))))
instance : Det w_move := by unfold w_move; infer_instance
instance : Out w_move := by unfold w_move; infer_instance
noncomputable def f_move : List D → Option R := outF 3 3 w_move
theorem len_move : ∀ ds r, f_move ds = some r → ds.length = 3 := outF_len
theorem does_move : Does 3 w_move f_move := outF_does
/-- law(_law_script): slots _law_script, _law_p, _law_one, _law_other, _law_first, _law_second, _law_k, _law_spot_here, _law_due, _law_far_due -/
def w_law1 : SF := wSet 1 (eCall f__law_prime (aCons (eVar 0) (aNil)))
def w_law2 : SF := wSet 2 (eCall f__law_table (aCons (eVar 0) (aCons (eVar 1) (aCons (eC (.int 1)) (aNil)))))
def w_law3 : SF := wSet 3 (eCall f__law_table (aCons (eVar 0) (aCons (eVar 1) (aCons (eC (.int 6)) (aNil)))))
noncomputable def a_law1 : AF := aCons (eVar 1) (aCons (eVar 2) (aNil))
noncomputable def a_law2 : AF := aCons (eVar 1) (aCons (eVar 3) (aNil))
noncomputable def w_lawB (f1 f2 : PySem.Addr) (d1 d2 : List D) : SF := wSeq (wFor (itA range1L (aCons (eCall max2R (aCons (eC (.int 1)) (aCons (eCall min2R (aCons (eC (.int 10)) (aCons (e2 fdivD (e2 subD (eCall lenR (aCons (eVar 0) (aNil))) (eC (.int 10))) (eC (.int 2))) (aNil)))) (aNil)))) (aNil))) (gN 6) (wSeq (wSet 7 (eCall f__law_spot (aCons (eVar 0) (aCons (eVar 1) (aCons (e2 addD (eC (.int 11)) (e2 mulD (eC (.int 2)) (eVar 6))) (aNil)))))) (wSeq (wSet 8 (eCall f__law_moved (aCons (eVar 1) (aCons (eVar 2) (aCons (eVar 7) (aNil)))))) (wSeq (wSet 9 (eCall f__law_moved (aCons (eVar 1) (aCons (eVar 3) (aCons (eVar 7) (aNil)))))) (wSeq (wIf (cOr (cNot (cT (eCall f__law_is_spot (aCons (eCall f_moved (aCons (eVar 1) (aCons (eVar 2) (aCons (eVar 7) (aNil))))) (aCons (eVar 8) (aNil)))))) (cNot (cT (eCall f__law_is_spot (aCons (eClo 4 f1 d1 f_move (aCons (eVar 7) (aNil))) (aCons (eVar 8) (aNil))))))) (wRet (eC (.bl false))) (wNop)) (wSeq (wIf (cOr (cNot (cT (eCall f__law_is_spot (aCons (eClo 5 f2 d2 f_move (aCons (eVar 7) (aNil))) (aCons (eVar 9) (aNil)))))) (cNot (cT (eCall f__law_is_spot (aCons (eCall f_moved (aCons (eVar 1) (aCons (eVar 3) (aCons (eVar 7) (aNil))))) (aCons (eVar 9) (aNil))))))) (wRet (eC (.bl false))) (wNop)) (wIf (cT (e2 neR (eClo 4 f1 d1 f_move (aCons (eVar 7) (aNil))) (eVar 8))) (wRet (eC (.bl false))) (wNop)))))))) (wRet (eC (.bl true)))

theorem to10 {n : Nat} (hn : n ≤ 63) : ∃ m : Nat, m ≤ 10 ∧ (if (if ((n : Int) - 10) / 2 < 10 then ((n : Int) - 10) / 2 else 10) > 1 then (if ((n : Int) - 10) / 2 < 10 then ((n : Int) - 10) / 2 else 10) else 1) = (m : Int) := by
  refine ⟨(if (if ((n : Int) - 10) / 2 < 10 then ((n : Int) - 10) / 2 else 10) > 1 then (if ((n : Int) - 10) / 2 < 10 then ((n : Int) - 10) / 2 else 10) else 1).toNat, ?_, ?_⟩ <;> (split <;> (try split) <;> omega)
theorem ev_move {p : Int} {T : Tb} {S : Spt} {x : D} (h : f_moved [.int p, tb T, spD S] = okD x) : f_move [spD S, .int p, tb T] = okD x := by
  refine outF_ev rfl ?_
  simp_arith!
  exact z_ret (by simp! [h]) rfl
theorem law_two (ns : List Int) (h : ns.length ≤ 63) (hb : ∀ n ∈ ns, B 1048577 n) : LawTwo 10 w_law1 w_law2 w_law3 a_law1 a_law2 4 5 2 w_lawB [.scr (ns.map D.int)] := by
  obtain ⟨p, hp, pe⟩ := ev__law_prime ns hb
  obtain ⟨T, ⟨tT, dT, rT⟩, te⟩ := ev__law_table ns hb hp 1 (by decide)
  have te : f__law_table [.scr (ns.map D.int), .int p, .int 1] = okD (tb T) := te
  obtain ⟨U, ⟨tU, dU, rU⟩, ue⟩ := ev__law_table ns hb hp 6 (by decide)
  have ue : f__law_table [.scr (ns.map D.int), .int p, .int 6] = okD (tb U) := ue
  refine ⟨[some (.d (.scr (ns.map D.int))), some (.d (.int p)), none, none, none, none, none, none, none, none], [some (.d (.scr (ns.map D.int))), some (.d (.int p)), some (.d (tb T)), none, none, none, none, none, none, none], [some (.d (.scr (ns.map D.int))), some (.d (.int p)), some (.d (tb T)), some (.d (tb U)), none, none, none, none, none, none], [.int p, tb T], [.int p, tb U], ?_, ?_, ?_, ?_, rfl, ?_, rfl, fun f => ?_, rfl, fun f1 f2 => ?_⟩
  · simp_arith!
    exact z_set (v := .int p) (by simp! [pe]) rfl
  · exact z_set (v := tb T) (by simp! [te]) rfl
  · exact z_set (v := tb U) (by simp! [ue]) rfl
  · intro j xs e
    have hm := List.mem_of_getElem? e
    simp at hm
  · unfold a_law1
    simp! []
  · unfold a_law2
    simp_arith!
    simp! []
  simp_arith!
  obtain ⟨m, hm, em⟩ := to10 h
  refine q_forL (ds := rangeD 0 m) (fun ρ => ∃ x6 x7 x8 x9, ρ = [some (.d (.scr (ns.map D.int))), some (.d (.int p)), some (.d (tb T)), some (.d (tb U)), some (.d (.raw (.ref f1))), some (.d (.raw (.ref f2))), x6, x7, x8, x9]) (by dsimp! [len_map, em]; rw [range1_any (by omega) (by omega), Int.toNat_natCast]) ⟨_, _, _, _, rfl⟩ ?_ ?_
  · rintro ρ ⟨x6, x7, x8, x9, rfl⟩
    exact z_ret (by simp! []) rfl
  · rintro d ρ K hd ⟨x6, x7, x8, x9, rfl⟩ hK
    obtain ⟨k, hk, rfl⟩ := mem_rangeD hd
    rw [Int.zero_add]
    refine ⟨_, rfl, ?_⟩
    have bk : Bd (k : Int) 10 := ⟨B.of (by omega) (by omega)⟩
    obtain ⟨_, ⟨S, rfl, hS⟩, se⟩ := ev__law_spot ns hb hp (11 + 2 * k) (by omega)
    have se : f__law_spot [.scr (ns.map D.int), .int p, .int (11 + 2 * k)] = okD (spD S) := by rw [← se]; rfl
    have u1 := ev_mv (n := 135) hp hS rT (by decide) (by decide) (by decide)
    have u2 := ev_mv (n := 135) hp hS rU (by decide) (by decide) (by decide)
    have m1 := ev__law_moved (n := 135) hp hS rT (by decide) (by decide) (by decide)
    have m2 := ev__law_moved (n := 135) hp hS rU (by decide) (by decide) (by decide)
    have k1 := ev_move u1
    have k2 := ev_move u2
    have is1 := ev__law_is_spot (mvS p T S)
    have is2 := ev__law_is_spot (mvS p U S)
    have ne : neR (spD (mvS p T S)) (spD (mvS p T S)) = okB false := by show neR (sp _ _) (sp _ _) = _; rw [neR_sp, sp_self]; rfl
    simp_arith!
    refine q_set (v := spD S) (by simp! [se]) ?_
    simp_arith!
    refine q_set (v := spD (mvS p T S)) (by simp! [m1]) ?_
    simp_arith!
    refine q_set (v := spD (mvS p U S)) (by simp! [m2]) ?_
    simp_arith!
    refine q_ifN (t := false) (by simp! [u1, is1, eClo, eq_self, k1]) (fun z => by cases z) fun _ => ?_
    refine q_ifN (t := false) (by simp! [u2, is2, eClo, eq_self, k2]) (fun z => by cases z) fun _ => ?_
    exact z_if (t := false) (by simp! [eClo, eq_self, k1, ne]) (fun z => by cases z) fun _ => hK _ ⟨_, _, _, _, rfl⟩
end PT
namespace PL
open PySem PySem.Spec PyProof.Rows L2 PT
theorem _root_.PT.Fit.blkC {X : Cx} {C : FR} (ft : Fit X C) (s : Shared) (H : Hp) (scope : Scope) (cl : List (Str × Addr)) (Ca : Addr) (fp : List Addr) : Fit (X.blk s H scope (compEnvC scope cl Ca X.env) fp) C.blk := ft.blk s H _ _ fp
/-! ### the text -/
def top (i : Nat) : Stmt := PySem.Challenge.pw_primetree_k51_spots_moved.main.body.getD i (.Pass ⟨0, 0, 0, 0⟩)
abbrev s_shared : Stmt := top 4
abbrev s_power_of : Stmt := top 5
abbrev s_raised : Stmt := top 6
abbrev s_over_by : Stmt := top 7
abbrev s_fraction : Stmt := top 10
abbrev s_plus : Stmt := top 11
abbrev s_minus : Stmt := top 12
abbrev s_times : Stmt := top 13
abbrev s_over : Stmt := top 14
abbrev s_power_in : Stmt := top 15
abbrev s_prime_power : Stmt := top 16
abbrev s_rest_by : Stmt := top 17
abbrev s_measure : Stmt := top 19
abbrev s_product : Stmt := top 20
abbrev s_least_power : Stmt := top 24
abbrev s_spot_of : Stmt := top 25
abbrev s_table_at : Stmt := top 26
abbrev s_moved : Stmt := top 28
abbrev s_mover : Stmt := top 29
abbrev s__law_cell : Stmt := top 31
abbrev s__law_whole : Stmt := top 32
abbrev s__law_low : Stmt := top 33
abbrev s__law_sum : Stmt := top 34
abbrev s__law_both : Stmt := top 35
abbrev s__law_by : Stmt := top 36
abbrev s__law_power : Stmt := top 37
abbrev s__law_prime_power : Stmt := top 38
abbrev s__law_rest : Stmt := top 39
abbrev s__law_moved : Stmt := top 40
abbrev s__law_measure : Stmt := top 41
abbrev s__law_prime : Stmt := top 42
abbrev s__law_number : Stmt := top 43
abbrev s__law_table : Stmt := top 44
abbrev s__law_spot : Stmt := top 45
abbrev s__law_is_spot : Stmt := top 46
abbrev s_law : Stmt := top 47
theorem sc_shared : FnScope ["one", "other"] ["one", "other"] (defScope s_shared) := ⟨rfl, rfl, rfl, by decide +kernel, rfl, by decide +kernel, by decide +kernel⟩
theorem sc_power_of : FnScope ["p", "n", "power"] ["p", "n"] (defScope s_power_of) := ⟨rfl, rfl, rfl, by decide +kernel, rfl, by decide +kernel, by decide +kernel⟩
theorem sc_raised : FnScope ["number", "k", "found"] ["number", "k"] (defScope s_raised) := ⟨rfl, rfl, rfl, by decide +kernel, rfl, by decide +kernel, by decide +kernel⟩
theorem sc_over_by : FnScope ["p", "n", "k", "found", "sure"] ["p", "n", "k"] (defScope s_over_by) := ⟨rfl, rfl, rfl, by decide +kernel, rfl, by decide +kernel, by decide +kernel⟩
theorem sc_fraction : FnScope ["top", "bottom", "by"] ["top", "bottom"] (defScope s_fraction) := ⟨rfl, rfl, rfl, by decide +kernel, rfl, by decide +kernel, by decide +kernel⟩
theorem sc_plus : FnScope ["a", "b"] ["a", "b"] (defScope s_plus) := ⟨rfl, rfl, rfl, by decide +kernel, rfl, by decide +kernel, by decide +kernel⟩
theorem sc_minus : FnScope ["a", "b"] ["a", "b"] (defScope s_minus) := ⟨rfl, rfl, rfl, by decide +kernel, rfl, by decide +kernel, by decide +kernel⟩
theorem sc_times : FnScope ["a", "b"] ["a", "b"] (defScope s_times) := ⟨rfl, rfl, rfl, by decide +kernel, rfl, by decide +kernel, by decide +kernel⟩
theorem sc_over : FnScope ["a", "b"] ["a", "b"] (defScope s_over) := ⟨rfl, rfl, rfl, by decide +kernel, rfl, by decide +kernel, by decide +kernel⟩
theorem sc_power_in : FnScope ["p", "a"] ["p", "a"] (defScope s_power_in) := ⟨rfl, rfl, rfl, by decide +kernel, rfl, by decide +kernel, by decide +kernel⟩
theorem sc_prime_power : FnScope ["p", "k"] ["p", "k"] (defScope s_prime_power) := ⟨rfl, rfl, rfl, by decide +kernel, rfl, by decide +kernel, by decide +kernel⟩
theorem sc_rest_by : FnScope ["p", "k", "a", "deep", "below", "whole"] ["p", "k", "a"] (defScope s_rest_by) := ⟨rfl, rfl, rfl, by decide +kernel, rfl, by decide +kernel, by decide +kernel⟩
theorem sc_measure : FnScope ["table", "a", "b", "c", "d"] ["table"] (defScope s_measure) := ⟨rfl, rfl, rfl, by decide +kernel, rfl, by decide +kernel, by decide +kernel⟩
theorem sc_product : FnScope ["one", "other", "a", "b", "c", "d", "e", "f", "g", "h", "upper", "lower"] ["one", "other"] (defScope s_product) := ⟨rfl, rfl, rfl, by decide +kernel, rfl, by decide +kernel, by decide +kernel⟩
theorem sc_least_power : FnScope ["p", "some", "part"] ["p", "some"] (defScope s_least_power) := ⟨rfl, rfl, rfl, by decide +kernel, rfl, by decide +kernel, by decide +kernel⟩
theorem sc_spot_of : FnScope ["p", "table", "a", "b", "c", "d", "low", "k"] ["p", "table"] (defScope s_spot_of) := ⟨rfl, rfl, rfl, by decide +kernel, rfl, by decide +kernel, by decide +kernel⟩
theorem sc_table_at : FnScope ["p", "spot"] ["p", "spot"] (defScope s_table_at) := ⟨rfl, rfl, rfl, by decide +kernel, rfl, by decide +kernel, by decide +kernel⟩
theorem sc_moved : FnScope ["p", "table", "spot"] ["p", "table", "spot"] (defScope s_moved) := ⟨rfl, rfl, rfl, by decide +kernel, rfl, by decide +kernel, by decide +kernel⟩
theorem sc_mover : FnScope ["p", "table", "move"] ["p", "table"] (defScope s_mover) := ⟨rfl, rfl, rfl, by decide +kernel, rfl, by decide +kernel, by decide +kernel⟩
theorem sc__law_cell : FnScope ["_law_script", "_law_k", "_law_cell_here"] ["_law_script", "_law_k"] (defScope s__law_cell) := ⟨rfl, rfl, rfl, by decide +kernel, rfl, by decide +kernel, by decide +kernel⟩
theorem sc__law_whole : FnScope ["_law_found"] ["_law_found"] (defScope s__law_whole) := ⟨rfl, rfl, rfl, by decide +kernel, rfl, by decide +kernel, by decide +kernel⟩
theorem sc__law_low : FnScope ["_law_top", "_law_bottom", "_law_one", "_law_other"] ["_law_top", "_law_bottom"] (defScope s__law_low) := ⟨rfl, rfl, rfl, by decide +kernel, rfl, by decide +kernel, by decide +kernel⟩
theorem sc__law_sum : FnScope ["_law_a", "_law_b"] ["_law_a", "_law_b"] (defScope s__law_sum) := ⟨rfl, rfl, rfl, by decide +kernel, rfl, by decide +kernel, by decide +kernel⟩
theorem sc__law_both : FnScope ["_law_a", "_law_b"] ["_law_a", "_law_b"] (defScope s__law_both) := ⟨rfl, rfl, rfl, by decide +kernel, rfl, by decide +kernel, by decide +kernel⟩
theorem sc__law_by : FnScope ["_law_a", "_law_b"] ["_law_a", "_law_b"] (defScope s__law_by) := ⟨rfl, rfl, rfl, by decide +kernel, rfl, by decide +kernel, by decide +kernel⟩
theorem sc__law_power : FnScope ["_law_p", "_law_a", "_law_n", "_law_top", "_law_bottom"] ["_law_p", "_law_a"] (defScope s__law_power) := ⟨rfl, rfl, rfl, by decide +kernel, rfl, by decide +kernel, by decide +kernel⟩
theorem sc__law_prime_power : FnScope ["_law_p", "_law_n", "_law_made", "_law_left", "_law_base"] ["_law_p", "_law_n"] (defScope s__law_prime_power) := ⟨rfl, rfl, rfl, by decide +kernel, rfl, by decide +kernel, by decide +kernel⟩
theorem sc__law_rest : FnScope ["_law_p", "_law_k", "_law_a", "_law_deep", "_law_bottom", "_law_full", "_law_one", "_law_other", "_law_first", "_law_second", "_law_often"] ["_law_p", "_law_k", "_law_a"] (defScope s__law_rest) := ⟨rfl, rfl, rfl, by decide +kernel, rfl, by decide +kernel, by decide +kernel⟩
theorem sc__law_moved : FnScope ["_law_p", "_law_table_here", "_law_spot_here", "_law_a", "_law_b", "_law_c", "_law_d", "_law_k", "_law_q", "_law_unit", "_law_columns", "_law_least", "_law_top", "_law_low_here", "_law_level", "_law_found"] ["_law_p", "_law_table_here", "_law_spot_here"] (defScope s__law_moved) := ⟨rfl, rfl, rfl, by decide +kernel, rfl, by decide +kernel, by decide +kernel⟩
theorem sc__law_measure : FnScope ["_law_table_here", "_law_a", "_law_b", "_law_c", "_law_d", "_law_back"] ["_law_table_here"] (defScope s__law_measure) := ⟨rfl, rfl, rfl, by decide +kernel, rfl, by decide +kernel, by decide +kernel⟩
theorem sc__law_prime : FnScope ["_law_script"] ["_law_script"] (defScope s__law_prime) := ⟨rfl, rfl, rfl, by decide +kernel, rfl, by decide +kernel, by decide +kernel⟩
theorem sc__law_number : FnScope ["_law_p", "_law_cell_here", "_law_great", "_law_top", "_law_n", "_law_most"] ["_law_p", "_law_cell_here", "_law_great"] (defScope s__law_number) := ⟨rfl, rfl, rfl, by decide +kernel, rfl, by decide +kernel, by decide +kernel⟩
theorem sc__law_table : FnScope ["_law_script", "_law_p", "_law_at", "_law_cells", "_law_k", "_law_sort", "_law_x", "_law_y", "_law_z", "_law_w", "_law_upper", "_law_lower"] ["_law_script", "_law_p", "_law_at"] (defScope s__law_table) := ⟨rfl, rfl, rfl, by decide +kernel, rfl, by decide +kernel, by decide +kernel⟩
theorem sc__law_spot : FnScope ["_law_script", "_law_p", "_law_at", "_law_cell_here", "_law_other", "_law_k", "_law_deep", "_law_full"] ["_law_script", "_law_p", "_law_at"] (defScope s__law_spot) := ⟨rfl, rfl, rfl, by decide +kernel, rfl, by decide +kernel, by decide +kernel⟩
theorem sc__law_is_spot : FnScope ["_law_found", "_law_due", "_law_number_here"] ["_law_found", "_law_due"] (defScope s__law_is_spot) := ⟨rfl, rfl, rfl, by decide +kernel, rfl, by decide +kernel, by decide +kernel⟩
theorem sc_law : FnScope ["_law_script", "_law_p", "_law_one", "_law_other", "_law_first", "_law_second", "_law_k", "_law_spot_here", "_law_due", "_law_far_due"] ["_law_script"] (defScope s_law) := ⟨rfl, rfl, rfl, by decide +kernel, rfl, by decide +kernel, by decide +kernel⟩
abbrev s_move : Stmt := (defBody s_mover).getD 0 (.Pass ⟨0, 0, 0, 0⟩)
theorem sc_move : NdefX.NScope ["spot", "p", "table"] ["spot"] ["p", "table"] (C8.fnScope s_move) := NdefX.nscope_by (by decide +kernel)
abbrev q_move : Str := "mover.<locals>.move"
abbrev mk_move : List (Str × Addr) → Addr → NdefX.NF := NdefX.NF.of s_move "move" q_move
abbrev tn_move (K : PySem.W.Frag) : List NdefX.NTab := [((He.cT K ("mover", none)).2, fun _ _ => q_move)]
structure Gf (K : PySem.W.Frag) (mg : Str → Option Value) : Prop where
  d_shared : ∃ fd, FunD K "shared" "shared" (defArgs s_shared) (defBody s_shared) (defScope s_shared) [] [] (He.ga K "shared") fd
  m_shared : mg "shared" = some (.ref (He.ga K "shared"))
  d_power_of : ∃ fd, FunD K "power_of" "power_of" (defArgs s_power_of) (defBody s_power_of) (defScope s_power_of) [] [] (He.ga K "power_of") fd
  m_power_of : mg "power_of" = some (.ref (He.ga K "power_of"))
  d_raised : ∃ fd, FunD K "raised" "raised" (defArgs s_raised) (defBody s_raised) (defScope s_raised) [] [] (He.ga K "raised") fd
  m_raised : mg "raised" = some (.ref (He.ga K "raised"))
  d_over_by : ∃ fd, FunD K "over_by" "over_by" (defArgs s_over_by) (defBody s_over_by) (defScope s_over_by) [] [] (He.ga K "over_by") fd
  m_over_by : mg "over_by" = some (.ref (He.ga K "over_by"))
  d_fraction : ∃ fd, FunD K "fraction" "fraction" (defArgs s_fraction) (defBody s_fraction) (defScope s_fraction) [V.int 1] [] (He.ga K "fraction") fd
  m_fraction : mg "fraction" = some (.ref (He.ga K "fraction"))
  d_plus : ∃ fd, FunD K "plus" "plus" (defArgs s_plus) (defBody s_plus) (defScope s_plus) [] [] (He.ga K "plus") fd
  m_plus : mg "plus" = some (.ref (He.ga K "plus"))
  d_minus : ∃ fd, FunD K "minus" "minus" (defArgs s_minus) (defBody s_minus) (defScope s_minus) [] [] (He.ga K "minus") fd
  m_minus : mg "minus" = some (.ref (He.ga K "minus"))
  d_times : ∃ fd, FunD K "times" "times" (defArgs s_times) (defBody s_times) (defScope s_times) [] [] (He.ga K "times") fd
  m_times : mg "times" = some (.ref (He.ga K "times"))
  d_over : ∃ fd, FunD K "over" "over" (defArgs s_over) (defBody s_over) (defScope s_over) [] [] (He.ga K "over") fd
  m_over : mg "over" = some (.ref (He.ga K "over"))
  d_power_in : ∃ fd, FunD K "power_in" "power_in" (defArgs s_power_in) (defBody s_power_in) (defScope s_power_in) [] [] (He.ga K "power_in") fd
  m_power_in : mg "power_in" = some (.ref (He.ga K "power_in"))
  d_prime_power : ∃ fd, FunD K "prime_power" "prime_power" (defArgs s_prime_power) (defBody s_prime_power) (defScope s_prime_power) [] [] (He.ga K "prime_power") fd
  m_prime_power : mg "prime_power" = some (.ref (He.ga K "prime_power"))
  d_rest_by : ∃ fd, FunD K "rest_by" "rest_by" (defArgs s_rest_by) (defBody s_rest_by) (defScope s_rest_by) [] [] (He.ga K "rest_by") fd
  m_rest_by : mg "rest_by" = some (.ref (He.ga K "rest_by"))
  d_measure : ∃ fd, FunD K "measure" "measure" (defArgs s_measure) (defBody s_measure) (defScope s_measure) [] [] (He.ga K "measure") fd
  m_measure : mg "measure" = some (.ref (He.ga K "measure"))
  d_product : ∃ fd, FunD K "product" "product" (defArgs s_product) (defBody s_product) (defScope s_product) [] [] (He.ga K "product") fd
  m_product : mg "product" = some (.ref (He.ga K "product"))
  d_least_power : ∃ fd, FunD K "least_power" "least_power" (defArgs s_least_power) (defBody s_least_power) (defScope s_least_power) [] [] (He.ga K "least_power") fd
  m_least_power : mg "least_power" = some (.ref (He.ga K "least_power"))
  d_spot_of : ∃ fd, FunD K "spot_of" "spot_of" (defArgs s_spot_of) (defBody s_spot_of) (defScope s_spot_of) [] [] (He.ga K "spot_of") fd
  m_spot_of : mg "spot_of" = some (.ref (He.ga K "spot_of"))
  d_table_at : ∃ fd, FunD K "table_at" "table_at" (defArgs s_table_at) (defBody s_table_at) (defScope s_table_at) [] [] (He.ga K "table_at") fd
  m_table_at : mg "table_at" = some (.ref (He.ga K "table_at"))
  d_moved : ∃ fd, FunD K "moved" "moved" (defArgs s_moved) (defBody s_moved) (defScope s_moved) [] [] (He.ga K "moved") fd
  m_moved : mg "moved" = some (.ref (He.ga K "moved"))
  d_mover : ∃ fd, FunD K "mover" "mover" (defArgs s_mover) (defBody s_mover) (defScope s_mover) [] [] (He.ga K "mover") fd
  m_mover : mg "mover" = some (.ref (He.ga K "mover"))
  d__law_cell : ∃ fd, FunD K "_law_cell" "_law_cell" (defArgs s__law_cell) (defBody s__law_cell) (defScope s__law_cell) [] [] (He.ga K "_law_cell") fd
  m__law_cell : mg "_law_cell" = some (.ref (He.ga K "_law_cell"))
  d__law_whole : ∃ fd, FunD K "_law_whole" "_law_whole" (defArgs s__law_whole) (defBody s__law_whole) (defScope s__law_whole) [] [] (He.ga K "_law_whole") fd
  m__law_whole : mg "_law_whole" = some (.ref (He.ga K "_law_whole"))
  d__law_low : ∃ fd, FunD K "_law_low" "_law_low" (defArgs s__law_low) (defBody s__law_low) (defScope s__law_low) [] [] (He.ga K "_law_low") fd
  m__law_low : mg "_law_low" = some (.ref (He.ga K "_law_low"))
  d__law_sum : ∃ fd, FunD K "_law_sum" "_law_sum" (defArgs s__law_sum) (defBody s__law_sum) (defScope s__law_sum) [] [] (He.ga K "_law_sum") fd
  m__law_sum : mg "_law_sum" = some (.ref (He.ga K "_law_sum"))
  d__law_both : ∃ fd, FunD K "_law_both" "_law_both" (defArgs s__law_both) (defBody s__law_both) (defScope s__law_both) [] [] (He.ga K "_law_both") fd
  m__law_both : mg "_law_both" = some (.ref (He.ga K "_law_both"))
  d__law_by : ∃ fd, FunD K "_law_by" "_law_by" (defArgs s__law_by) (defBody s__law_by) (defScope s__law_by) [] [] (He.ga K "_law_by") fd
  m__law_by : mg "_law_by" = some (.ref (He.ga K "_law_by"))
  d__law_power : ∃ fd, FunD K "_law_power" "_law_power" (defArgs s__law_power) (defBody s__law_power) (defScope s__law_power) [] [] (He.ga K "_law_power") fd
  m__law_power : mg "_law_power" = some (.ref (He.ga K "_law_power"))
  d__law_prime_power : ∃ fd, FunD K "_law_prime_power" "_law_prime_power" (defArgs s__law_prime_power) (defBody s__law_prime_power) (defScope s__law_prime_power) [] [] (He.ga K "_law_prime_power") fd
  m__law_prime_power : mg "_law_prime_power" = some (.ref (He.ga K "_law_prime_power"))
  d__law_rest : ∃ fd, FunD K "_law_rest" "_law_rest" (defArgs s__law_rest) (defBody s__law_rest) (defScope s__law_rest) [] [] (He.ga K "_law_rest") fd
  m__law_rest : mg "_law_rest" = some (.ref (He.ga K "_law_rest"))
  d__law_moved : ∃ fd, FunD K "_law_moved" "_law_moved" (defArgs s__law_moved) (defBody s__law_moved) (defScope s__law_moved) [] [] (He.ga K "_law_moved") fd
  m__law_moved : mg "_law_moved" = some (.ref (He.ga K "_law_moved"))
  d__law_measure : ∃ fd, FunD K "_law_measure" "_law_measure" (defArgs s__law_measure) (defBody s__law_measure) (defScope s__law_measure) [] [] (He.ga K "_law_measure") fd
  m__law_measure : mg "_law_measure" = some (.ref (He.ga K "_law_measure"))
  d__law_prime : ∃ fd, FunD K "_law_prime" "_law_prime" (defArgs s__law_prime) (defBody s__law_prime) (defScope s__law_prime) [] [] (He.ga K "_law_prime") fd
  m__law_prime : mg "_law_prime" = some (.ref (He.ga K "_law_prime"))
  d__law_number : ∃ fd, FunD K "_law_number" "_law_number" (defArgs s__law_number) (defBody s__law_number) (defScope s__law_number) [] [] (He.ga K "_law_number") fd
  m__law_number : mg "_law_number" = some (.ref (He.ga K "_law_number"))
  d__law_table : ∃ fd, FunD K "_law_table" "_law_table" (defArgs s__law_table) (defBody s__law_table) (defScope s__law_table) [] [] (He.ga K "_law_table") fd
  m__law_table : mg "_law_table" = some (.ref (He.ga K "_law_table"))
  d__law_spot : ∃ fd, FunD K "_law_spot" "_law_spot" (defArgs s__law_spot) (defBody s__law_spot) (defScope s__law_spot) [] [] (He.ga K "_law_spot") fd
  m__law_spot : mg "_law_spot" = some (.ref (He.ga K "_law_spot"))
  d__law_is_spot : ∃ fd, FunD K "_law_is_spot" "_law_is_spot" (defArgs s__law_is_spot) (defBody s__law_is_spot) (defScope s__law_is_spot) [] [] (He.ga K "_law_is_spot") fd
  m__law_is_spot : mg "_law_is_spot" = some (.ref (He.ga K "_law_is_spot"))
  d_law : ∃ fd, FunD K "law" "law" (defArgs s_law) (defBody s_law) (defScope s_law) [] [] (He.ga K "law") fd
  m_law : mg "law" = some (.ref (He.ga K "law"))
  n_abs : mg "abs" = none
  n_all : mg "all" = none
  n_bool : mg "bool" = none
  n_int : mg "int" = none
  n_isinstance : mg "isinstance" = none
  n_len : mg "len" = none
  n_max : mg "max" = none
  n_min : mg "min" = none
  n_range : mg "range" = none
  n_tuple : mg "tuple" = none
  k_NOUGHT_fractions : GC K mg "NOUGHT_fractions" k_NOUGHT
  k_NOUGHT_grids : GC K mg "NOUGHT_grids" k_NOUGHT
  k_ONE : GC K mg "ONE" k_ONE
  x_NoFraction : XF K mg "NoFraction"
section
variable {P : Program} {w : World} {K : PySem.W.Frag} {mg : Str → Option Value} {base : Heap}
theorem ok_shared (g : Gf K mg)  : FnOk P w K mg base (L2.CX P w) 1 (He.ga K "shared") (g.d_shared.choose) ["one", "other"] (spF K mg f_shared) := by
  refine def_ok g.d_shared.choose_spec sc_shared (fun cdv A outer s H F0 E X hX hr ft => ?_) len_shared does_shared
  subst hX
  have sc := sc_shared
  exact s_cons (s_set (i := 0) (x_blt ft b_abs (by rfl) g.n_abs bt_abs (x_cons (h1 := x_var 0) (x_nil))) sc.nd) (s_cons (s_set (i := 1) (x_blt ft b_abs (by rfl) g.n_abs bt_abs (x_cons (h1 := x_var 1) (x_nil))) sc.nd) (s_cons (s_while ft (x_tcmp (bin_ne ft hr.units) bl_ne (x_var 1) (x_int) (nomark _)) (s_one (s_par (i := 0) (j := 1) ft sc.nd (by decide) (x_cons (h1 := x_var 1) (x_cons (h1 := x_bin bin_mod (x_var 0) (x_var 1)) (x_nil)))))) (s_one (s_ret (x_var 0)))))
theorem cal_shared (g : Gf K mg) (G : FnOk P w K mg base (L2.CX P w) 1 (He.ga K "shared") (g.d_shared.choose) ["one", "other"] (spF K mg f_shared)) : Cal P w K mg base "shared" 1 [] f_shared :=
  ⟨_, _, _, [], [], G, g.m_shared, g.d_shared.choose_spec.kp, g.d_shared.choose_spec.bindsN (fun _ _ _ _ _ _ us hl => match us, hl with | [_, _], _ => rfl), .nil, fun _ => .nil⟩
theorem ok_power_of (g : Gf K mg)  : FnOk P w K mg base (L2.CX P w) 1 (He.ga K "power_of") (g.d_power_of.choose) ["p", "n"] (spF K mg f_power_of) := by
  refine def_ok g.d_power_of.choose_spec sc_power_of (fun cdv A outer s H F0 E X hX hr ft => ?_) len_power_of does_power_of
  subst hX
  have sc := sc_power_of
  exact s_cons (s_if (x_tcmp (bin_eq ft hr.units) bl_eq (x_var 1) (x_int) (nomark _)) (s_one (s_ret (x_non))) (s_nil)) (s_cons (s_set (i := 2) (x_int) sc.nd) (s_cons (s_while ft (x_tcmp (bin_eq ft hr.units) bl_eq (x_bin bin_mod (x_var 1) (x_var 0)) (x_int) (nomark _)) (s_cons (s_set (i := 1) (x_bin bin_fdiv (x_var 1) (x_var 0)) sc.nd) (s_one (s_set (i := 2) (x_bin (bin_add ft) (x_var 2) (x_int)) sc.nd)))) (s_one (s_ret (x_var 2)))))
theorem cal_power_of (g : Gf K mg) (G : FnOk P w K mg base (L2.CX P w) 1 (He.ga K "power_of") (g.d_power_of.choose) ["p", "n"] (spF K mg f_power_of)) : Cal P w K mg base "power_of" 1 [] f_power_of :=
  ⟨_, _, _, [], [], G, g.m_power_of, g.d_power_of.choose_spec.kp, g.d_power_of.choose_spec.bindsN (fun _ _ _ _ _ _ us hl => match us, hl with | [_, _], _ => rfl), .nil, fun _ => .nil⟩
theorem ok_raised (g : Gf K mg)  : FnOk P w K mg base (L2.CX P w) 1 (He.ga K "raised") (g.d_raised.choose) ["number", "k"] (spF K mg f_raised) := by
  refine def_ok g.d_raised.choose_spec sc_raised (fun cdv A outer s H F0 E X hX hr ft => ?_) len_raised does_raised
  subst hX
  have sc := sc_raised
  exact s_cons (s_set (i := 2) (x_int) sc.nd) (s_cons (s_while ft (x_tcmp bin_gt bl_gt (x_var 1) (x_int) (nomark _)) (s_cons (s_if (x_tcmp (bin_eq ft hr.units) bl_eq (x_bin bin_mod (x_var 1) (x_int)) (x_int) (nomark _)) (s_one (s_set (i := 2) (x_bin bin_mul (x_var 2) (x_var 0)) sc.nd)) (s_nil)) (s_cons (s_set (i := 0) (x_bin bin_mul (x_var 0) (x_var 0)) sc.nd) (s_one (s_set (i := 1) (x_bin bin_fdiv (x_var 1) (x_int)) sc.nd))))) (s_one (s_ret (x_var 2))))
theorem cal_raised (g : Gf K mg) (G : FnOk P w K mg base (L2.CX P w) 1 (He.ga K "raised") (g.d_raised.choose) ["number", "k"] (spF K mg f_raised)) : Cal P w K mg base "raised" 1 [] f_raised :=
  ⟨_, _, _, [], [], G, g.m_raised, g.d_raised.choose_spec.kp, g.d_raised.choose_spec.bindsN (fun _ _ _ _ _ _ us hl => match us, hl with | [_, _], _ => rfl), .nil, fun _ => .nil⟩
theorem ok__law_cell (g : Gf K mg)  : FnOk P w K mg base (L2.CX P w) 1 (He.ga K "_law_cell") (g.d__law_cell.choose) ["_law_script", "_law_k"] (spF K mg f__law_cell) := by
  refine def_ok g.d__law_cell.choose_spec sc__law_cell (fun cdv A outer s H F0 E X hX hr ft => ?_) len__law_cell does__law_cell
  subst hX
  have sc := sc__law_cell
  exact s_cons (s_if (x_tcmp (bin_eq ft hr.units) bl_eq (x_blt ft (b_len ft) (by rfl) g.n_len bt_len (x_cons (h1 := x_var 0) (x_nil))) (x_int) (nomark _)) (s_one (s_ret (x_bin (bin_add ft) (x_bin bin_mul (x_int) (x_var 1)) (x_int)))) (s_nil)) (s_cons (s_set (i := 2) (x_ix ft (x_var 0) (x_bin bin_mod (x_var 1) (x_blt ft (b_len ft) (by rfl) g.n_len bt_len (x_cons (h1 := x_var 0) (x_nil))))) sc.nd) (s_cons (s_if (x_tcmp (bin_eq ft hr.units) bl_eq (x_bin bin_mod (x_ix ft (x_var 0) (x_int)) (x_int)) (x_int) (nomark _)) (s_one (s_ret (x_bin bin_mul (x_blt ft b_abs (by rfl) g.n_abs bt_abs (x_cons (h1 := x_var 2) (x_nil))) (x_bty ft b_int (by rfl) g.n_int bt_int (x_cons (h1 := x_cmp bin_lt (x_var 1) (x_blt ft (b_len ft) (by rfl) g.n_len bt_len (x_cons (h1 := x_var 0) (x_nil))) (nomark _)) (x_nil)))))) (s_nil)) (s_one (s_ret (x_bin bin_mod (x_bin bin_mul (x_bin bin_mod (x_bin bin_mul (x_bin (bin_add ft) (x_bin (bin_add ft) (x_bin (bin_add ft) (x_var 2) (x_bin bin_mul (x_bin bin_mul (x_int) (x_var 1)) (x_var 1))) (x_bin bin_mul (x_int) (x_var 1))) (x_int)) (x_int)) (x_int)) (x_int)) (x_int))))))
theorem cal__law_cell (g : Gf K mg) (G : FnOk P w K mg base (L2.CX P w) 1 (He.ga K "_law_cell") (g.d__law_cell.choose) ["_law_script", "_law_k"] (spF K mg f__law_cell)) : Cal P w K mg base "_law_cell" 1 [] f__law_cell :=
  ⟨_, _, _, [], [], G, g.m__law_cell, g.d__law_cell.choose_spec.kp, g.d__law_cell.choose_spec.bindsN (fun _ _ _ _ _ _ us hl => match us, hl with | [_, _], _ => rfl), .nil, fun _ => .nil⟩
theorem ok__law_whole (g : Gf K mg)  : FnOk P w K mg base (L2.CX P w) 1 (He.ga K "_law_whole") (g.d__law_whole.choose) ["_law_found"] (spF K mg f__law_whole) := by
  refine def_ok g.d__law_whole.choose_spec sc__law_whole (fun cdv A outer s H F0 E X hX hr ft => ?_) len__law_whole does__law_whole
  subst hX
  have sc := sc__law_whole
  exact s_one (s_ret (x_andV (x_blt ft (b_isi ft) (by rfl) g.n_isinstance bt_isinstance (x_cons (h1 := x_var 0) (x_cons (h1 := x_ty ft (by rfl) g.n_int bt_int) (x_nil)))) (x_one (x_notV (x_blt ft (b_isi ft) (by rfl) g.n_isinstance bt_isinstance (x_cons (h1 := x_var 0) (x_cons (h1 := x_ty ft (by rfl) g.n_bool bt_bool) (x_nil))))))))
theorem cal__law_whole (g : Gf K mg) (G : FnOk P w K mg base (L2.CX P w) 1 (He.ga K "_law_whole") (g.d__law_whole.choose) ["_law_found"] (spF K mg f__law_whole)) : Cal P w K mg base "_law_whole" 1 [] f__law_whole :=
  ⟨_, _, _, [], [], G, g.m__law_whole, g.d__law_whole.choose_spec.kp, g.d__law_whole.choose_spec.bindsN (fun _ _ _ _ _ _ us hl => match us, hl with | [_], _ => rfl), .nil, fun _ => .nil⟩
theorem ok__law_low (g : Gf K mg)  : FnOk P w K mg base (L2.CX P w) 1 (He.ga K "_law_low") (g.d__law_low.choose) ["_law_top", "_law_bottom"] (spF K mg f__law_low) := by
  refine def_ok g.d__law_low.choose_spec sc__law_low (fun cdv A outer s H F0 E X hX hr ft => ?_) len__law_low does__law_low
  subst hX
  have sc := sc__law_low
  exact s_cons (s_par (i := 2) (j := 3) ft sc.nd (by decide) (x_cons (h1 := x_blt ft b_abs (by rfl) g.n_abs bt_abs (x_cons (h1 := x_var 0) (x_nil))) (x_cons (h1 := x_blt ft b_abs (by rfl) g.n_abs bt_abs (x_cons (h1 := x_var 1) (x_nil))) (x_nil)))) (s_cons (s_while ft (x_tcmp (bin_ne ft hr.units) bl_ne (x_var 3) (x_int) (nomark _)) (s_one (s_par (i := 2) (j := 3) ft sc.nd (by decide) (x_cons (h1 := x_var 3) (x_cons (h1 := x_bin bin_mod (x_var 2) (x_var 3)) (x_nil)))))) (s_cons (s_if (x_tcmp bin_lt bl_lt (x_var 1) (x_int) (nomark _)) (s_one (s_set (i := 2) (x_neg (x_var 2)) sc.nd)) (s_nil)) (s_one (s_ret (x_tup (x_cons (h1 := x_bin bin_fdiv (x_var 0) (x_var 2)) (x_cons (h1 := x_bin bin_fdiv (x_var 1) (x_var 2)) (x_nil))))))))
theorem cal__law_low (g : Gf K mg) (G : FnOk P w K mg base (L2.CX P w) 1 (He.ga K "_law_low") (g.d__law_low.choose) ["_law_top", "_law_bottom"] (spF K mg f__law_low)) : Cal P w K mg base "_law_low" 1 [] f__law_low :=
  ⟨_, _, _, [], [], G, g.m__law_low, g.d__law_low.choose_spec.kp, g.d__law_low.choose_spec.bindsN (fun _ _ _ _ _ _ us hl => match us, hl with | [_, _], _ => rfl), .nil, fun _ => .nil⟩
theorem ok__law_power (g : Gf K mg)  : FnOk P w K mg base (L2.CX P w) 1 (He.ga K "_law_power") (g.d__law_power.choose) ["_law_p", "_law_a"] (spF K mg f__law_power) := by
  refine def_ok g.d__law_power.choose_spec sc__law_power (fun cdv A outer s H F0 E X hX hr ft => ?_) len__law_power does__law_power
  subst hX
  have sc := sc__law_power
  exact s_cons (s_set (i := 2) (x_int) sc.nd) (s_cons (s_asg (x_var 1) (g_tup ft (g_cons (g_name (i := 3) sc.nd) (g_cons (g_name (i := 4) sc.nd) (g_nil))) (gl_cons (gl_cons (gl_nil))))) (s_cons (s_while ft (x_tcmp (bin_eq ft hr.units) bl_eq (x_bin bin_mod (x_var 3) (x_var 0)) (x_int) (nomark _)) (s_cons (s_set (i := 3) (x_bin bin_fdiv (x_var 3) (x_var 0)) sc.nd) (s_one (s_set (i := 2) (x_bin (bin_add ft) (x_var 2) (x_int)) sc.nd)))) (s_cons (s_while ft (x_tcmp (bin_eq ft hr.units) bl_eq (x_bin bin_mod (x_var 4) (x_var 0)) (x_int) (nomark _)) (s_cons (s_set (i := 4) (x_bin bin_fdiv (x_var 4) (x_var 0)) sc.nd) (s_one (s_set (i := 2) (x_bin bin_sub (x_var 2) (x_int)) sc.nd)))) (s_one (s_ret (x_var 2))))))
theorem cal__law_power (g : Gf K mg) (G : FnOk P w K mg base (L2.CX P w) 1 (He.ga K "_law_power") (g.d__law_power.choose) ["_law_p", "_law_a"] (spF K mg f__law_power)) : Cal P w K mg base "_law_power" 1 [] f__law_power :=
  ⟨_, _, _, [], [], G, g.m__law_power, g.d__law_power.choose_spec.kp, g.d__law_power.choose_spec.bindsN (fun _ _ _ _ _ _ us hl => match us, hl with | [_, _], _ => rfl), .nil, fun _ => .nil⟩
theorem ok__law_prime_power (g : Gf K mg)  : FnOk P w K mg base (L2.CX P w) 1 (He.ga K "_law_prime_power") (g.d__law_prime_power.choose) ["_law_p", "_law_n"] (spF K mg f__law_prime_power) := by
  refine def_ok g.d__law_prime_power.choose_spec sc__law_prime_power (fun cdv A outer s H F0 E X hX hr ft => ?_) len__law_prime_power does__law_prime_power
  subst hX
  have sc := sc__law_prime_power
  exact s_cons (s_set (i := 2) (x_int) sc.nd) (s_cons (s_set (i := 3) (x_blt ft b_abs (by rfl) g.n_abs bt_abs (x_cons (h1 := x_var 1) (x_nil))) sc.nd) (s_cons (s_set (i := 4) (x_var 0) sc.nd) (s_cons (s_while ft (x_tcmp bin_gt bl_gt (x_var 3) (x_int) (nomark _)) (s_cons (s_if (x_tcmp (bin_eq ft hr.units) bl_eq (x_bin bin_mod (x_var 3) (x_int)) (x_int) (nomark _)) (s_one (s_set (i := 2) (x_bin bin_mul (x_var 2) (x_var 4)) sc.nd)) (s_nil)) (s_cons (s_set (i := 4) (x_bin bin_mul (x_var 4) (x_var 4)) sc.nd) (s_one (s_set (i := 3) (x_bin bin_fdiv (x_var 3) (x_int)) sc.nd))))) (s_cons (s_if (x_tcmp bin_lt bl_lt (x_var 1) (x_int) (nomark _)) (s_one (s_ret (x_tup (x_cons (h1 := x_int) (x_cons (h1 := x_var 2) (x_nil)))))) (s_nil)) (s_one (s_ret (x_tup (x_cons (h1 := x_var 2) (x_cons (h1 := x_int) (x_nil))))))))))
theorem cal__law_prime_power (g : Gf K mg) (G : FnOk P w K mg base (L2.CX P w) 1 (He.ga K "_law_prime_power") (g.d__law_prime_power.choose) ["_law_p", "_law_n"] (spF K mg f__law_prime_power)) : Cal P w K mg base "_law_prime_power" 1 [] f__law_prime_power :=
  ⟨_, _, _, [], [], G, g.m__law_prime_power, g.d__law_prime_power.choose_spec.kp, g.d__law_prime_power.choose_spec.bindsN (fun _ _ _ _ _ _ us hl => match us, hl with | [_, _], _ => rfl), .nil, fun _ => .nil⟩
theorem ok_over_by (g : Gf K mg) (c_raised : Cal P w K mg base "raised" 1 [] f_raised) : FnOk P w K mg base (L2.CX P w) 2 (He.ga K "over_by") (g.d_over_by.choose) ["p", "n", "k"] (spF K mg f_over_by) := by
  refine def_ok g.d_over_by.choose_spec sc_over_by (fun cdv A outer s H F0 E X hX hr ft => ?_) len_over_by does_over_by
  subst hX
  have sc := sc_over_by
  exact s_cons (s_if (x_tcmp (bin_eq ft hr.units) bl_eq (x_var 2) (x_int) (nomark _)) (s_one (s_ret (x_int))) (s_nil)) (s_cons (s_set (i := 3) (x_int) sc.nd) (s_cons (s_while ft (x_tcmp (bin_ne ft hr.units) bl_ne (x_bin bin_mod (x_bin bin_mul (x_var 1) (x_var 3)) (x_var 0)) (x_int) (nomark _)) (s_one (s_set (i := 3) (x_bin (bin_add ft) (x_var 3) (x_int)) sc.nd))) (s_cons (s_set (i := 4) (x_int) sc.nd) (s_cons (s_while ft (x_tcmp bin_lt bl_lt (x_var 4) (x_var 2) (nomark _)) (s_cons (s_set (i := 4) (x_blt ft (b_min2 ft) (by rfl) g.n_min bt_min (x_cons (h1 := x_bin bin_mul (x_int) (x_var 4)) (x_cons (h1 := x_var 2) (x_nil)))) sc.nd) (s_one (s_set (i := 3) (x_bin bin_mod (x_bin bin_mul (x_var 3) (x_bin bin_sub (x_int) (x_bin bin_mul (x_var 1) (x_var 3)))) (x_cal ft c_raised hr (x_cons (h1 := x_var 0) (x_cons (h1 := x_var 4) (x_nil))))) sc.nd)))) (s_one (s_ret (x_var 3)))))))
theorem cal_over_by (g : Gf K mg) (G : FnOk P w K mg base (L2.CX P w) 2 (He.ga K "over_by") (g.d_over_by.choose) ["p", "n", "k"] (spF K mg f_over_by)) : Cal P w K mg base "over_by" 2 [] f_over_by :=
  ⟨_, _, _, [], [], G, g.m_over_by, g.d_over_by.choose_spec.kp, g.d_over_by.choose_spec.bindsN (fun _ _ _ _ _ _ us hl => match us, hl with | [_, _, _], _ => rfl), .nil, fun _ => .nil⟩
theorem ok_fraction (g : Gf K mg) (c_shared : Cal P w K mg base "shared" 1 [] f_shared) : FnOk P w K mg base (L2.CX P w) 2 (He.ga K "fraction") (g.d_fraction.choose) ["top", "bottom"] (spF K mg f_fraction) := by
  refine def_ok g.d_fraction.choose_spec sc_fraction (fun cdv A outer s H F0 E X hX hr ft => ?_) len_fraction does_fraction
  subst hX
  have sc := sc_fraction
  exact s_cons (s_if (x_tcmp (bin_eq ft hr.units) bl_eq (x_var 1) (x_int) (nomark _)) (s_one (s_raise ft g.x_NoFraction)) (s_nil)) (s_cons (s_set (i := 2) (x_cal ft c_shared hr (x_cons (h1 := x_var 0) (x_cons (h1 := x_var 1) (x_nil)))) sc.nd) (s_cons (s_if (x_tcmp bin_lt bl_lt (x_var 1) (x_int) (nomark _)) (s_one (s_set (i := 2) (x_neg (x_var 2)) sc.nd)) (s_nil)) (s_one (s_ret (x_tup (x_cons (h1 := x_bin bin_fdiv (x_var 0) (x_var 2)) (x_cons (h1 := x_bin bin_fdiv (x_var 1) (x_var 2)) (x_nil))))))))
theorem cal_fraction (g : Gf K mg) (G : FnOk P w K mg base (L2.CX P w) 2 (He.ga K "fraction") (g.d_fraction.choose) ["top", "bottom"] (spF K mg f_fraction)) : Cal P w K mg base "fraction" 2 [] f_fraction :=
  let ⟨ds, v, b⟩ := g.d_fraction.choose_spec.binds1 (ps := ["top", "bottom"]) 2 1 (List.cons_ne_nil _ _) rfl (fun _ _ _ _ _ _ _ us its h1 h2 => match us, its, h1, h2 with | [_, _], [_], _, _ => ⟨_, rfl, rfl⟩)
  ⟨_, _, _, ds, [], G, g.m_fraction, g.d_fraction.choose_spec.kp, b, v, fun _ => .nil⟩
theorem cald_fraction (g : Gf K mg) (G : FnOk P w K mg base (L2.CX P w) 2 (He.ga K "fraction") (g.d_fraction.choose) ["top", "bottom"] (spF K mg f_fraction)) : Cal P w K mg base "fraction" 2 [.int 1] f_fraction := by
  obtain ⟨ds, v, b⟩ := g.d_fraction.choose_spec.binds1 (ps := ["top", "bottom"]) 1 0 (List.cons_ne_nil _ _) rfl (fun _ _ _ _ _ _ _ us its h1 h2 => match us, its, h1, h2 with | [_], [_], _, _ => ⟨_, rfl, rfl⟩)
  exact ⟨_, _, _, ds, [V.int 1], G, g.m_fraction, g.d_fraction.choose_spec.kp, b, v, fun _ => .cons (.int _) .nil⟩
theorem ok_power_in (g : Gf K mg) (c_power_of : Cal P w K mg base "power_of" 1 [] f_power_of) : FnOk P w K mg base (L2.CX P w) 2 (He.ga K "power_in") (g.d_power_in.choose) ["p", "a"] (spF K mg f_power_in) := by
  refine def_ok g.d_power_in.choose_spec sc_power_in (fun cdv A outer s H F0 E X hX hr ft => ?_) len_power_in does_power_in
  subst hX
  have sc := sc_power_in
  exact s_cons (s_if (x_tcmp (bin_eq ft hr.units) bl_eq (x_var 1) (x_glob ft g.k_NOUGHT_fractions (by rfl)) (nomark _)) (s_one (s_ret (x_non))) (s_nil)) (s_one (s_ret (x_bin bin_sub (x_cal ft c_power_of hr (x_cons (h1 := x_var 0) (x_cons (h1 := x_ix ft (x_var 1) (x_int)) (x_nil)))) (x_cal ft c_power_of hr (x_cons (h1 := x_var 0) (x_cons (h1 := x_ix ft (x_var 1) (x_int)) (x_nil)))))))
theorem cal_power_in (g : Gf K mg) (G : FnOk P w K mg base (L2.CX P w) 2 (He.ga K "power_in") (g.d_power_in.choose) ["p", "a"] (spF K mg f_power_in)) : Cal P w K mg base "power_in" 2 [] f_power_in :=
  ⟨_, _, _, [], [], G, g.m_power_in, g.d_power_in.choose_spec.kp, g.d_power_in.choose_spec.bindsN (fun _ _ _ _ _ _ us hl => match us, hl with | [_, _], _ => rfl), .nil, fun _ => .nil⟩
theorem ok_prime_power (g : Gf K mg) (c_raised : Cal P w K mg base "raised" 1 [] f_raised) : FnOk P w K mg base (L2.CX P w) 2 (He.ga K "prime_power") (g.d_prime_power.choose) ["p", "k"] (spF K mg f_prime_power) := by
  refine def_ok g.d_prime_power.choose_spec sc_prime_power (fun cdv A outer s H F0 E X hX hr ft => ?_) len_prime_power does_prime_power
  subst hX
  have sc := sc_prime_power
  exact s_cons (s_if (x_tcmp bin_lt bl_lt (x_var 1) (x_int) (nomark _)) (s_one (s_ret (x_tup (x_cons (h1 := x_int) (x_cons (h1 := x_cal ft c_raised hr (x_cons (h1 := x_var 0) (x_cons (h1 := x_neg (x_var 1)) (x_nil)))) (x_nil)))))) (s_nil)) (s_one (s_ret (x_tup (x_cons (h1 := x_cal ft c_raised hr (x_cons (h1 := x_var 0) (x_cons (h1 := x_var 1) (x_nil)))) (x_cons (h1 := x_int) (x_nil))))))
theorem cal_prime_power (g : Gf K mg) (G : FnOk P w K mg base (L2.CX P w) 2 (He.ga K "prime_power") (g.d_prime_power.choose) ["p", "k"] (spF K mg f_prime_power)) : Cal P w K mg base "prime_power" 2 [] f_prime_power :=
  ⟨_, _, _, [], [], G, g.m_prime_power, g.d_prime_power.choose_spec.kp, g.d_prime_power.choose_spec.bindsN (fun _ _ _ _ _ _ us hl => match us, hl with | [_, _], _ => rfl), .nil, fun _ => .nil⟩
theorem ok__law_sum (g : Gf K mg) (c__law_low : Cal P w K mg base "_law_low" 1 [] f__law_low) : FnOk P w K mg base (L2.CX P w) 2 (He.ga K "_law_sum") (g.d__law_sum.choose) ["_law_a", "_law_b"] (spF K mg f__law_sum) := by
  refine def_ok g.d__law_sum.choose_spec sc__law_sum (fun cdv A outer s H F0 E X hX hr ft => ?_) len__law_sum does__law_sum
  subst hX
  have sc := sc__law_sum
  exact s_one (s_ret (x_cal ft c__law_low hr (x_cons (h1 := x_bin (bin_add ft) (x_bin bin_mul (x_ix ft (x_var 0) (x_int)) (x_ix ft (x_var 1) (x_int))) (x_bin bin_mul (x_ix ft (x_var 1) (x_int)) (x_ix ft (x_var 0) (x_int)))) (x_cons (h1 := x_bin bin_mul (x_ix ft (x_var 0) (x_int)) (x_ix ft (x_var 1) (x_int))) (x_nil)))))
theorem cal__law_sum (g : Gf K mg) (G : FnOk P w K mg base (L2.CX P w) 2 (He.ga K "_law_sum") (g.d__law_sum.choose) ["_law_a", "_law_b"] (spF K mg f__law_sum)) : Cal P w K mg base "_law_sum" 2 [] f__law_sum :=
  ⟨_, _, _, [], [], G, g.m__law_sum, g.d__law_sum.choose_spec.kp, g.d__law_sum.choose_spec.bindsN (fun _ _ _ _ _ _ us hl => match us, hl with | [_, _], _ => rfl), .nil, fun _ => .nil⟩
theorem ok__law_both (g : Gf K mg) (c__law_low : Cal P w K mg base "_law_low" 1 [] f__law_low) : FnOk P w K mg base (L2.CX P w) 2 (He.ga K "_law_both") (g.d__law_both.choose) ["_law_a", "_law_b"] (spF K mg f__law_both) := by
  refine def_ok g.d__law_both.choose_spec sc__law_both (fun cdv A outer s H F0 E X hX hr ft => ?_) len__law_both does__law_both
  subst hX
  have sc := sc__law_both
  exact s_one (s_ret (x_cal ft c__law_low hr (x_cons (h1 := x_bin bin_mul (x_ix ft (x_var 0) (x_int)) (x_ix ft (x_var 1) (x_int))) (x_cons (h1 := x_bin bin_mul (x_ix ft (x_var 0) (x_int)) (x_ix ft (x_var 1) (x_int))) (x_nil)))))
theorem cal__law_both (g : Gf K mg) (G : FnOk P w K mg base (L2.CX P w) 2 (He.ga K "_law_both") (g.d__law_both.choose) ["_law_a", "_law_b"] (spF K mg f__law_both)) : Cal P w K mg base "_law_both" 2 [] f__law_both :=
  ⟨_, _, _, [], [], G, g.m__law_both, g.d__law_both.choose_spec.kp, g.d__law_both.choose_spec.bindsN (fun _ _ _ _ _ _ us hl => match us, hl with | [_, _], _ => rfl), .nil, fun _ => .nil⟩
theorem ok__law_by (g : Gf K mg) (c__law_low : Cal P w K mg base "_law_low" 1 [] f__law_low) : FnOk P w K mg base (L2.CX P w) 2 (He.ga K "_law_by") (g.d__law_by.choose) ["_law_a", "_law_b"] (spF K mg f__law_by) := by
  refine def_ok g.d__law_by.choose_spec sc__law_by (fun cdv A outer s H F0 E X hX hr ft => ?_) len__law_by does__law_by
  subst hX
  have sc := sc__law_by
  exact s_one (s_ret (x_cal ft c__law_low hr (x_cons (h1 := x_bin bin_mul (x_ix ft (x_var 0) (x_int)) (x_ix ft (x_var 1) (x_int))) (x_cons (h1 := x_bin bin_mul (x_ix ft (x_var 0) (x_int)) (x_ix ft (x_var 1) (x_int))) (x_nil)))))
theorem cal__law_by (g : Gf K mg) (G : FnOk P w K mg base (L2.CX P w) 2 (He.ga K "_law_by") (g.d__law_by.choose) ["_law_a", "_law_b"] (spF K mg f__law_by)) : Cal P w K mg base "_law_by" 2 [] f__law_by :=
  ⟨_, _, _, [], [], G, g.m__law_by, g.d__law_by.choose_spec.kp, g.d__law_by.choose_spec.bindsN (fun _ _ _ _ _ _ us hl => match us, hl with | [_, _], _ => rfl), .nil, fun _ => .nil⟩
theorem ok__law_rest (g : Gf K mg) (c__law_low : Cal P w K mg base "_law_low" 1 [] f__law_low) (c__law_prime_power : Cal P w K mg base "_law_prime_power" 1 [] f__law_prime_power) : FnOk P w K mg base (L2.CX P w) 2 (He.ga K "_law_rest") (g.d__law_rest.choose) ["_law_p", "_law_k", "_law_a"] (spF K mg f__law_rest) := by
  refine def_ok g.d__law_rest.choose_spec sc__law_rest (fun cdv A outer s H F0 E X hX hr ft => ?_) len__law_rest does__law_rest
  subst hX
  have sc := sc__law_rest
  exact s_cons (s_set (i := 3) (x_int) sc.nd) (s_cons (s_set (i := 4) (x_ix ft (x_var 2) (x_int)) sc.nd) (s_cons (s_while ft (x_tcmp (bin_eq ft hr.units) bl_eq (x_bin bin_mod (x_var 4) (x_var 0)) (x_int) (nomark _)) (s_cons (s_set (i := 4) (x_bin bin_fdiv (x_var 4) (x_var 0)) sc.nd) (s_one (s_set (i := 3) (x_bin (bin_add ft) (x_var 3) (x_int)) sc.nd)))) (s_cons (s_if (x_tcmp bin_le bl_le (x_bin (bin_add ft) (x_var 1) (x_var 3)) (x_int) (nomark _)) (s_one (s_ret (x_tup (x_cons (h1 := x_int) (x_cons (h1 := x_int) (x_nil)))))) (s_nil)) (s_cons (s_set (i := 5) (x_ix ft (x_cal ft c__law_prime_power hr (x_cons (h1 := x_var 0) (x_cons (h1 := x_bin (bin_add ft) (x_var 1) (x_var 3)) (x_nil)))) (x_int)) sc.nd) (s_cons (s_asg (x_tup (x_cons (h1 := x_bin bin_mod (x_var 4) (x_var 5)) (x_cons (h1 := x_var 5) (x_cons (h1 := x_int) (x_cons (h1 := x_int) (x_nil)))))) (g_tup ft (g_cons (g_name (i := 6) sc.nd) (g_cons (g_name (i := 7) sc.nd) (g_cons (g_name (i := 8) sc.nd) (g_cons (g_name (i := 9) sc.nd) (g_nil))))) (gl_cons (gl_cons (gl_cons (gl_cons (gl_nil))))))) (s_cons (s_while ft (x_tcmp (bin_ne ft hr.units) bl_ne (x_var 7) (x_int) (nomark _)) (s_cons (s_set (i := 10) (x_bin bin_fdiv (x_var 6) (x_var 7)) sc.nd) (s_one (s_asg (x_tup (x_cons (h1 := x_var 7) (x_cons (h1 := x_bin bin_sub (x_var 6) (x_bin bin_mul (x_var 10) (x_var 7))) (x_cons (h1 := x_var 9) (x_cons (h1 := x_bin bin_sub (x_var 8) (x_bin bin_mul (x_var 10) (x_var 9))) (x_nil)))))) (g_tup ft (g_cons (g_name (i := 6) sc.nd) (g_cons (g_name (i := 7) sc.nd) (g_cons (g_name (i := 8) sc.nd) (g_cons (g_name (i := 9) sc.nd) (g_nil))))) (gl_cons (gl_cons (gl_cons (gl_cons (gl_nil)))))))))) (s_one (s_ret (x_cal ft c__law_low hr (x_cons (h1 := x_bin bin_mod (x_bin bin_mul (x_ix ft (x_var 2) (x_int)) (x_var 8)) (x_var 5)) (x_cons (h1 := x_ix ft (x_cal ft c__law_prime_power hr (x_cons (h1 := x_var 0) (x_cons (h1 := x_var 3) (x_nil)))) (x_int)) (x_nil))))))))))))
theorem cal__law_rest (g : Gf K mg) (G : FnOk P w K mg base (L2.CX P w) 2 (He.ga K "_law_rest") (g.d__law_rest.choose) ["_law_p", "_law_k", "_law_a"] (spF K mg f__law_rest)) : Cal P w K mg base "_law_rest" 2 [] f__law_rest :=
  ⟨_, _, _, [], [], G, g.m__law_rest, g.d__law_rest.choose_spec.kp, g.d__law_rest.choose_spec.bindsN (fun _ _ _ _ _ _ us hl => match us, hl with | [_, _, _], _ => rfl), .nil, fun _ => .nil⟩
theorem ok__law_prime (g : Gf K mg) (c__law_cell : Cal P w K mg base "_law_cell" 1 [] f__law_cell) : FnOk P w K mg base (L2.CX P w) 2 (He.ga K "_law_prime") (g.d__law_prime.choose) ["_law_script"] (spF K mg f__law_prime) := by
  refine def_ok g.d__law_prime.choose_spec sc__law_prime (fun cdv A outer s H F0 E X hX hr ft => ?_) len__law_prime does__law_prime
  subst hX
  have sc := sc__law_prime
  exact s_one (s_ret (x_ix ft (x_tup (x_cons (h1 := x_int) (x_cons (h1 := x_int) (x_cons (h1 := x_int) (x_cons (h1 := x_int) (x_nil)))))) (x_bin bin_mod (x_bin bin_fdiv (x_cal ft c__law_cell hr (x_cons (h1 := x_var 0) (x_cons (h1 := x_int) (x_nil)))) (x_int)) (x_int))))
theorem cal__law_prime (g : Gf K mg) (G : FnOk P w K mg base (L2.CX P w) 2 (He.ga K "_law_prime") (g.d__law_prime.choose) ["_law_script"] (spF K mg f__law_prime)) : Cal P w K mg base "_law_prime" 2 [] f__law_prime :=
  ⟨_, _, _, [], [], G, g.m__law_prime, g.d__law_prime.choose_spec.kp, g.d__law_prime.choose_spec.bindsN (fun _ _ _ _ _ _ us hl => match us, hl with | [_], _ => rfl), .nil, fun _ => .nil⟩
theorem ok__law_number (g : Gf K mg) (c__law_low : Cal P w K mg base "_law_low" 1 [] f__law_low) (c__law_prime_power : Cal P w K mg base "_law_prime_power" 1 [] f__law_prime_power) : FnOk P w K mg base (L2.CX P w) 2 (He.ga K "_law_number") (g.d__law_number.choose) ["_law_p", "_law_cell_here", "_law_great"] (spF K mg f__law_number) := by
  refine def_ok g.d__law_number.choose_spec sc__law_number (fun cdv A outer s H F0 E X hX hr ft => ?_) len__law_number does__law_number
  subst hX
  have sc := sc__law_number
  exact s_cons (s_set (i := 3) (x_bin bin_sub (x_bin bin_mod (x_var 1) (x_int)) (x_int)) sc.nd) (s_cons (s_if (x_truth ft (x_var 2)) (s_one (s_set (i := 3) (x_bin bin_sub (x_bin bin_mod (x_bin bin_mul (x_var 1) (x_bin bin_pow (x_int) (x_int))) (x_bin (bin_add ft) (x_bin bin_mul (x_int) (x_bin bin_pow (x_int) (x_int))) (x_int))) (x_bin bin_pow (x_int) (x_int))) sc.nd)) (s_nil)) (s_cons (s_set (i := 4) (x_bin bin_sub (x_bin bin_mod (x_bin bin_fdiv (x_var 1) (x_int)) (x_int)) (x_int)) sc.nd) (s_cons (s_set (i := 5) (x_ix ft (x_cal ft c__law_prime_power hr (x_cons (h1 := x_var 0) (x_cons (h1 := x_blt ft b_abs (by rfl) g.n_abs bt_abs (x_cons (h1 := x_var 4) (x_nil))) (x_nil)))) (x_int)) sc.nd) (s_cons (s_if (x_tcmp bin_lt bl_lt (x_var 4) (x_int) (nomark _)) (s_one (s_ret (x_cal ft c__law_low hr (x_cons (h1 := x_var 3) (x_cons (h1 := x_bin bin_mul (x_bin (bin_add ft) (x_int) (x_bin bin_mod (x_bin bin_fdiv (x_var 1) (x_int)) (x_int))) (x_var 5)) (x_nil)))))) (s_nil)) (s_one (s_ret (x_cal ft c__law_low hr (x_cons (h1 := x_bin bin_mul (x_var 3) (x_var 5)) (x_cons (h1 := x_bin (bin_add ft) (x_int) (x_bin bin_mod (x_bin bin_fdiv (x_var 1) (x_int)) (x_int))) (x_nil))))))))))
theorem cal__law_number (g : Gf K mg) (G : FnOk P w K mg base (L2.CX P w) 2 (He.ga K "_law_number") (g.d__law_number.choose) ["_law_p", "_law_cell_here", "_law_great"] (spF K mg f__law_number)) : Cal P w K mg base "_law_number" 2 [] f__law_number :=
  ⟨_, _, _, [], [], G, g.m__law_number, g.d__law_number.choose_spec.kp, g.d__law_number.choose_spec.bindsN (fun _ _ _ _ _ _ us hl => match us, hl with | [_, _, _], _ => rfl), .nil, fun _ => .nil⟩
theorem ok__law_spot (g : Gf K mg) (c__law_cell : Cal P w K mg base "_law_cell" 1 [] f__law_cell) (c__law_low : Cal P w K mg base "_law_low" 1 [] f__law_low) (c__law_prime_power : Cal P w K mg base "_law_prime_power" 1 [] f__law_prime_power) : FnOk P w K mg base (L2.CX P w) 2 (He.ga K "_law_spot") (g.d__law_spot.choose) ["_law_script", "_law_p", "_law_at"] (spF K mg f__law_spot) := by
  refine def_ok g.d__law_spot.choose_spec sc__law_spot (fun cdv A outer s H F0 E X hX hr ft => ?_) len__law_spot does__law_spot
  subst hX
  have sc := sc__law_spot
  exact s_cons (s_set (i := 3) (x_cal ft c__law_cell hr (x_cons (h1 := x_var 0) (x_cons (h1 := x_var 2) (x_nil)))) sc.nd) (s_cons (s_set (i := 4) (x_cal ft c__law_cell hr (x_cons (h1 := x_var 0) (x_cons (h1 := x_bin (bin_add ft) (x_var 2) (x_int)) (x_nil)))) sc.nd) (s_cons (s_set (i := 5) (x_bin bin_sub (x_bin bin_mod (x_var 3) (x_int)) (x_int)) sc.nd) (s_cons (s_if (x_tcmp (bin_eq ft hr.units) bl_eq (x_bin bin_mod (x_bin bin_fdiv (x_var 3) (x_int)) (x_int)) (x_int) (nomark _)) (s_one (s_set (i := 5) (x_bin bin_sub (x_bin bin_mod (x_bin bin_fdiv (x_var 3) (x_int)) (x_int)) (x_int)) sc.nd)) (s_nil)) (s_cons (s_set (i := 6) (x_bin (bin_add ft) (x_blt ft (b_max2 ft) (by rfl) g.n_max bt_max (x_cons (h1 := x_int) (x_cons (h1 := x_neg (x_var 5)) (x_nil)))) (x_bin bin_mod (x_var 4) (x_int))) sc.nd) (s_cons (s_set (i := 7) (x_ix ft (x_cal ft c__law_prime_power hr (x_cons (h1 := x_var 1) (x_cons (h1 := x_bin (bin_add ft) (x_var 5) (x_var 6)) (x_nil)))) (x_int)) sc.nd) (s_one (s_ret (x_tup (x_cons (h1 := x_var 5) (x_cons (h1 := x_cal ft c__law_low hr (x_cons (h1 := x_bin bin_mod (x_bin bin_mul (x_bin bin_fdiv (x_var 4) (x_int)) (x_bin bin_pow (x_int) (x_int))) (x_var 7)) (x_cons (h1 := x_ix ft (x_cal ft c__law_prime_power hr (x_cons (h1 := x_var 1) (x_cons (h1 := x_var 6) (x_nil)))) (x_int)) (x_nil)))) (x_nil)))))))))))
theorem cal__law_spot (g : Gf K mg) (G : FnOk P w K mg base (L2.CX P w) 2 (He.ga K "_law_spot") (g.d__law_spot.choose) ["_law_script", "_law_p", "_law_at"] (spF K mg f__law_spot)) : Cal P w K mg base "_law_spot" 2 [] f__law_spot :=
  ⟨_, _, _, [], [], G, g.m__law_spot, g.d__law_spot.choose_spec.kp, g.d__law_spot.choose_spec.bindsN (fun _ _ _ _ _ _ us hl => match us, hl with | [_, _, _], _ => rfl), .nil, fun _ => .nil⟩
theorem ok__law_is_spot (g : Gf K mg) (c__law_whole : Cal P w K mg base "_law_whole" 1 [] f__law_whole) : FnOk P w K mg base (L2.CX P w) 2 (He.ga K "_law_is_spot") (g.d__law_is_spot.choose) ["_law_found", "_law_due"] (spF K mg f__law_is_spot) := by
  refine def_ok g.d__law_is_spot.choose_spec sc__law_is_spot (fun cdv A outer s H F0 E X hX hr ft => ?_) len__law_is_spot does__law_is_spot
  subst hX
  have sc := sc__law_is_spot
  exact s_cons (s_if ((x_or (x_not (x_truth ft (x_blt ft (b_isi ft) (by rfl) g.n_isinstance bt_isinstance (x_cons (h1 := x_var 0) (x_cons (h1 := x_ty ft (by rfl) g.n_tuple bt_tuple) (x_nil)))))) (x_or (x_tcmp (bin_ne ft hr.units) bl_ne (x_blt ft (b_len ft) (by rfl) g.n_len bt_len (x_cons (h1 := x_var 0) (x_nil))) (x_int) (nomark _)) (x_or (x_not (x_truth ft (x_blt ft (b_isi ft) (by rfl) g.n_isinstance bt_isinstance (x_cons (h1 := x_ix ft (x_var 0) (x_int)) (x_cons (h1 := x_ty ft (by rfl) g.n_tuple bt_tuple) (x_nil)))))) (x_or1 (x_tcmp (bin_ne ft hr.units) bl_ne (x_blt ft (b_len ft) (by rfl) g.n_len bt_len (x_cons (h1 := x_ix ft (x_var 0) (x_int)) (x_nil))) (x_int) (nomark _)))))).pt) (s_one (s_ret (x_bl))) (s_nil)) (s_one (s_ret (x_andV (x_blt ft (b_all ft) (by rfl) g.n_all bt_all (x_cons (h1 := x_lc ft sc.nd (i_val ft (x_bin (bin_add ft) (x_tup (x_cons (h1 := x_ix ft (x_var 0) (x_int)) (x_nil))) (x_ix ft (x_var 0) (x_int)))) (blkOk_by (own := [("_law_number_here", 2)]) (N := ["_law_found", "_law_due", "_law_number_here"]) (sc := defScope s__law_is_spot) (by decide +kernel)) (is := [2]) (by decide) (fun s1 H1 C1 c1 f1 => g_name (i := 2) sc.nd) (fun s1 H1 C1 c1 f1 => t_none) (fun s1 H1 C1 c1 f1 => x_cal (ft.blk s1 H1 _ _ f1) c__law_whole hr (x_cons (h1 := x_var 2) (x_nil)))) (x_nil))) (x_one (x_cmp (bin_eq ft hr.units) (x_var 0) (x_var 1) (nomark _))))))
theorem cal__law_is_spot (g : Gf K mg) (G : FnOk P w K mg base (L2.CX P w) 2 (He.ga K "_law_is_spot") (g.d__law_is_spot.choose) ["_law_found", "_law_due"] (spF K mg f__law_is_spot)) : Cal P w K mg base "_law_is_spot" 2 [] f__law_is_spot :=
  ⟨_, _, _, [], [], G, g.m__law_is_spot, g.d__law_is_spot.choose_spec.kp, g.d__law_is_spot.choose_spec.bindsN (fun _ _ _ _ _ _ us hl => match us, hl with | [_, _], _ => rfl), .nil, fun _ => .nil⟩
theorem ok_plus (g : Gf K mg) (c_fraction : Cal P w K mg base "fraction" 2 [] f_fraction) : FnOk P w K mg base (L2.CX P w) 3 (He.ga K "plus") (g.d_plus.choose) ["a", "b"] (spF K mg f_plus) := by
  refine def_ok g.d_plus.choose_spec sc_plus (fun cdv A outer s H F0 E X hX hr ft => ?_) len_plus does_plus
  subst hX
  have sc := sc_plus
  exact s_one (s_ret (x_cal ft c_fraction hr (x_cons (h1 := x_bin (bin_add ft) (x_bin bin_mul (x_ix ft (x_var 0) (x_int)) (x_ix ft (x_var 1) (x_int))) (x_bin bin_mul (x_ix ft (x_var 1) (x_int)) (x_ix ft (x_var 0) (x_int)))) (x_cons (h1 := x_bin bin_mul (x_ix ft (x_var 0) (x_int)) (x_ix ft (x_var 1) (x_int))) (x_nil)))))
theorem cal_plus (g : Gf K mg) (G : FnOk P w K mg base (L2.CX P w) 3 (He.ga K "plus") (g.d_plus.choose) ["a", "b"] (spF K mg f_plus)) : Cal P w K mg base "plus" 3 [] f_plus :=
  ⟨_, _, _, [], [], G, g.m_plus, g.d_plus.choose_spec.kp, g.d_plus.choose_spec.bindsN (fun _ _ _ _ _ _ us hl => match us, hl with | [_, _], _ => rfl), .nil, fun _ => .nil⟩
theorem ok_minus (g : Gf K mg) (c_fraction : Cal P w K mg base "fraction" 2 [] f_fraction) : FnOk P w K mg base (L2.CX P w) 3 (He.ga K "minus") (g.d_minus.choose) ["a", "b"] (spF K mg f_minus) := by
  refine def_ok g.d_minus.choose_spec sc_minus (fun cdv A outer s H F0 E X hX hr ft => ?_) len_minus does_minus
  subst hX
  have sc := sc_minus
  exact s_one (s_ret (x_cal ft c_fraction hr (x_cons (h1 := x_bin bin_sub (x_bin bin_mul (x_ix ft (x_var 0) (x_int)) (x_ix ft (x_var 1) (x_int))) (x_bin bin_mul (x_ix ft (x_var 1) (x_int)) (x_ix ft (x_var 0) (x_int)))) (x_cons (h1 := x_bin bin_mul (x_ix ft (x_var 0) (x_int)) (x_ix ft (x_var 1) (x_int))) (x_nil)))))
theorem cal_minus (g : Gf K mg) (G : FnOk P w K mg base (L2.CX P w) 3 (He.ga K "minus") (g.d_minus.choose) ["a", "b"] (spF K mg f_minus)) : Cal P w K mg base "minus" 3 [] f_minus :=
  ⟨_, _, _, [], [], G, g.m_minus, g.d_minus.choose_spec.kp, g.d_minus.choose_spec.bindsN (fun _ _ _ _ _ _ us hl => match us, hl with | [_, _], _ => rfl), .nil, fun _ => .nil⟩
theorem ok_times (g : Gf K mg) (c_fraction : Cal P w K mg base "fraction" 2 [] f_fraction) : FnOk P w K mg base (L2.CX P w) 3 (He.ga K "times") (g.d_times.choose) ["a", "b"] (spF K mg f_times) := by
  refine def_ok g.d_times.choose_spec sc_times (fun cdv A outer s H F0 E X hX hr ft => ?_) len_times does_times
  subst hX
  have sc := sc_times
  exact s_one (s_ret (x_cal ft c_fraction hr (x_cons (h1 := x_bin bin_mul (x_ix ft (x_var 0) (x_int)) (x_ix ft (x_var 1) (x_int))) (x_cons (h1 := x_bin bin_mul (x_ix ft (x_var 0) (x_int)) (x_ix ft (x_var 1) (x_int))) (x_nil)))))
theorem cal_times (g : Gf K mg) (G : FnOk P w K mg base (L2.CX P w) 3 (He.ga K "times") (g.d_times.choose) ["a", "b"] (spF K mg f_times)) : Cal P w K mg base "times" 3 [] f_times :=
  ⟨_, _, _, [], [], G, g.m_times, g.d_times.choose_spec.kp, g.d_times.choose_spec.bindsN (fun _ _ _ _ _ _ us hl => match us, hl with | [_, _], _ => rfl), .nil, fun _ => .nil⟩
theorem ok_over (g : Gf K mg) (c_fraction : Cal P w K mg base "fraction" 2 [] f_fraction) : FnOk P w K mg base (L2.CX P w) 3 (He.ga K "over") (g.d_over.choose) ["a", "b"] (spF K mg f_over) := by
  refine def_ok g.d_over.choose_spec sc_over (fun cdv A outer s H F0 E X hX hr ft => ?_) len_over does_over
  subst hX
  have sc := sc_over
  exact s_one (s_ret (x_cal ft c_fraction hr (x_cons (h1 := x_bin bin_mul (x_ix ft (x_var 0) (x_int)) (x_ix ft (x_var 1) (x_int))) (x_cons (h1 := x_bin bin_mul (x_ix ft (x_var 0) (x_int)) (x_ix ft (x_var 1) (x_int))) (x_nil)))))
theorem cal_over (g : Gf K mg) (G : FnOk P w K mg base (L2.CX P w) 3 (He.ga K "over") (g.d_over.choose) ["a", "b"] (spF K mg f_over)) : Cal P w K mg base "over" 3 [] f_over :=
  ⟨_, _, _, [], [], G, g.m_over, g.d_over.choose_spec.kp, g.d_over.choose_spec.bindsN (fun _ _ _ _ _ _ us hl => match us, hl with | [_, _], _ => rfl), .nil, fun _ => .nil⟩
theorem ok_rest_by (g : Gf K mg) (c_fraction : Cal P w K mg base "fraction" 2 [] f_fraction) (c_over_by : Cal P w K mg base "over_by" 2 [] f_over_by) (c_power_of : Cal P w K mg base "power_of" 1 [] f_power_of) (c_raised : Cal P w K mg base "raised" 1 [] f_raised) : FnOk P w K mg base (L2.CX P w) 3 (He.ga K "rest_by") (g.d_rest_by.choose) ["p", "k", "a"] (spF K mg f_rest_by) := by
  refine def_ok g.d_rest_by.choose_spec sc_rest_by (fun cdv A outer s H F0 E X hX hr ft => ?_) len_rest_by does_rest_by
  subst hX
  have sc := sc_rest_by
  exact s_cons (s_set (i := 3) (x_cal ft c_power_of hr (x_cons (h1 := x_var 0) (x_cons (h1 := x_ix ft (x_var 2) (x_int)) (x_nil)))) sc.nd) (s_cons (s_if (x_tcmp bin_le bl_le (x_bin (bin_add ft) (x_var 1) (x_var 3)) (x_int) (nomark _)) (s_one (s_ret (x_glob ft g.k_NOUGHT_fractions (by rfl)))) (s_nil)) (s_cons (s_set (i := 4) (x_cal ft c_raised hr (x_cons (h1 := x_var 0) (x_cons (h1 := x_var 3) (x_nil)))) sc.nd) (s_cons (s_set (i := 5) (x_cal ft c_raised hr (x_cons (h1 := x_var 0) (x_cons (h1 := x_bin (bin_add ft) (x_var 1) (x_var 3)) (x_nil)))) sc.nd) (s_one (s_ret (x_cal ft c_fraction hr (x_cons (h1 := x_bin bin_mod (x_bin bin_mul (x_ix ft (x_var 2) (x_int)) (x_cal ft c_over_by hr (x_cons (h1 := x_var 0) (x_cons (h1 := x_bin bin_fdiv (x_ix ft (x_var 2) (x_int)) (x_var 4)) (x_cons (h1 := x_bin (bin_add ft) (x_var 1) (x_var 3)) (x_nil)))))) (x_var 5)) (x_cons (h1 := x_var 4) (x_nil)))))))))
theorem cal_rest_by (g : Gf K mg) (G : FnOk P w K mg base (L2.CX P w) 3 (He.ga K "rest_by") (g.d_rest_by.choose) ["p", "k", "a"] (spF K mg f_rest_by)) : Cal P w K mg base "rest_by" 3 [] f_rest_by :=
  ⟨_, _, _, [], [], G, g.m_rest_by, g.d_rest_by.choose_spec.kp, g.d_rest_by.choose_spec.bindsN (fun _ _ _ _ _ _ us hl => match us, hl with | [_, _, _], _ => rfl), .nil, fun _ => .nil⟩
theorem ok_least_power (g : Gf K mg) (c_power_in : Cal P w K mg base "power_in" 2 [] f_power_in) : FnOk P w K mg base (L2.CX P w) 3 (He.ga K "least_power") (g.d_least_power.choose) ["p", "some"] (spF K mg f_least_power) := by
  refine def_ok g.d_least_power.choose_spec sc_least_power (fun cdv A outer s H F0 E X hX hr ft => ?_) len_least_power does_least_power
  subst hX
  have sc := sc_least_power
  exact s_one (s_ret (x_blt ft (b_min ft) (by rfl) g.n_min bt_min (x_cons (h1 := x_lc ft sc.nd (i_val ft (x_var 1)) (blkOk_by (own := [("part", 2)]) (N := ["p", "some", "part"]) (sc := defScope s_least_power) (by decide +kernel)) (is := [2]) (by decide) (fun s1 H1 C1 c1 f1 => g_name (i := 2) sc.nd) (fun s1 H1 C1 c1 f1 => t_one (x_tcmp (bin_ne (ft.blk s1 H1 _ _ f1) hr.units) bl_ne (x_var 2) (x_glob (ft.blk s1 H1 _ _ f1) g.k_NOUGHT_grids (by rfl)) (nomark _))) (fun s1 H1 C1 c1 f1 => x_cal (ft.blk s1 H1 _ _ f1) c_power_in hr (x_cons (h1 := x_var 0) (x_cons (h1 := x_var 2) (x_nil))))) (x_nil))))
theorem cal_least_power (g : Gf K mg) (G : FnOk P w K mg base (L2.CX P w) 3 (He.ga K "least_power") (g.d_least_power.choose) ["p", "some"] (spF K mg f_least_power)) : Cal P w K mg base "least_power" 3 [] f_least_power :=
  ⟨_, _, _, [], [], G, g.m_least_power, g.d_least_power.choose_spec.kp, g.d_least_power.choose_spec.bindsN (fun _ _ _ _ _ _ us hl => match us, hl with | [_, _], _ => rfl), .nil, fun _ => .nil⟩
theorem ok_table_at (g : Gf K mg) (c_prime_power : Cal P w K mg base "prime_power" 2 [] f_prime_power) : FnOk P w K mg base (L2.CX P w) 3 (He.ga K "table_at") (g.d_table_at.choose) ["p", "spot"] (spF K mg f_table_at) := by
  refine def_ok g.d_table_at.choose_spec sc_table_at (fun cdv A outer s H F0 E X hX hr ft => ?_) len_table_at does_table_at
  subst hX
  have sc := sc_table_at
  exact s_one (s_ret (x_tup (x_cons (h1 := x_cal ft c_prime_power hr (x_cons (h1 := x_var 0) (x_cons (h1 := x_ix ft (x_var 1) (x_int)) (x_nil)))) (x_cons (h1 := x_ix ft (x_var 1) (x_int)) (x_cons (h1 := x_glob ft g.k_NOUGHT_grids (by rfl)) (x_cons (h1 := x_glob ft g.k_ONE (by rfl)) (x_nil)))))))
theorem cal_table_at (g : Gf K mg) (G : FnOk P w K mg base (L2.CX P w) 3 (He.ga K "table_at") (g.d_table_at.choose) ["p", "spot"] (spF K mg f_table_at)) : Cal P w K mg base "table_at" 3 [] f_table_at :=
  ⟨_, _, _, [], [], G, g.m_table_at, g.d_table_at.choose_spec.kp, g.d_table_at.choose_spec.bindsN (fun _ _ _ _ _ _ us hl => match us, hl with | [_, _], _ => rfl), .nil, fun _ => .nil⟩
theorem ok__law_measure (g : Gf K mg) (c__law_both : Cal P w K mg base "_law_both" 2 [] f__law_both) (c__law_sum : Cal P w K mg base "_law_sum" 2 [] f__law_sum) : FnOk P w K mg base (L2.CX P w) 3 (He.ga K "_law_measure") (g.d__law_measure.choose) ["_law_table_here"] (spF K mg f__law_measure) := by
  refine def_ok g.d__law_measure.choose_spec sc__law_measure (fun cdv A outer s H F0 E X hX hr ft => ?_) len__law_measure does__law_measure
  subst hX
  have sc := sc__law_measure
  exact s_cons (s_asg (x_var 0) (g_tup ft (g_cons (g_name (i := 1) sc.nd) (g_cons (g_name (i := 2) sc.nd) (g_cons (g_name (i := 3) sc.nd) (g_cons (g_name (i := 4) sc.nd) (g_nil))))) (gl_cons (gl_cons (gl_cons (gl_cons (gl_nil))))))) (s_cons (s_set (i := 5) (x_cal ft c__law_both hr (x_cons (h1 := x_var 2) (x_cons (h1 := x_var 3) (x_nil)))) sc.nd) (s_one (s_ret (x_cal ft c__law_sum hr (x_cons (h1 := x_cal ft c__law_both hr (x_cons (h1 := x_var 1) (x_cons (h1 := x_var 4) (x_nil)))) (x_cons (h1 := x_tup (x_cons (h1 := x_neg (x_ix ft (x_var 5) (x_int))) (x_cons (h1 := x_ix ft (x_var 5) (x_int)) (x_nil)))) (x_nil)))))))
theorem cal__law_measure (g : Gf K mg) (G : FnOk P w K mg base (L2.CX P w) 3 (He.ga K "_law_measure") (g.d__law_measure.choose) ["_law_table_here"] (spF K mg f__law_measure)) : Cal P w K mg base "_law_measure" 3 [] f__law_measure :=
  ⟨_, _, _, [], [], G, g.m__law_measure, g.d__law_measure.choose_spec.kp, g.d__law_measure.choose_spec.bindsN (fun _ _ _ _ _ _ us hl => match us, hl with | [_], _ => rfl), .nil, fun _ => .nil⟩
theorem ok__law_table (g : Gf K mg) (c__law_both : Cal P w K mg base "_law_both" 2 [] f__law_both) (c__law_cell : Cal P w K mg base "_law_cell" 1 [] f__law_cell) (c__law_number : Cal P w K mg base "_law_number" 2 [] f__law_number) (c__law_sum : Cal P w K mg base "_law_sum" 2 [] f__law_sum) : FnOk P w K mg base (L2.CX P w) 3 (He.ga K "_law_table") (g.d__law_table.choose) ["_law_script", "_law_p", "_law_at"] (spF K mg f__law_table) := by
  refine def_ok g.d__law_table.choose_spec sc__law_table (fun cdv A outer s H F0 E X hX hr ft => ?_) len__law_table does__law_table
  subst hX
  have sc := sc__law_table
  exact s_cons (s_set (i := 3) (x_lc ft sc.nd (i_range1 ft g.n_range (x_cons (h1 := x_int) (x_nil))) (blkOk_by (own := [("_law_k", 4)]) (N := ["_law_script", "_law_p", "_law_at", "_law_cells", "_law_k", "_law_sort", "_law_x", "_law_y", "_law_z", "_law_w", "_law_upper", "_law_lower"]) (sc := defScope s__law_table) (by decide +kernel)) (is := [4]) (by decide) (fun s1 H1 C1 c1 f1 => g_name (i := 4) sc.nd) (fun s1 H1 C1 c1 f1 => t_none) (fun s1 H1 C1 c1 f1 => x_cal (ft.blk s1 H1 _ _ f1) c__law_cell hr (x_cons (h1 := x_var 0) (x_cons (h1 := x_bin (bin_add (ft.blk s1 H1 _ _ f1)) (x_var 2) (x_var 4)) (x_nil))))) sc.nd) (s_cons (s_set (i := 5) (x_bin bin_mod (x_ix ft (x_var 3) (x_int)) (x_int)) sc.nd) (s_cons (s_asg (x_lc ft sc.nd (i_range1 ft g.n_range (x_cons (h1 := x_int) (x_nil))) (blkOk_by (own := [("_law_k", 4)]) (N := ["_law_script", "_law_p", "_law_at", "_law_cells", "_law_k", "_law_sort", "_law_x", "_law_y", "_law_z", "_law_w", "_law_upper", "_law_lower"]) (sc := defScope s__law_table) (by decide +kernel)) (is := [4]) (by decide) (fun s2 H2 C2 c2 f2 => g_name (i := 4) sc.nd) (fun s2 H2 C2 c2 f2 => t_none) (fun s2 H2 C2 c2 f2 => x_cal (ft.blk s2 H2 _ _ f2) c__law_number hr (x_cons (h1 := x_var 1) (x_cons (h1 := x_ix (ft.blk s2 H2 _ _ f2) (x_var 3) (x_var 4)) (x_cons (h1 := x_andV (x_cmp (bin_eq (ft.blk s2 H2 _ _ f2) hr.units) (x_var 5) (x_bin (bin_add (ft.blk s2 H2 _ _ f2)) (x_var 4) (x_int)) (nomark _)) (x_one (x_cmp (bin_ne (ft.blk s2 H2 _ _ f2) hr.units) (x_var 4) (x_int) (nomark _)))) (x_nil)))))) (g_lst ft (g_cons (g_name (i := 6) sc.nd) (g_cons (g_name (i := 7) sc.nd) (g_cons (g_name (i := 8) sc.nd) (g_cons (g_name (i := 9) sc.nd) (g_nil))))) (gl_cons (gl_cons (gl_cons (gl_cons (gl_nil))))))) (s_cons (s_if (x_tcmp (bin_eq ft hr.units) bl_eq (x_ix ft (x_var 7) (x_int)) (x_int) (nomark _)) (s_one (s_set (i := 7) (x_tup (x_cons (h1 := x_int) (x_cons (h1 := x_int) (x_nil)))) sc.nd)) (s_nil)) (s_cons (s_if (x_tcmp (bin_eq ft hr.units) bl_eq (x_ix ft (x_var 8) (x_int)) (x_int) (nomark _)) (s_one (s_set (i := 8) (x_tup (x_cons (h1 := x_neg (x_int)) (x_cons (h1 := x_int) (x_nil)))) sc.nd)) (s_nil)) (s_cons (s_set (i := 10) (x_tup (x_cons (h1 := x_var 7) (x_cons (h1 := x_cal ft c__law_both hr (x_cons (h1 := x_var 7) (x_cons (h1 := x_var 9) (x_nil)))) (x_nil)))) sc.nd) (s_cons (s_set (i := 11) (x_tup (x_cons (h1 := x_cal ft c__law_both hr (x_cons (h1 := x_var 6) (x_cons (h1 := x_var 7) (x_nil)))) (x_cons (h1 := x_cal ft c__law_sum hr (x_cons (h1 := x_cal ft c__law_both hr (x_cons (h1 := x_cal ft c__law_both hr (x_cons (h1 := x_var 6) (x_cons (h1 := x_var 7) (x_nil)))) (x_cons (h1 := x_var 9) (x_nil)))) (x_cons (h1 := x_var 8) (x_nil)))) (x_nil)))) sc.nd) (s_cons (s_if (x_tcmp (bin_eq ft hr.units) bl_eq (x_bin bin_mod (x_bin bin_fdiv (x_ix ft (x_var 3) (x_int)) (x_int)) (x_int)) (x_int) (nomark _)) (s_one (s_ret (x_bin (bin_add ft) (x_var 11) (x_var 10)))) (s_nil)) (s_one (s_ret (x_bin (bin_add ft) (x_var 10) (x_var 11)))))))))))
theorem cal__law_table (g : Gf K mg) (G : FnOk P w K mg base (L2.CX P w) 3 (He.ga K "_law_table") (g.d__law_table.choose) ["_law_script", "_law_p", "_law_at"] (spF K mg f__law_table)) : Cal P w K mg base "_law_table" 3 [] f__law_table :=
  ⟨_, _, _, [], [], G, g.m__law_table, g.d__law_table.choose_spec.kp, g.d__law_table.choose_spec.bindsN (fun _ _ _ _ _ _ us hl => match us, hl with | [_, _, _], _ => rfl), .nil, fun _ => .nil⟩
theorem ok_measure (g : Gf K mg) (c_minus : Cal P w K mg base "minus" 3 [] f_minus) (c_times : Cal P w K mg base "times" 3 [] f_times) : FnOk P w K mg base (L2.CX P w) 4 (He.ga K "measure") (g.d_measure.choose) ["table"] (spF K mg f_measure) := by
  refine def_ok g.d_measure.choose_spec sc_measure (fun cdv A outer s H F0 E X hX hr ft => ?_) len_measure does_measure
  subst hX
  have sc := sc_measure
  exact s_cons (s_asg (x_var 0) (g_tup ft (g_cons (g_name (i := 1) sc.nd) (g_cons (g_name (i := 2) sc.nd) (g_cons (g_name (i := 3) sc.nd) (g_cons (g_name (i := 4) sc.nd) (g_nil))))) (gl_cons (gl_cons (gl_cons (gl_cons (gl_nil))))))) (s_one (s_ret (x_cal ft c_minus hr (x_cons (h1 := x_cal ft c_times hr (x_cons (h1 := x_var 1) (x_cons (h1 := x_var 4) (x_nil)))) (x_cons (h1 := x_cal ft c_times hr (x_cons (h1 := x_var 2) (x_cons (h1 := x_var 3) (x_nil)))) (x_nil))))))
theorem cal_measure (g : Gf K mg) (G : FnOk P w K mg base (L2.CX P w) 4 (He.ga K "measure") (g.d_measure.choose) ["table"] (spF K mg f_measure)) : Cal P w K mg base "measure" 4 [] f_measure :=
  ⟨_, _, _, [], [], G, g.m_measure, g.d_measure.choose_spec.kp, g.d_measure.choose_spec.bindsN (fun _ _ _ _ _ _ us hl => match us, hl with | [_], _ => rfl), .nil, fun _ => .nil⟩
theorem ok_product (g : Gf K mg) (c_plus : Cal P w K mg base "plus" 3 [] f_plus) (c_times : Cal P w K mg base "times" 3 [] f_times) : FnOk P w K mg base (L2.CX P w) 4 (He.ga K "product") (g.d_product.choose) ["one", "other"] (spF K mg f_product) := by
  refine def_ok g.d_product.choose_spec sc_product (fun cdv A outer s H F0 E X hX hr ft => ?_) len_product does_product
  subst hX
  have sc := sc_product
  exact s_cons (s_asg (x_var 0) (g_tup ft (g_cons (g_name (i := 2) sc.nd) (g_cons (g_name (i := 3) sc.nd) (g_cons (g_name (i := 4) sc.nd) (g_cons (g_name (i := 5) sc.nd) (g_nil))))) (gl_cons (gl_cons (gl_cons (gl_cons (gl_nil))))))) (s_cons (s_asg (x_var 1) (g_tup ft (g_cons (g_name (i := 6) sc.nd) (g_cons (g_name (i := 7) sc.nd) (g_cons (g_name (i := 8) sc.nd) (g_cons (g_name (i := 9) sc.nd) (g_nil))))) (gl_cons (gl_cons (gl_cons (gl_cons (gl_nil))))))) (s_cons (s_set (i := 10) (x_tup (x_cons (h1 := x_cal ft c_plus hr (x_cons (h1 := x_cal ft c_times hr (x_cons (h1 := x_var 2) (x_cons (h1 := x_var 6) (x_nil)))) (x_cons (h1 := x_cal ft c_times hr (x_cons (h1 := x_var 3) (x_cons (h1 := x_var 8) (x_nil)))) (x_nil)))) (x_cons (h1 := x_cal ft c_plus hr (x_cons (h1 := x_cal ft c_times hr (x_cons (h1 := x_var 2) (x_cons (h1 := x_var 7) (x_nil)))) (x_cons (h1 := x_cal ft c_times hr (x_cons (h1 := x_var 3) (x_cons (h1 := x_var 9) (x_nil)))) (x_nil)))) (x_nil)))) sc.nd) (s_cons (s_set (i := 11) (x_tup (x_cons (h1 := x_cal ft c_plus hr (x_cons (h1 := x_cal ft c_times hr (x_cons (h1 := x_var 4) (x_cons (h1 := x_var 6) (x_nil)))) (x_cons (h1 := x_cal ft c_times hr (x_cons (h1 := x_var 5) (x_cons (h1 := x_var 8) (x_nil)))) (x_nil)))) (x_cons (h1 := x_cal ft c_plus hr (x_cons (h1 := x_cal ft c_times hr (x_cons (h1 := x_var 4) (x_cons (h1 := x_var 7) (x_nil)))) (x_cons (h1 := x_cal ft c_times hr (x_cons (h1 := x_var 5) (x_cons (h1 := x_var 9) (x_nil)))) (x_nil)))) (x_nil)))) sc.nd) (s_one (s_ret (x_bin (bin_add ft) (x_var 10) (x_var 11)))))))
theorem cal_product (g : Gf K mg) (G : FnOk P w K mg base (L2.CX P w) 4 (He.ga K "product") (g.d_product.choose) ["one", "other"] (spF K mg f_product)) : Cal P w K mg base "product" 4 [] f_product :=
  ⟨_, _, _, [], [], G, g.m_product, g.d_product.choose_spec.kp, g.d_product.choose_spec.bindsN (fun _ _ _ _ _ _ us hl => match us, hl with | [_, _], _ => rfl), .nil, fun _ => .nil⟩
theorem ok__law_moved (g : Gf K mg) (c__law_both : Cal P w K mg base "_law_both" 2 [] f__law_both) (c__law_by : Cal P w K mg base "_law_by" 2 [] f__law_by) (c__law_measure : Cal P w K mg base "_law_measure" 3 [] f__law_measure) (c__law_power : Cal P w K mg base "_law_power" 1 [] f__law_power) (c__law_prime_power : Cal P w K mg base "_law_prime_power" 1 [] f__law_prime_power) (c__law_rest : Cal P w K mg base "_law_rest" 2 [] f__law_rest) (c__law_sum : Cal P w K mg base "_law_sum" 2 [] f__law_sum) : FnOk P w K mg base (L2.CX P w) 4 (He.ga K "_law_moved") (g.d__law_moved.choose) ["_law_p", "_law_table_here", "_law_spot_here"] (spF K mg f__law_moved) := by
  refine def_ok g.d__law_moved.choose_spec sc__law_moved (fun cdv A outer s H F0 E X hX hr ft => ?_) len__law_moved does__law_moved
  subst hX
  have sc := sc__law_moved
  exact s_cons (s_asg (x_var 1) (g_tup ft (g_cons (g_name (i := 3) sc.nd) (g_cons (g_name (i := 4) sc.nd) (g_cons (g_name (i := 5) sc.nd) (g_cons (g_name (i := 6) sc.nd) (g_nil))))) (gl_cons (gl_cons (gl_cons (gl_cons (gl_nil))))))) (s_cons (s_asg (x_var 2) (g_tup ft (g_cons (g_name (i := 7) sc.nd) (g_cons (g_name (i := 8) sc.nd) (g_nil))) (gl_cons (gl_cons (gl_nil))))) (s_cons (s_set (i := 9) (x_cal ft c__law_prime_power hr (x_cons (h1 := x_var 0) (x_cons (h1 := x_var 7) (x_nil)))) sc.nd) (s_cons (s_own (i := 10) (x_lst (x_cons (h1 := x_tup (x_cons (h1 := x_cal ft c__law_both hr (x_cons (h1 := x_var 3) (x_cons (h1 := x_var 9) (x_nil)))) (x_cons (h1 := x_cal ft c__law_both hr (x_cons (h1 := x_var 5) (x_cons (h1 := x_var 9) (x_nil)))) (x_nil)))) (x_nil))) sc.nd) (s_cons (s_app 10 (x_tup (x_cons (h1 := x_cal ft c__law_sum hr (x_cons (h1 := x_cal ft c__law_both hr (x_cons (h1 := x_var 3) (x_cons (h1 := x_var 8) (x_nil)))) (x_cons (h1 := x_var 4) (x_nil)))) (x_cons (h1 := x_cal ft c__law_sum hr (x_cons (h1 := x_cal ft c__law_both hr (x_cons (h1 := x_var 5) (x_cons (h1 := x_var 8) (x_nil)))) (x_cons (h1 := x_var 6) (x_nil)))) (x_nil))))) (ss_frz 10 (s_cons (s_set (i := 11) (x_blt ft (b_min ft) (by rfl) g.n_min bt_min (x_cons (h1 := x_lc ft sc.nd (i_val ft (x_var 10)) (blkOk_by (own := [("_law_top", 12), ("_law_low_here", 13)]) (N := ["_law_p", "_law_table_here", "_law_spot_here", "_law_a", "_law_b", "_law_c", "_law_d", "_law_k", "_law_q", "_law_unit", "_law_columns", "_law_least", "_law_top", "_law_low_here", "_law_level", "_law_found"]) (sc := defScope s__law_moved) (by decide +kernel)) (is := [12, 13]) (by decide) (fun s1 H1 C1 c1 f1 => g_tup (ft.blk s1 H1 _ _ f1) (g_cons (g_name (i := 12) sc.nd) (g_cons (g_name (i := 13) sc.nd) (g_nil))) (gl_cons (gl_cons (gl_nil)))) (fun s1 H1 C1 c1 f1 => t_one (x_tcmp (bin_ne (ft.blk s1 H1 _ _ f1) hr.units) bl_ne (x_ix (ft.blk s1 H1 _ _ f1) (x_var 13) (x_int)) (x_int) (nomark _))) (fun s1 H1 C1 c1 f1 => x_cal (ft.blk s1 H1 _ _ f1) c__law_power hr (x_cons (h1 := x_var 0) (x_cons (h1 := x_var 13) (x_nil))))) (x_nil))) sc.nd) (s_cons (s_set (i := 14) (x_bin bin_sub (x_bin (bin_add ft) (x_cal ft c__law_power hr (x_cons (h1 := x_var 0) (x_cons (h1 := x_cal ft c__law_measure hr (x_cons (h1 := x_var 1) (x_nil))) (x_nil)))) (x_var 7)) (x_bin bin_mul (x_int) (x_var 11))) sc.nd) (s_cons (s_for ft (i_val ft (x_var 10)) (g_tup ft (g_cons (g_name (i := 12) sc.nd) (g_cons (g_name (i := 13) sc.nd) (g_nil))) (gl_cons (gl_cons (gl_nil)))) (s_one (s_if ((x_and (x_tcmp (bin_ne ft hr.units) bl_ne (x_ix ft (x_var 13) (x_int)) (x_int) (nomark _)) (x_and1 (x_tcmp (bin_eq ft hr.units) bl_eq (x_cal ft c__law_power hr (x_cons (h1 := x_var 0) (x_cons (h1 := x_var 13) (x_nil)))) (x_var 11) (nomark _)))).pt) (s_one (s_set (i := 15) (x_tup (x_cons (h1 := x_var 14) (x_cons (h1 := x_cal ft c__law_rest hr (x_cons (h1 := x_var 0) (x_cons (h1 := x_var 14) (x_cons (h1 := x_cal ft c__law_by hr (x_cons (h1 := x_var 12) (x_cons (h1 := x_var 13) (x_nil)))) (x_nil))))) (x_nil)))) sc.nd)) (s_nil)))) (s_one (s_ret (x_var 15)))))))))))
theorem cal__law_moved (g : Gf K mg) (G : FnOk P w K mg base (L2.CX P w) 4 (He.ga K "_law_moved") (g.d__law_moved.choose) ["_law_p", "_law_table_here", "_law_spot_here"] (spF K mg f__law_moved)) : Cal P w K mg base "_law_moved" 4 [] f__law_moved :=
  ⟨_, _, _, [], [], G, g.m__law_moved, g.d__law_moved.choose_spec.kp, g.d__law_moved.choose_spec.bindsN (fun _ _ _ _ _ _ us hl => match us, hl with | [_, _, _], _ => rfl), .nil, fun _ => .nil⟩
theorem ok_spot_of (g : Gf K mg) (c_least_power : Cal P w K mg base "least_power" 3 [] f_least_power) (c_measure : Cal P w K mg base "measure" 4 [] f_measure) (c_over : Cal P w K mg base "over" 3 [] f_over) (c_power_in : Cal P w K mg base "power_in" 2 [] f_power_in) (c_rest_by : Cal P w K mg base "rest_by" 3 [] f_rest_by) : FnOk P w K mg base (L2.CX P w) 5 (He.ga K "spot_of") (g.d_spot_of.choose) ["p", "table"] (spF K mg f_spot_of) := by
  refine def_ok g.d_spot_of.choose_spec sc_spot_of (fun cdv A outer s H F0 E X hX hr ft => ?_) len_spot_of does_spot_of
  subst hX
  have sc := sc_spot_of
  exact s_cons (s_asg (x_var 1) (g_tup ft (g_cons (g_name (i := 2) sc.nd) (g_cons (g_name (i := 3) sc.nd) (g_cons (g_name (i := 4) sc.nd) (g_cons (g_name (i := 5) sc.nd) (g_nil))))) (gl_cons (gl_cons (gl_cons (gl_cons (gl_nil))))))) (s_cons (s_set (i := 6) (x_cal ft c_least_power hr (x_cons (h1 := x_var 0) (x_cons (h1 := x_tup (x_cons (h1 := x_var 4) (x_cons (h1 := x_var 5) (x_nil)))) (x_nil)))) sc.nd) (s_cons (s_set (i := 7) (x_bin bin_sub (x_cal ft c_power_in hr (x_cons (h1 := x_var 0) (x_cons (h1 := x_cal ft c_measure hr (x_cons (h1 := x_var 1) (x_nil))) (x_nil)))) (x_bin bin_mul (x_int) (x_var 6))) sc.nd) (s_cons (s_if ((x_and (x_tcmp (bin_ne ft hr.units) bl_ne (x_var 4) (x_glob ft g.k_NOUGHT_grids (by rfl)) (nomark _)) (x_and1 (x_tcmp (bin_eq ft hr.units) bl_eq (x_cal ft c_power_in hr (x_cons (h1 := x_var 0) (x_cons (h1 := x_var 4) (x_nil)))) (x_var 6) (nomark _)))).pt) (s_one (s_ret (x_tup (x_cons (h1 := x_var 7) (x_cons (h1 := x_cal ft c_rest_by hr (x_cons (h1 := x_var 0) (x_cons (h1 := x_var 7) (x_cons (h1 := x_cal ft c_over hr (x_cons (h1 := x_var 2) (x_cons (h1 := x_var 4) (x_nil)))) (x_nil))))) (x_nil)))))) (s_nil)) (s_one (s_ret (x_tup (x_cons (h1 := x_var 7) (x_cons (h1 := x_cal ft c_rest_by hr (x_cons (h1 := x_var 0) (x_cons (h1 := x_var 7) (x_cons (h1 := x_cal ft c_over hr (x_cons (h1 := x_var 3) (x_cons (h1 := x_var 5) (x_nil)))) (x_nil))))) (x_nil)))))))))
theorem cal_spot_of (g : Gf K mg) (G : FnOk P w K mg base (L2.CX P w) 5 (He.ga K "spot_of") (g.d_spot_of.choose) ["p", "table"] (spF K mg f_spot_of)) : Cal P w K mg base "spot_of" 5 [] f_spot_of :=
  ⟨_, _, _, [], [], G, g.m_spot_of, g.d_spot_of.choose_spec.kp, g.d_spot_of.choose_spec.bindsN (fun _ _ _ _ _ _ us hl => match us, hl with | [_, _], _ => rfl), .nil, fun _ => .nil⟩
theorem ok_moved (g : Gf K mg) (c_product : Cal P w K mg base "product" 4 [] f_product) (c_spot_of : Cal P w K mg base "spot_of" 5 [] f_spot_of) (c_table_at : Cal P w K mg base "table_at" 3 [] f_table_at) : FnOk P w K mg base (L2.CX P w) 6 (He.ga K "moved") (g.d_moved.choose) ["p", "table", "spot"] (spF K mg f_moved) := by
  refine def_ok g.d_moved.choose_spec sc_moved (fun cdv A outer s H F0 E X hX hr ft => ?_) len_moved does_moved
  subst hX
  have sc := sc_moved
  exact s_one (s_ret (x_cal ft c_spot_of hr (x_cons (h1 := x_var 0) (x_cons (h1 := x_cal ft c_product hr (x_cons (h1 := x_var 1) (x_cons (h1 := x_cal ft c_table_at hr (x_cons (h1 := x_var 0) (x_cons (h1 := x_var 2) (x_nil)))) (x_nil)))) (x_nil)))))
theorem cal_moved (g : Gf K mg) (G : FnOk P w K mg base (L2.CX P w) 6 (He.ga K "moved") (g.d_moved.choose) ["p", "table", "spot"] (spF K mg f_moved)) : Cal P w K mg base "moved" 6 [] f_moved :=
  ⟨_, _, _, [], [], G, g.m_moved, g.d_moved.choose_spec.kp, g.d_moved.choose_spec.bindsN (fun _ _ _ _ _ _ us hl => match us, hl with | [_, _, _], _ => rfl), .nil, fun _ => .nil⟩
theorem ok_move (g : Gf K mg) (c_moved : Cal P w K mg base "moved" 6 [] f_moved) (f : Addr) (cl : List (Str × Addr)) (c : Addr) : NdefX.NOk P w K mg base (L2.CX P w) 7 f (mk_move cl c) ["spot"] ["p", "table"] (spN K mg f_move 1) := by
  refine nok_ok (F := mk_move cl c) sc_move (fun doc pm ctv us hl => match us, hl with | [_], _ => rfl) (fun A outer s H F0 E X hX hr ft => ?_) does_move
  subst hX
  have sc := sc_move
  exact s_one (s_ret (x_cal ft c_moved hr (x_cons (h1 := x_var 1) (x_cons (h1 := x_var 2) (x_cons (h1 := x_var 0) (x_nil))))))
theorem ok_mover (g : Gf K mg) (TB : LamX.TabB base mg (He.cT K ("mover", none)).1 (He.cT K ("mover", none)).2) : FnOk P w K mg base (L2.CX P w) 1 (He.ga K "mover") (g.d_mover.choose) ["p", "table"] (spM (tn_move K) mk_move ["p", "table"]) :=
  maker_ok (at_ := ("mover", none)) (N := ["p", "table", "move"]) (i := 2) (st := s_move) (nx := "move") g.d_mover.choose_spec rfl sc_mover (by rfl) (by rfl) TB rfl (by decide) (by decide) (by decide) (by decide +kernel) (by decide +kernel) (by decide +kernel) (by decide +kernel) rfl rfl (fun _ => rfl) q_move (fun _ _ => rfl)
theorem ok_law (g : Gf K mg) (TB : LamX.TabB base mg (He.cT K ("mover", none)).1 (He.cT K ("mover", none)).2) (c__law_is_spot : Cal P w K mg base "_law_is_spot" 2 [] f__law_is_spot) (c__law_moved : Cal P w K mg base "_law_moved" 4 [] f__law_moved) (c__law_prime : Cal P w K mg base "_law_prime" 2 [] f__law_prime) (c__law_spot : Cal P w K mg base "_law_spot" 2 [] f__law_spot) (c__law_table : Cal P w K mg base "_law_table" 3 [] f__law_table) (c_moved : Cal P w K mg base "moved" 6 [] f_moved) : FnOk P w K mg base (L2.CX P w) 9 (He.ga K "law") (g.d_law.choose) ["_law_script"] (spL (tn_move K) K (LawTwo 10 w_law1 w_law2 w_law3 a_law1 a_law2 4 5 2 w_lawB) 1) := by
  refine two_ok (ps := ["p", "table"]) (mk := mk_move) (k := 8) g.d_law.choose_spec sc_law (by decide) (by decide) (fun cdv A outer s H F0 E X hX hr C hC ft => ?_)
  subst hX
  subst hC
  have sc := sc_law
  have om := ok_mover (P := P) (w := w) g TB
  refine pss_cons (s_set (i := 1) (x_cal ft c__law_prime hr (x_cons (h1 := x_var 0) (x_nil))) sc.nd) (pss_cons (s_set (i := 2) (x_cal ft c__law_table hr (x_cons (h1 := x_var 0) (x_cons (h1 := x_var 1) (x_cons (h1 := x_int) (x_nil))))) sc.nd) (pss_cons (s_set (i := 3) (x_cal ft c__law_table hr (x_cons (h1 := x_var 0) (x_cons (h1 := x_var 1) (x_cons (h1 := x_int) (x_nil))))) sc.nd) (pss_cons ?_ (pss_cons ?_ (pss_two ?_)))))
  · refine s_mk (x := "_law_first") (fun C k1 k2 ft => ?_) sc.nd rfl (by first | exact Or.inl rfl | exact Or.inr rfl)
    obtain ⟨K1, mg1, F1, H1, W1, hb1⟩ := C
    have k1 : K1 = K := k1
    have k2 : mg1 = mg := k2
    subst k1; subst k2
    exact x_mkC ft om (hr.mono (by decide)) (by rfl) g.m_mover g.d_mover.choose_spec.kp (g.d_mover.choose_spec.bindsN (fun _ _ _ _ _ _ us hl => match us, hl with | [_, _], _ => rfl)) (x_cons (h1 := x_var 1) (x_cons (h1 := x_var 2) (x_nil)))
  · refine s_mk (x := "_law_second") (fun C k1 k2 ft => ?_) sc.nd rfl (by first | exact Or.inl rfl | exact Or.inr rfl)
    obtain ⟨K1, mg1, F1, H1, W1, hb1⟩ := C
    have k1 : K1 = K := k1
    have k2 : mg1 = mg := k2
    subst k1; subst k2
    exact x_mkC ft om (hr.mono (by decide)) (by rfl) g.m_mover g.d_mover.choose_spec.kp (g.d_mover.choose_spec.bindsN (fun _ _ _ _ _ _ us hl => match us, hl with | [_, _], _ => rfl)) (x_cons (h1 := x_var 1) (x_cons (h1 := x_var 3) (x_nil)))
  · intro C f1 f2 c1 c2 b1 b2 s1 s2 d1 d2 vs1 vs2 k1 k2 k3 ft cl1 r1 cl2 r2
    obtain ⟨K1, mg1, F1, H1, W1, hb1⟩ := C
    have k1 : K1 = K := k1
    have k2 : mg1 = mg := k2
    have k3 : hb1 = false := k3
    subst k1; subst k2; subst k3
    have o1 := ok_move (P := P) (w := w) (base := base) g c_moved f1 b1 c1
    have o2 := ok_move (P := P) (w := w) (base := base) g c_moved f2 b2 c2
    exact s_cons (s_for ft (i_range1 ft g.n_range (x_cons (h1 := x_blt ft (b_max2 ft) (by rfl) g.n_max bt_max (x_cons (h1 := x_int) (x_cons (h1 := x_blt ft (b_min2 ft) (by rfl) g.n_min bt_min (x_cons (h1 := x_int) (x_cons (h1 := x_bin bin_fdiv (x_bin bin_sub (x_blt ft (b_len ft) (by rfl) g.n_len bt_len (x_cons (h1 := x_var 0) (x_nil))) (x_int)) (x_int)) (x_nil)))) (x_nil)))) (x_nil))) (g_name (i := 6) sc.nd) (s_cons (s_set (i := 7) (x_cal ft c__law_spot hr (x_cons (h1 := x_var 0) (x_cons (h1 := x_var 1) (x_cons (h1 := x_bin (bin_add ft) (x_int) (x_bin bin_mul (x_int) (x_var 6))) (x_nil))))) sc.nd) (s_cons (s_set (i := 8) (x_cal ft c__law_moved hr (x_cons (h1 := x_var 1) (x_cons (h1 := x_var 2) (x_cons (h1 := x_var 7) (x_nil))))) sc.nd) (s_cons (s_set (i := 9) (x_cal ft c__law_moved hr (x_cons (h1 := x_var 1) (x_cons (h1 := x_var 3) (x_cons (h1 := x_var 7) (x_nil))))) sc.nd) (s_cons (s_if ((x_or (x_not (x_truth ft (x_cal ft c__law_is_spot hr (x_cons (h1 := x_cal ft c_moved hr (x_cons (h1 := x_var 1) (x_cons (h1 := x_var 2) (x_cons (h1 := x_var 7) (x_nil))))) (x_cons (h1 := x_var 8) (x_nil)))))) (x_or1 (x_not (x_truth ft (x_cal ft c__law_is_spot hr (x_cons (h1 := x_clo (i := 4) (n := 1) ft o1 cl1 r1 hr (by decide) rfl (by first | exact Or.inl rfl | exact Or.inr (Or.inl rfl) | exact Or.inr (Or.inr rfl)) (x_cons (h1 := x_var 7) (x_nil)) (fun _ _ h => lenA1 h)) (x_cons (h1 := x_var 8) (x_nil)))))))).pt) (s_one (s_ret (x_bl))) (s_nil)) (s_cons (s_if ((x_or (x_not (x_truth ft (x_cal ft c__law_is_spot hr (x_cons (h1 := x_clo (i := 5) (n := 1) ft o2 cl2 r2 hr (by decide) rfl (by first | exact Or.inl rfl | exact Or.inr (Or.inl rfl) | exact Or.inr (Or.inr rfl)) (x_cons (h1 := x_var 7) (x_nil)) (fun _ _ h => lenA1 h)) (x_cons (h1 := x_var 9) (x_nil)))))) (x_or1 (x_not (x_truth ft (x_cal ft c__law_is_spot hr (x_cons (h1 := x_cal ft c_moved hr (x_cons (h1 := x_var 1) (x_cons (h1 := x_var 3) (x_cons (h1 := x_var 7) (x_nil))))) (x_cons (h1 := x_var 9) (x_nil)))))))).pt) (s_one (s_ret (x_bl))) (s_nil)) (s_one (s_if (x_tcmp (bin_ne ft hr.units) bl_ne (x_clo (i := 4) (n := 1) ft o1 cl1 r1 hr (by decide) rfl (by first | exact Or.inl rfl | exact Or.inr (Or.inl rfl) | exact Or.inr (Or.inr rfl)) (x_cons (h1 := x_var 7) (x_nil)) (fun _ _ h => lenA1 h)) (x_var 8) (nomark _)) (s_one (s_ret (x_bl))) (s_nil))))))))) (s_one (s_ret (x_bl)))
theorem ok_all (g : Gf K mg) (TB : LamX.TabB base mg (He.cT K ("mover", none)).1 (He.cT K ("mover", none)).2) : FnOk P w K mg base (L2.CX P w) 9 (He.ga K "law") (g.d_law.choose) ["_law_script"] (spL (tn_move K) K (LawTwo 10 w_law1 w_law2 w_law3 a_law1 a_law2 4 5 2 w_lawB) 1) := by
  have o_shared := ok_shared (P := P) (w := w) (base := base) g 
  have c_shared := cal_shared g o_shared
  have o_power_of := ok_power_of (P := P) (w := w) (base := base) g 
  have c_power_of := cal_power_of g o_power_of
  have o_raised := ok_raised (P := P) (w := w) (base := base) g 
  have c_raised := cal_raised g o_raised
  have o__law_cell := ok__law_cell (P := P) (w := w) (base := base) g 
  have c__law_cell := cal__law_cell g o__law_cell
  have o__law_whole := ok__law_whole (P := P) (w := w) (base := base) g 
  have c__law_whole := cal__law_whole g o__law_whole
  have o__law_low := ok__law_low (P := P) (w := w) (base := base) g 
  have c__law_low := cal__law_low g o__law_low
  have o__law_power := ok__law_power (P := P) (w := w) (base := base) g 
  have c__law_power := cal__law_power g o__law_power
  have o__law_prime_power := ok__law_prime_power (P := P) (w := w) (base := base) g 
  have c__law_prime_power := cal__law_prime_power g o__law_prime_power
  have o_over_by := ok_over_by (P := P) (w := w) (base := base) g c_raised
  have c_over_by := cal_over_by g o_over_by
  have o_fraction := ok_fraction (P := P) (w := w) (base := base) g c_shared
  have c_fraction := cal_fraction g o_fraction
  have o_power_in := ok_power_in (P := P) (w := w) (base := base) g c_power_of
  have c_power_in := cal_power_in g o_power_in
  have o_prime_power := ok_prime_power (P := P) (w := w) (base := base) g c_raised
  have c_prime_power := cal_prime_power g o_prime_power
  have o__law_sum := ok__law_sum (P := P) (w := w) (base := base) g c__law_low
  have c__law_sum := cal__law_sum g o__law_sum
  have o__law_both := ok__law_both (P := P) (w := w) (base := base) g c__law_low
  have c__law_both := cal__law_both g o__law_both
  have o__law_by := ok__law_by (P := P) (w := w) (base := base) g c__law_low
  have c__law_by := cal__law_by g o__law_by
  have o__law_rest := ok__law_rest (P := P) (w := w) (base := base) g c__law_low c__law_prime_power
  have c__law_rest := cal__law_rest g o__law_rest
  have o__law_prime := ok__law_prime (P := P) (w := w) (base := base) g c__law_cell
  have c__law_prime := cal__law_prime g o__law_prime
  have o__law_number := ok__law_number (P := P) (w := w) (base := base) g c__law_low c__law_prime_power
  have c__law_number := cal__law_number g o__law_number
  have o__law_spot := ok__law_spot (P := P) (w := w) (base := base) g c__law_cell c__law_low c__law_prime_power
  have c__law_spot := cal__law_spot g o__law_spot
  have o__law_is_spot := ok__law_is_spot (P := P) (w := w) (base := base) g c__law_whole
  have c__law_is_spot := cal__law_is_spot g o__law_is_spot
  have o_plus := ok_plus (P := P) (w := w) (base := base) g c_fraction
  have c_plus := cal_plus g o_plus
  have o_minus := ok_minus (P := P) (w := w) (base := base) g c_fraction
  have c_minus := cal_minus g o_minus
  have o_times := ok_times (P := P) (w := w) (base := base) g c_fraction
  have c_times := cal_times g o_times
  have o_over := ok_over (P := P) (w := w) (base := base) g c_fraction
  have c_over := cal_over g o_over
  have o_rest_by := ok_rest_by (P := P) (w := w) (base := base) g c_fraction c_over_by c_power_of c_raised
  have c_rest_by := cal_rest_by g o_rest_by
  have o_least_power := ok_least_power (P := P) (w := w) (base := base) g c_power_in
  have c_least_power := cal_least_power g o_least_power
  have o_table_at := ok_table_at (P := P) (w := w) (base := base) g c_prime_power
  have c_table_at := cal_table_at g o_table_at
  have o__law_measure := ok__law_measure (P := P) (w := w) (base := base) g c__law_both c__law_sum
  have c__law_measure := cal__law_measure g o__law_measure
  have o__law_table := ok__law_table (P := P) (w := w) (base := base) g c__law_both c__law_cell c__law_number c__law_sum
  have c__law_table := cal__law_table g o__law_table
  have o_measure := ok_measure (P := P) (w := w) (base := base) g c_minus c_times
  have c_measure := cal_measure g o_measure
  have o_product := ok_product (P := P) (w := w) (base := base) g c_plus c_times
  have c_product := cal_product g o_product
  have o__law_moved := ok__law_moved (P := P) (w := w) (base := base) g c__law_both c__law_by c__law_measure c__law_power c__law_prime_power c__law_rest c__law_sum
  have c__law_moved := cal__law_moved g o__law_moved
  have o_spot_of := ok_spot_of (P := P) (w := w) (base := base) g c_least_power c_measure c_over c_power_in c_rest_by
  have c_spot_of := cal_spot_of g o_spot_of
  have o_moved := ok_moved (P := P) (w := w) (base := base) g c_product c_spot_of c_table_at
  have c_moved := cal_moved g o_moved
  exact ok_law g TB c__law_is_spot c__law_moved c__law_prime c__law_spot c__law_table c_moved
end
/-! ### the head -/
def dd_shared : He.DefD := ⟨("shared", none), "shared", "shared", defArgs s_shared, defBody s_shared, defScope s_shared, [], []⟩
def dd_power_of : He.DefD := ⟨("power_of", none), "power_of", "power_of", defArgs s_power_of, defBody s_power_of, defScope s_power_of, [], []⟩
def dd_raised : He.DefD := ⟨("raised", none), "raised", "raised", defArgs s_raised, defBody s_raised, defScope s_raised, [], []⟩
def dd_over_by : He.DefD := ⟨("over_by", none), "over_by", "over_by", defArgs s_over_by, defBody s_over_by, defScope s_over_by, [], []⟩
def dd_fraction : He.DefD := ⟨("fraction", none), "fraction", "fraction", defArgs s_fraction, defBody s_fraction, defScope s_fraction, [He.Dv.int 1], []⟩
def dd_plus : He.DefD := ⟨("plus", none), "plus", "plus", defArgs s_plus, defBody s_plus, defScope s_plus, [], []⟩
def dd_minus : He.DefD := ⟨("minus", none), "minus", "minus", defArgs s_minus, defBody s_minus, defScope s_minus, [], []⟩
def dd_times : He.DefD := ⟨("times", none), "times", "times", defArgs s_times, defBody s_times, defScope s_times, [], []⟩
def dd_over : He.DefD := ⟨("over", none), "over", "over", defArgs s_over, defBody s_over, defScope s_over, [], []⟩
def dd_power_in : He.DefD := ⟨("power_in", none), "power_in", "power_in", defArgs s_power_in, defBody s_power_in, defScope s_power_in, [], []⟩
def dd_prime_power : He.DefD := ⟨("prime_power", none), "prime_power", "prime_power", defArgs s_prime_power, defBody s_prime_power, defScope s_prime_power, [], []⟩
def dd_rest_by : He.DefD := ⟨("rest_by", none), "rest_by", "rest_by", defArgs s_rest_by, defBody s_rest_by, defScope s_rest_by, [], []⟩
def dd_measure : He.DefD := ⟨("measure", none), "measure", "measure", defArgs s_measure, defBody s_measure, defScope s_measure, [], []⟩
def dd_product : He.DefD := ⟨("product", none), "product", "product", defArgs s_product, defBody s_product, defScope s_product, [], []⟩
def dd_least_power : He.DefD := ⟨("least_power", none), "least_power", "least_power", defArgs s_least_power, defBody s_least_power, defScope s_least_power, [], []⟩
def dd_spot_of : He.DefD := ⟨("spot_of", none), "spot_of", "spot_of", defArgs s_spot_of, defBody s_spot_of, defScope s_spot_of, [], []⟩
def dd_table_at : He.DefD := ⟨("table_at", none), "table_at", "table_at", defArgs s_table_at, defBody s_table_at, defScope s_table_at, [], []⟩
def dd_moved : He.DefD := ⟨("moved", none), "moved", "moved", defArgs s_moved, defBody s_moved, defScope s_moved, [], []⟩
def dd_mover : He.DefD := ⟨("mover", none), "mover", "mover", defArgs s_mover, defBody s_mover, defScope s_mover, [], []⟩
def dd__law_cell : He.DefD := ⟨("_law_cell", none), "_law_cell", "_law_cell", defArgs s__law_cell, defBody s__law_cell, defScope s__law_cell, [], []⟩
def dd__law_whole : He.DefD := ⟨("_law_whole", none), "_law_whole", "_law_whole", defArgs s__law_whole, defBody s__law_whole, defScope s__law_whole, [], []⟩
def dd__law_low : He.DefD := ⟨("_law_low", none), "_law_low", "_law_low", defArgs s__law_low, defBody s__law_low, defScope s__law_low, [], []⟩
def dd__law_sum : He.DefD := ⟨("_law_sum", none), "_law_sum", "_law_sum", defArgs s__law_sum, defBody s__law_sum, defScope s__law_sum, [], []⟩
def dd__law_both : He.DefD := ⟨("_law_both", none), "_law_both", "_law_both", defArgs s__law_both, defBody s__law_both, defScope s__law_both, [], []⟩
def dd__law_by : He.DefD := ⟨("_law_by", none), "_law_by", "_law_by", defArgs s__law_by, defBody s__law_by, defScope s__law_by, [], []⟩
def dd__law_power : He.DefD := ⟨("_law_power", none), "_law_power", "_law_power", defArgs s__law_power, defBody s__law_power, defScope s__law_power, [], []⟩
def dd__law_prime_power : He.DefD := ⟨("_law_prime_power", none), "_law_prime_power", "_law_prime_power", defArgs s__law_prime_power, defBody s__law_prime_power, defScope s__law_prime_power, [], []⟩
def dd__law_rest : He.DefD := ⟨("_law_rest", none), "_law_rest", "_law_rest", defArgs s__law_rest, defBody s__law_rest, defScope s__law_rest, [], []⟩
def dd__law_moved : He.DefD := ⟨("_law_moved", none), "_law_moved", "_law_moved", defArgs s__law_moved, defBody s__law_moved, defScope s__law_moved, [], []⟩
def dd__law_measure : He.DefD := ⟨("_law_measure", none), "_law_measure", "_law_measure", defArgs s__law_measure, defBody s__law_measure, defScope s__law_measure, [], []⟩
def dd__law_prime : He.DefD := ⟨("_law_prime", none), "_law_prime", "_law_prime", defArgs s__law_prime, defBody s__law_prime, defScope s__law_prime, [], []⟩
def dd__law_number : He.DefD := ⟨("_law_number", none), "_law_number", "_law_number", defArgs s__law_number, defBody s__law_number, defScope s__law_number, [], []⟩
def dd__law_table : He.DefD := ⟨("_law_table", none), "_law_table", "_law_table", defArgs s__law_table, defBody s__law_table, defScope s__law_table, [], []⟩
def dd__law_spot : He.DefD := ⟨("_law_spot", none), "_law_spot", "_law_spot", defArgs s__law_spot, defBody s__law_spot, defScope s__law_spot, [], []⟩
def dd__law_is_spot : He.DefD := ⟨("_law_is_spot", none), "_law_is_spot", "_law_is_spot", defArgs s__law_is_spot, defBody s__law_is_spot, defScope s__law_is_spot, [], []⟩
def dd_law : He.DefD := ⟨("law", none), "law", "law", defArgs s_law, defBody s_law, defScope s_law, [], []⟩
def fns : List He.DefD := [dd_shared, dd_power_of, dd_raised, dd_over_by, dd_fraction, dd_plus, dd_minus, dd_times, dd_over, dd_power_in, dd_prime_power, dd_rest_by, dd_measure, dd_product, dd_least_power, dd_spot_of, dd_table_at, dd_moved, dd_mover, dd__law_cell, dd__law_whole, dd__law_low, dd__law_sum, dd__law_both, dd__law_by, dd__law_power, dd__law_prime_power, dd__law_rest, dd__law_moved, dd__law_measure, dd__law_prime, dd__law_number, dd__law_table, dd__law_spot, dd__law_is_spot, dd_law]
def fas : List He.Fa := ([.glo "shared", .glo "power_of", .glo "raised", .glo "over_by", .glo "fraction", .glo "plus", .glo "minus", .glo "times", .glo "over", .glo "power_in", .glo "prime_power", .glo "rest_by", .glo "measure", .glo "product", .glo "least_power", .glo "spot_of", .glo "table_at", .glo "moved", .glo "mover", .glo "_law_cell", .glo "_law_whole", .glo "_law_low", .glo "_law_sum", .glo "_law_both", .glo "_law_by", .glo "_law_power", .glo "_law_prime_power", .glo "_law_rest", .glo "_law_moved", .glo "_law_measure"] : List He.Fa) ++ ([.glo "_law_prime", .glo "_law_number", .glo "_law_table", .glo "_law_spot", .glo "_law_is_spot", .glo "law", .free "abs", .free "all", .free "bool", .free "int", .free "isinstance", .free "len", .free "max", .free "min", .free "range", .free "tuple", .glo "NoFraction", .exc "NoFraction"] : List He.Fa)
def exs : List (PySem.W.Frag → Bool) := [conD "NOUGHT_fractions" k_NOUGHT, conD "NOUGHT_grids" k_NOUGHT, conD "ONE" k_ONE]
abbrev Rw : PySem.W.OpenRow := PySem.W.OpenLaw.row PySem.Challenge.rw_primetree_k51_spots_moved
def exB (K : PySem.W.Frag) : Bool := exs.all fun e => e K
abbrev hk : PySem.W.Hook := He.hookX 6 fas fns [] [("mover", none)] exB
def ob (s : PySem.W.SharedT) : He.AlX := He.obsX 6 fas fns [] [("mover", none)] exB (HandSHeadRun.getT s)
theorem ob_eq (s : PySem.W.SharedT) : ob s = hk.obs s.abs := He.obsX_eq (HandSHeadRun.getT_eq s)
def loose : List Str := (["TreeError", "NoFraction", "NOUGHT_fractions", "NOUGHT_grids", "ONE", "shared", "power_of", "raised", "over_by", "fraction", "plus", "minus", "times", "over", "power_in", "prime_power", "rest_by", "measure", "product", "least_power", "spot_of", "table_at", "moved", "mover", "_law_cell", "_law_whole", "_law_low", "_law_sum", "_law_both", "_law_by"] : List Str) ++ (["_law_power", "_law_prime_power", "_law_rest", "_law_moved", "_law_measure", "_law_prime", "_law_number", "_law_table", "_law_spot", "_law_is_spot"] : List Str)
theorem run (w : World) : HandSHeadRun.RunEq Rw (PySem.W.view Rw.prog [47]) hk ob 20000 loose w := by
  intro os
  kernel_rfl
theorem gf {K : PySem.W.Frag} {h : Heap} {mg : Str → Option Value} (X : K.In h) (G : h.Ns mainGlobals mg) (c : SaysP fas fns exs K) : Gf K mg where
  d_shared := c.d.def_ 0 (d := dd_shared) rfl
  m_shared := He.glo_ok X G (c.d.fact 0 (f := .glo "shared") rfl)
  d_power_of := c.d.def_ 1 (d := dd_power_of) rfl
  m_power_of := He.glo_ok X G (c.d.fact 1 (f := .glo "power_of") rfl)
  d_raised := c.d.def_ 2 (d := dd_raised) rfl
  m_raised := He.glo_ok X G (c.d.fact 2 (f := .glo "raised") rfl)
  d_over_by := c.d.def_ 3 (d := dd_over_by) rfl
  m_over_by := He.glo_ok X G (c.d.fact 3 (f := .glo "over_by") rfl)
  d_fraction := c.d.def_ 4 (d := dd_fraction) rfl
  m_fraction := He.glo_ok X G (c.d.fact 4 (f := .glo "fraction") rfl)
  d_plus := c.d.def_ 5 (d := dd_plus) rfl
  m_plus := He.glo_ok X G (c.d.fact 5 (f := .glo "plus") rfl)
  d_minus := c.d.def_ 6 (d := dd_minus) rfl
  m_minus := He.glo_ok X G (c.d.fact 6 (f := .glo "minus") rfl)
  d_times := c.d.def_ 7 (d := dd_times) rfl
  m_times := He.glo_ok X G (c.d.fact 7 (f := .glo "times") rfl)
  d_over := c.d.def_ 8 (d := dd_over) rfl
  m_over := He.glo_ok X G (c.d.fact 8 (f := .glo "over") rfl)
  d_power_in := c.d.def_ 9 (d := dd_power_in) rfl
  m_power_in := He.glo_ok X G (c.d.fact 9 (f := .glo "power_in") rfl)
  d_prime_power := c.d.def_ 10 (d := dd_prime_power) rfl
  m_prime_power := He.glo_ok X G (c.d.fact 10 (f := .glo "prime_power") rfl)
  d_rest_by := c.d.def_ 11 (d := dd_rest_by) rfl
  m_rest_by := He.glo_ok X G (c.d.fact 11 (f := .glo "rest_by") rfl)
  d_measure := c.d.def_ 12 (d := dd_measure) rfl
  m_measure := He.glo_ok X G (c.d.fact 12 (f := .glo "measure") rfl)
  d_product := c.d.def_ 13 (d := dd_product) rfl
  m_product := He.glo_ok X G (c.d.fact 13 (f := .glo "product") rfl)
  d_least_power := c.d.def_ 14 (d := dd_least_power) rfl
  m_least_power := He.glo_ok X G (c.d.fact 14 (f := .glo "least_power") rfl)
  d_spot_of := c.d.def_ 15 (d := dd_spot_of) rfl
  m_spot_of := He.glo_ok X G (c.d.fact 15 (f := .glo "spot_of") rfl)
  d_table_at := c.d.def_ 16 (d := dd_table_at) rfl
  m_table_at := He.glo_ok X G (c.d.fact 16 (f := .glo "table_at") rfl)
  d_moved := c.d.def_ 17 (d := dd_moved) rfl
  m_moved := He.glo_ok X G (c.d.fact 17 (f := .glo "moved") rfl)
  d_mover := c.d.def_ 18 (d := dd_mover) rfl
  m_mover := He.glo_ok X G (c.d.fact 18 (f := .glo "mover") rfl)
  d__law_cell := c.d.def_ 19 (d := dd__law_cell) rfl
  m__law_cell := He.glo_ok X G (c.d.fact 19 (f := .glo "_law_cell") rfl)
  d__law_whole := c.d.def_ 20 (d := dd__law_whole) rfl
  m__law_whole := He.glo_ok X G (c.d.fact 20 (f := .glo "_law_whole") rfl)
  d__law_low := c.d.def_ 21 (d := dd__law_low) rfl
  m__law_low := He.glo_ok X G (c.d.fact 21 (f := .glo "_law_low") rfl)
  d__law_sum := c.d.def_ 22 (d := dd__law_sum) rfl
  m__law_sum := He.glo_ok X G (c.d.fact 22 (f := .glo "_law_sum") rfl)
  d__law_both := c.d.def_ 23 (d := dd__law_both) rfl
  m__law_both := He.glo_ok X G (c.d.fact 23 (f := .glo "_law_both") rfl)
  d__law_by := c.d.def_ 24 (d := dd__law_by) rfl
  m__law_by := He.glo_ok X G (c.d.fact 24 (f := .glo "_law_by") rfl)
  d__law_power := c.d.def_ 25 (d := dd__law_power) rfl
  m__law_power := He.glo_ok X G (c.d.fact 25 (f := .glo "_law_power") rfl)
  d__law_prime_power := c.d.def_ 26 (d := dd__law_prime_power) rfl
  m__law_prime_power := He.glo_ok X G (c.d.fact 26 (f := .glo "_law_prime_power") rfl)
  d__law_rest := c.d.def_ 27 (d := dd__law_rest) rfl
  m__law_rest := He.glo_ok X G (c.d.fact 27 (f := .glo "_law_rest") rfl)
  d__law_moved := c.d.def_ 28 (d := dd__law_moved) rfl
  m__law_moved := He.glo_ok X G (c.d.fact 28 (f := .glo "_law_moved") rfl)
  d__law_measure := c.d.def_ 29 (d := dd__law_measure) rfl
  m__law_measure := He.glo_ok X G (c.d.fact 29 (f := .glo "_law_measure") rfl)
  d__law_prime := c.d.def_ 30 (d := dd__law_prime) rfl
  m__law_prime := He.glo_ok X G (c.d.fact 30 (f := .glo "_law_prime") rfl)
  d__law_number := c.d.def_ 31 (d := dd__law_number) rfl
  m__law_number := He.glo_ok X G (c.d.fact 31 (f := .glo "_law_number") rfl)
  d__law_table := c.d.def_ 32 (d := dd__law_table) rfl
  m__law_table := He.glo_ok X G (c.d.fact 32 (f := .glo "_law_table") rfl)
  d__law_spot := c.d.def_ 33 (d := dd__law_spot) rfl
  m__law_spot := He.glo_ok X G (c.d.fact 33 (f := .glo "_law_spot") rfl)
  d__law_is_spot := c.d.def_ 34 (d := dd__law_is_spot) rfl
  m__law_is_spot := He.glo_ok X G (c.d.fact 34 (f := .glo "_law_is_spot") rfl)
  d_law := c.d.def_ 35 (d := dd_law) rfl
  m_law := He.glo_ok X G (c.d.fact 35 (f := .glo "law") rfl)
  n_abs := He.free_ok X G (c.d.fact 36 (f := .free "abs") rfl)
  n_all := He.free_ok X G (c.d.fact 37 (f := .free "all") rfl)
  n_bool := He.free_ok X G (c.d.fact 38 (f := .free "bool") rfl)
  n_int := He.free_ok X G (c.d.fact 39 (f := .free "int") rfl)
  n_isinstance := He.free_ok X G (c.d.fact 40 (f := .free "isinstance") rfl)
  n_len := He.free_ok X G (c.d.fact 41 (f := .free "len") rfl)
  n_max := He.free_ok X G (c.d.fact 42 (f := .free "max") rfl)
  n_min := He.free_ok X G (c.d.fact 43 (f := .free "min") rfl)
  n_range := He.free_ok X G (c.d.fact 44 (f := .free "range") rfl)
  n_tuple := He.free_ok X G (c.d.fact 45 (f := .free "tuple") rfl)
  k_NOUGHT_fractions := conD_ok X G (c.ex 0 (e := conD "NOUGHT_fractions" k_NOUGHT) rfl)
  k_NOUGHT_grids := conD_ok X G (c.ex 1 (e := conD "NOUGHT_grids" k_NOUGHT) rfl)
  k_ONE := conD_ok X G (c.ex 2 (e := conD "ONE" k_ONE) rfl)
  x_NoFraction := xf_of X G (c.d.fact 46 (f := .glo "NoFraction") rfl) (c.d.fact 47 (f := .exc "NoFraction") rfl)
end PL
open PySem PySem.W PySem.Calls PyProof.Rows
set_option maxRecDepth 100000 in
set_option maxHeartbeats 0 in
theorem PySem.Challenge.cw_primetree_k51_spots_moved_holds : PySem.Challenge.rw_primetree_k51_spots_moved.Holds := by
  w_on; o_law
  refine HandSHeadRun.head_any (r := PL.Rw) (q := PySem.W.view PL.Rw.prog [47]) (H := PL.hk) (ob := PL.ob) (M := 20000) (loose := PL.loose) (d := HandSHeadRun.topDef PL.Rw.prog 47) (kwd := []) PL.ob_eq (by kernel_rfl) (fun s => by kernel_rfl) PL.run (by kernel_rfl) (by kernel_rfl) (by kernel_rfl) (by rfl) (by first | assumption | decide +kernel) (by decide +kernel) ⟨rfl, rfl, rfl, rfl, rfl, by decide +kernel⟩ ?hw ?hc
  case hw => w_witness2
  case hc =>
    refine PT.law_endT (l := PySem.Challenge.rw_primetree_k51_spots_moved) (k := 9) (x := "_law_script") (PT.LawTwo 10 PT.w_law1 PT.w_law2 PT.w_law3 PT.a_law1 PT.a_law2 4 5 2 PT.w_lawB) rfl (by kernel_rfl) ⟨rfl, by decide, by decide⟩ ?F PT.law_two
    intro w mg fa h Y G hmg
    obtain ⟨K, KX, c⟩ := Y
    have e : (HandSHeadRun.topDef PL.Rw.prog 47).name = ("law" : PySem.Str) := by kernel_rfl
    rw [e] at hmg
    have g := PL.gf KX G (PT.saysP_of c.t.d c.more)
    have q := hmg.symm.trans g.m_law
    cases q
    refine ⟨K, g.d_law.choose, [He.cT K ("mover", none)], PL.tn_move K, KX, fun p hp => ?_, fun p hp => ?_, fun p hp => ?_, fun p hp => ?_, fun s v => L2.FunD.bindsA (ps := ["_law_script"]) g.d_law.choose_spec (fun _ _ _ _ _ _ us hl => match us, hl with | [_], _ => rfl) s [v] rfl, fun base _ _ hT => PL.ok_all g (hT _ List.mem_cons_self)⟩
    · rw [List.mem_singleton.mp hp]; exact c.empty _ List.mem_cons_self
    · rw [List.mem_singleton.mp hp]; exact c.out _ List.mem_cons_self
    · rw [List.mem_singleton.mp hp]; exact PySem.W.codeHd_of_K KX (c.hd _ List.mem_cons_self)
    · rw [List.mem_singleton.mp hp]; exact ⟨_, List.mem_cons_self⟩
