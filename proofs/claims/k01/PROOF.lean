import PyProof.Rows.All
import Wide.All
import OpenK.AllK
import Wide.FinOn
import HandS.ForMost
import HandS.ForExc
import HandS.Wide
import HandS.CallSlots
import HandS.IsInst
import HandS.HeadWalk
import HandS.HeadHook4
import HandS.HeadEnd
import HandS.TupAny
import HandS.TupLe
import HandS.TupMul
import KE.KStateDown
import HandS.Head0
import HandS.Head1
import HandS.Head2
import HandS.HeadHook2
import PySem.Challenge.RW_nestletters_k01_whole_ratios
set_option Elab.async false
set_option linter.all false
set_option maxRecDepth 100000
set_option maxHeartbeats 4000000
namespace PF
open PySem PySem.Spec PyProof.Rows L2
abbrev St := L2.St
inductive W where
  | non | bl (b : Bool) | int (i : Int) | str (x : Str)
  | tup (ws : List W) | lst (ws : List W)
  | dct (ks : List Key) (ws : List W)
  | scr (n : Nat) | stt
  | clo (i : Nat) (ws : List W) | exo (c : Nat) (fs : List W) | ref (n : Nat)
inductive T (α : Type) where
  | ok (a : α) | exc (c : Nat) (fs : List W) | bad | ask (n : Nat) (k : Nat → T α)
def T.bind {α β : Type} : T α → (α → T β) → T β
  | .ok a, f => f a
  | .exc c fs, _ => .exc c fs
  | .bad, _ => .bad
  | .ask n k, f => .ask n fun i => (k i).bind f
/-- d: how many draws may come -/
def T.AllB {α : Type} (P : Nat → α → Prop) (E : Nat → Nat → List W → Prop) : Nat → T α → Prop
  | d, .ok a => P d a
  | d, .exc c fs => E d c fs
  | _, .bad => False
  | d, .ask n k => ∃ e, d = e + 1 ∧ ∀ i, i < n → T.AllB P E e (k i)
theorem T.AllB.imp {α : Type} {P P' : Nat → α → Prop} {E E' : Nat → Nat → List W → Prop} (h : ∀ d a, P d a → P' d a) (g : ∀ d c fs, E d c fs → E' d c fs) : ∀ {t : T α} {d : Nat}, t.AllB P E d → t.AllB P' E' d
  | .ok a, d, x => h d a x
  | .exc c fs, d, x => g d c fs x
  | .bad, _, x => x
  | .ask n k, d, x => by
    obtain ⟨e, he, x⟩ := x
    exact ⟨e, he, fun i hi => T.AllB.imp h g (x i hi)⟩
theorem T.allB_bind {α β : Type} {P : Nat → β → Prop} {E : Nat → Nat → List W → Prop} {f : α → T β} : ∀ {t : T α} {d : Nat}, (t.bind f).AllB P E d ↔ t.AllB (fun d a => (f a).AllB P E d) E d
  | .ok a, d => Iff.rfl
  | .exc c fs, d => Iff.rfl
  | .bad, _ => Iff.rfl
  | .ask n k, d => by
    constructor
    · rintro ⟨e, he, x⟩
      exact ⟨e, he, fun i hi => T.allB_bind.mp (x i hi)⟩
    · rintro ⟨e, he, x⟩
      exact ⟨e, he, fun i hi => T.allB_bind.mpr (x i hi)⟩
structure Cc where
  S : Addr
  ca : Addr
  la : Addr
  A : List Addr
def kCells : Str := "cells"
def kLefts : Str := "lefts"
def kAt : Str := "at"
def kRoom : Str := "room"
/-- the state stands; so many draws may come -/
def StOk (c : Cc) (d : Nat) (H : Hp) : Prop :=
  ∃ (cells lefts : List Int) (k r : Int), H c.S = some (.dK [(.inr kCells, .ref c.ca), (.inr kLefts, .ref c.la), (.inr kAt, .int k), (.inr kRoom, .int r)]) ∧
    H c.ca = some (.lst (cells.map V.int)) ∧ H c.la = some (.lst (lefts.map V.int)) ∧ lefts.length = cells.length ∧ 0 < cells.length ∧ 0 ≤ k ∧ k + d ≤ 2 ^ 60 ∧ c.ca ≠ c.la
/-- all but the state's own two objects is kept -/
def Step (c : Cc) (H H' : Hp) : Prop := ∀ b o, H b = some o → b ≠ c.S → b ≠ c.la → H' b = some o
theorem Step.refl (c : Cc) (H : Hp) : Step c H H := fun _ _ e _ _ => e
theorem Step.trans {c : Cc} {H H1 H2 : Hp} (a : Step c H H1) (b : Step c H1 H2) : Step c H H2 := fun x o e h1 h2 => b x o (a x o e h1 h2) h1 h2
theorem Step.new {c : Cc} {H : Hp} {p : Addr} {o : HO} (n : H p = none) : Step c H (upd H p o) := fun b u e _ _ => by
  rw [upd_ne (ne_of_none e n)]
  exact e
theorem StOk.new {c : Cc} {d : Nat} {H : Hp} {p : Addr} {o : HO} (s : StOk c d H) (n : H p = none) : StOk c d (upd H p o) := by
  obtain ⟨cells, lefts, k, r, h1, h2, h3, h⟩ := s
  exact ⟨cells, lefts, k, r, by rw [upd_ne (ne_of_none h1 n)]; exact h1, by rw [upd_ne (ne_of_none h2 n)]; exact h2, by rw [upd_ne (ne_of_none h3 n)]; exact h3, h⟩
theorem StOk.S {c : Cc} {d : Nat} {H : Hp} (s : StOk c d H) : ∃ kvs, H c.S = some (.dK kvs) := by
  obtain ⟨_, _, _, _, h1, _⟩ := s
  exact ⟨_, h1⟩
theorem StOk.la {c : Cc} {d : Nat} {H : Hp} (s : StOk c d H) : ∃ xs, H c.la = some (.lst xs) := by
  obtain ⟨_, _, _, _, _, _, h3, _⟩ := s
  exact ⟨_, h3⟩
mutual
inductive Rep (K : PySem.W.Frag) (c : Cc) (H : Hp) : W → V → Prop
  | non : Rep K c H .non .non
  | bl (b : Bool) : Rep K c H (.bl b) (.bl b)
  | int (i : Int) : Rep K c H (.int i) (.int i)
  | str (x : Str) : Rep K c H (.str x) (.str x)
  | tup {a : Addr} {vs : List V} {ws : List W} : SqT K H a vs → RepL K c H ws vs → Rep K c H (.tup ws) (.ref a)
  | lst {a : Addr} {vs : List V} {ws : List W} : a ∉ c.A → H a = some (.lst vs) → RepL K c H ws vs → Rep K c H (.lst ws) (.ref a)
  | dct {a : Addr} {kvs : List (Key × V)} {ws : List W} : a ∉ c.A → H a = some (.dK kvs) → RepL K c H ws (kvs.map (·.2)) → Rep K c H (.dct (kvs.map (·.1)) ws) (.ref a)
  | scr {a : Addr} {ns : List Int} : (a ∉ c.A ∧ Rd H a (.lst (ns.map V.int))) ∨ SqL K (fun _ => none) a (ns.map V.int) → Rep K c H (.scr ns.length) (.ref a)
  | stt : Rep K c H .stt (.ref c.S)
inductive RepL (K : PySem.W.Frag) (c : Cc) (H : Hp) : List W → List V → Prop
  | nil : RepL K c H [] []
  | cons {w : W} {v : V} {ws : List W} {vs : List V} : Rep K c H w v → RepL K c H ws vs → RepL K c H (w :: ws) (v :: vs)
end
theorem Step.sqT {K : PySem.W.Frag} {c : Cc} {d : Nat} {H H' : Hp} {a : Addr} {vs : List V} (st : Step c H H') (s : StOk c d H) (h : SqT K H a vs) : SqT K H' a vs := by
  obtain ⟨kvs, hS⟩ := s.S
  obtain ⟨xs, hl⟩ := s.la
  rcases h with (h | ⟨o, h⟩) | h
  · exact .inl (.inl (st _ _ h (ne_of h hS (by intro z; cases z)) (ne_of h hl (by intro z; cases z))))
  · exact .inl (.inr ⟨o, st _ _ h (ne_of h hS (by intro z; cases z)) (ne_of h hl (by intro z; cases z))⟩)
  · exact .inr h
/-- what is fixed through a run -/
structure CcOk (c : Cc) : Prop where
  inS : c.S ∈ c.A
  inla : c.la ∈ c.A
  inca : c.ca ∈ c.A
theorem CcOk.neS {c : Cc} (h : CcOk c) {a : Addr} (n : a ∉ c.A) : a ≠ c.S := fun e => n (e ▸ h.inS)
theorem CcOk.nela {c : Cc} (h : CcOk c) {a : Addr} (n : a ∉ c.A) : a ≠ c.la := fun e => n (e ▸ h.inla)
theorem sqL_split {K : PySem.W.Frag} {H : Hp} {a : Addr} {vs : List V} (h : SqL K H a vs) : Rd H a (.lst vs) ∨ SqL K (fun _ => none) a vs := by
  rcases h with h | h
  · exact .inl h
  · exact .inr (.inr h)
theorem sqL_of_none {K : PySem.W.Frag} {H : Hp} {a : Addr} {vs : List V} (h : SqL K (fun _ => none) a vs) : SqL K H a vs := by
  rcases h with (h | ⟨_, h⟩) | h
  · cases h
  · cases h
  · exact .inr h
section
variable {K : PySem.W.Frag} {c : Cc} {d : Nat} {H H' : Hp}
theorem Step.lst {a : Addr} {o : HO} (st : Step c H H') (ok : CcOk c) (n : a ∉ c.A) (h : H a = some o) : H' a = some o := st a o h (ok.neS n) (ok.nela n)
mutual
theorem Rep.step (st : Step c H H') (s : StOk c d H) (ok : CcOk c) : ∀ {w : W} {v : V}, Rep K c H w v → Rep K c H' w v
  | _, _, .non => .non
  | _, _, .bl b => .bl b
  | _, _, .int i => .int i
  | _, _, .str x => .str x
  | _, _, .tup h r => .tup (st.sqT s h) (RepL.step st s ok r)
  | _, _, .lst n h r => .lst n (st.lst ok n h) (RepL.step st s ok r)
  | _, _, .dct n h r => .dct n (st.lst ok n h) (RepL.step st s ok r)
  | _, _, .scr h => .scr (h.imp (fun ⟨n, r⟩ => ⟨n, r.imp (fun e => st.lst ok n e) fun ⟨o, e⟩ => ⟨o, st.lst ok n e⟩⟩) id)
  | _, _, .stt => .stt
theorem RepL.step (st : Step c H H') (s : StOk c d H) (ok : CcOk c) : ∀ {ws : List W} {vs : List V}, RepL K c H ws vs → RepL K c H' ws vs
  | _, _, .nil => .nil
  | _, _, .cons h r => .cons (Rep.step st s ok h) (RepL.step st s ok r)
end
theorem RepL.length : ∀ {ws : List W} {vs : List V}, RepL K c H ws vs → ws.length = vs.length
  | _, _, .nil => rfl
  | _, _, .cons _ r => congrArg (· + 1) (RepL.length r)
theorem RepL.get : ∀ {ws : List W} {vs : List V}, RepL K c H ws vs → ∀ {i : Nat} {w : W}, ws[i]? = some w → ∃ v, vs[i]? = some v ∧ Rep K c H w v
  | _, _, .nil, i, w, e => by simp at e
  | _, _, .cons h r, 0, w, e => by
    simp at e
    subst e
    exact ⟨_, rfl, h⟩
  | _, _, .cons h r, i + 1, w, e => by
    obtain ⟨v, e1, e2⟩ := RepL.get r (i := i) (w := w) (by simpa using e)
    exact ⟨v, by simpa using e1, e2⟩
theorem RepL.append : ∀ {ws ws' : List W} {vs vs' : List V}, RepL K c H ws vs → RepL K c H ws' vs' → RepL K c H (ws ++ ws') (vs ++ vs')
  | _, _, _, _, .nil, h => h
  | _, _, _, _, .cons h r, h' => .cons h (RepL.append r h')
theorem RepL.take : ∀ {ws : List W} {vs : List V} (n : Nat), RepL K c H ws vs → RepL K c H (ws.take n) (vs.take n)
  | _, _, 0, _ => .nil
  | _, _, _ + 1, .nil => .nil
  | _, _, n + 1, .cons h r => .cons h (RepL.take n r)
theorem RepL.drop : ∀ {ws : List W} {vs : List V} (n : Nat), RepL K c H ws vs → RepL K c H (ws.drop n) (vs.drop n)
  | _, _, 0, r => r
  | _, _, _ + 1, .nil => .nil
  | _, _, n + 1, .cons _ r => RepL.drop n r
theorem RepL.set : ∀ {ws : List W} {vs : List V} {w : W} {v : V} (n : Nat), RepL K c H ws vs → Rep K c H w v → RepL K c H (ws.set n w) (vs.set n v)
  | _, _, _, _, _, .nil, _ => .nil
  | _, _, _, _, 0, .cons _ r, h => .cons h r
  | _, _, _, _, n + 1, .cons q r, h => .cons q (RepL.set n r h)
theorem RepL.reverse : ∀ {ws : List W} {vs : List V}, RepL K c H ws vs → RepL K c H ws.reverse vs.reverse
  | _, _, .nil => .nil
  | _, _, .cons h r => by
    rw [List.reverse_cons, List.reverse_cons]
    exact (RepL.reverse r).append (.cons h .nil)
/-- a list of ints, of bools, of texts: the values are told -/
theorem RepL.ints : ∀ {ns : List Int} {vs : List V}, RepL K c H (ns.map W.int) vs → vs = ns.map V.int
  | [], _, .nil => rfl
  | n :: ns, _, .cons h r => by
    cases h
    rw [RepL.ints r]
    rfl
theorem RepL.bls : ∀ {ns : List Bool} {vs : List V}, RepL K c H (ns.map W.bl) vs → vs = ns.map V.bl
  | [], _, .nil => rfl
  | n :: ns, _, .cons h r => by
    cases h
    rw [RepL.bls r]
    rfl
theorem RepL.strs : ∀ {ns : List Str} {vs : List V}, RepL K c H (ns.map W.str) vs → vs = ns.map V.str
  | [], _, .nil => rfl
  | n :: ns, _, .cons h r => by
    cases h
    rw [RepL.strs r]
    rfl
theorem RepL.ofInts : ∀ (ns : List Int), RepL K c H (ns.map W.int) (ns.map V.int)
  | [] => .nil
  | n :: ns => .cons (.int n) (RepL.ofInts ns)
end
/-- the world stands -/
structure Wd (c : Cc) (d : Nat) (H : Hp) : Prop where
  ok : CcOk c
  st : StOk c d H
  av : ∀ b ∈ c.A, ∃ o, H b = some o
theorem Wd.fresh {c : Cc} {d : Nat} {H : Hp} {p : Addr} (w : Wd c d H) (n : H p = none) : p ∉ c.A := fun h => by
  obtain ⟨o, e⟩ := w.av p h
  rw [n] at e
  cases e
theorem Wd.step {c : Cc} {d d' : Nat} {H H' : Hp} (w : Wd c d H) (st : Step c H H') (s' : StOk c d' H') : Wd c d' H' := ⟨w.ok, s', fun b hb => by
    obtain ⟨o, h⟩ := w.av b hb
    by_cases h1 : b = c.S
    · obtain ⟨kvs, h2⟩ := s'.S
      exact ⟨_, h1 ▸ h2⟩
    · by_cases h2 : b = c.la
      · obtain ⟨xs, h3⟩ := s'.la
        exact ⟨_, h2 ▸ h3⟩
      · exact ⟨o, st b o h h1 h2⟩⟩
theorem Wd.new {c : Cc} {d : Nat} {H : Hp} {p : Addr} {o : HO} (w : Wd c d H) (n : H p = none) : Wd c d (upd H p o) := w.step (.new n) (w.st.new n)
inductive Sl where
  | un | val (w : W) | own (ws : List W)
abbrev En := List Sl
/-- oa: the addresses of the lists that the frame's own slots hold -/
structure EnvOk (K : PySem.W.Frag) (c : Cc) (d : Nat) (oa : Nat → Addr) (ρ : En) (σ : St) (H : Hp) : Prop where
  ok : CcOk c
  st : StOk c d H
  av : ∀ b ∈ c.A, ∃ o, H b = some o
  len : ρ.length = σ.length
  val : ∀ (i : Nat) (w : W), ρ[i]? = some (.val w) → ∃ v, σ[i]? = some (some v) ∧ Rep K c H w v
  own : ∀ (i : Nat) (ws : List W), ρ[i]? = some (.own ws) → oa i ∈ c.A ∧ oa i ∉ [c.S, c.ca, c.la] ∧ σ[i]? = some (some (.ref (oa i))) ∧ ∃ vs, H (oa i) = some (.lst vs) ∧ RepL K c H ws vs
  inj : ∀ (i j : Nat) (ws us : List W), ρ[i]? = some (.own ws) → ρ[j]? = some (.own us) → oa i = oa j → i = j
section
variable {K : PySem.W.Frag} {c : Cc} {d d' : Nat} {oa : Nat → Addr} {ρ : En} {σ : St} {H H' : Hp}
theorem EnvOk.wd (e : EnvOk K c d oa ρ σ H) : Wd c d H := ⟨e.ok, e.st, e.av⟩
theorem EnvOk.step (e : EnvOk K c d oa ρ σ H) (st : Step c H H') (s' : StOk c d' H') : EnvOk K c d' oa ρ σ H' where
  ok := e.ok
  st := s'
  av := (e.wd.step st s').av
  len := e.len
  val := fun i w h => by
    obtain ⟨v, h1, h2⟩ := e.val i w h
    exact ⟨v, h1, h2.step st e.st e.ok⟩
  own := fun i ws h => by
    obtain ⟨h1, h2, h3, vs, h4, h5⟩ := e.own i ws h
    refine ⟨h1, h2, h3, vs, st _ _ h4 ?_ ?_, h5.step st e.st e.ok⟩
    · intro z
      exact h2 (by rw [z]; simp)
    · intro z
      exact h2 (by rw [z]; simp)
  inj := e.inj
end
/-- an error's class is the module's name at n of cs; its dict holds the fields -/
def RepX (K : PySem.W.Frag) (c : Cc) (H : Hp) (n : Nat) (fs : List W) (cls : Value) (dx : Option Addr) : Prop := False
/-- what is wanted of an expression's run -/
def PQ (K : PySem.W.Frag) (c : Cc) (H : Hp) (Q : VK) : Nat → W → Prop := fun d w => ∀ v H', Step c H H' → StOk c d H' → Rep K c H' w v → Q v H'
def PQL (K : PySem.W.Frag) (c : Cc) (H : Hp) (Q : List V → Hp → Prop) : Nat → List W → Prop := fun d ws => ∀ vs H', Step c H H' → StOk c d H' → RepL K c H' ws vs → Q vs H'
def PB (c : Cc) (H : Hp) (Q : Bool → Hp → Prop) : Nat → Bool → Prop := fun d b => ∀ H', Step c H H' → StOk c d H' → Q b H'
theorem PB.later {c : Cc} {H H1 : Hp} {Q : Bool → Hp → Prop} {d : Nat} {b : Bool} (s : Step c H H1) (h : PB c H Q d b) : PB c H1 Q d b := fun H' st so => h H' (s.trans st) so
def PX (K : PySem.W.Frag) (c : Cc) (H : Hp) (E : XK) : Nat → Nat → List W → Prop := fun d n fs => ∀ cls dx H', Step c H H' → StOk c d H' → RepX K c H' n fs cls dx → E cls dx H'
theorem PQ.later {K : PySem.W.Frag} {c : Cc} {H H1 : Hp} {Q : VK} {d : Nat} {w : W} (s : Step c H H1) (h : PQ K c H Q d w) : PQ K c H1 Q d w := fun v H' st so r => h v H' (s.trans st) so r
theorem PQL.later {K : PySem.W.Frag} {c : Cc} {H H1 : Hp} {Q : List V → Hp → Prop} {d : Nat} {w : List W} (s : Step c H H1) (h : PQL K c H Q d w) : PQL K c H1 Q d w := fun v H' st so r => h v H' (s.trans st) so r
theorem PX.later {K : PySem.W.Frag} {c : Cc} {H H1 : Hp} {E : XK} {d n : Nat} {fs : List W} (s : Step c H H1) (h : PX K c H E d n fs) : PX K c H1 E d n fs := fun v dx H' st so r => h v dx H' (s.trans st) so r
def liftE (K : PySem.W.Frag) (E : WX) (f : En → T W) : TE := fun σ H Q => ∃ c d oa ρ, EnvOk K c d oa ρ σ H ∧ (f ρ).AllB (PQ K c H Q) (PX K c H fun cls dx H' => E cls dx σ H') d
def liftA (K : PySem.W.Frag) (E : WX) (f : En → T (List W)) : TA := fun σ H Q => ∃ c d oa ρ, EnvOk K c d oa ρ σ H ∧ (f ρ).AllB (PQL K c H Q) (PX K c H fun cls dx H' => E cls dx σ H') d
def liftB (K : PySem.W.Frag) (E : WX) (f : En → T Bool) : TT := fun σ H Q => ∃ c d oa ρ, EnvOk K c d oa ρ σ H ∧ (f ρ).AllB (PB c H Q) (PX K c H fun cls dx H' => E cls dx σ H') d
def TrE (X : Cx) (E : WX) (e : Expr) (f : En → T W) : Prop := PE X e (liftE X.K E f)
def TrA (X : Cx) (E : WX) (es : List Expr) (f : En → T (List W)) : Prop := PA X es (liftA X.K E f)
def TrB (X : Cx) (E : WX) (e : Expr) (f : En → T Bool) : Prop := PT X e (liftB X.K E f)
theorem pe_imp {X : Cx} {e : Expr} {t t' : TE} (h : PE X e t) (i : ∀ σ H Q, t' σ H Q → t σ H Q) : PE X e t' := ⟨fun pins s σ H Q I q => h.run pins s σ H Q I (i σ H Q q)⟩
theorem pa_imp {X : Cx} {e : List Expr} {t t' : TA} (h : PA X e t) (i : ∀ σ H Q, t' σ H Q → t σ H Q) : PA X e t' := ⟨fun pos pins s σ H Q I q => h.run pos pins s σ H Q I (i σ H Q q)⟩
theorem pt_imp {X : Cx} {e : Expr} {t t' : TT} (h : PT X e t) (i : ∀ σ H Q, t' σ H Q → t σ H Q) : PT X e t' := ⟨fun pins s σ H Q I q => h.run pins s σ H Q I (i σ H Q q)⟩
theorem pw_imp {X : Cx} {e : Expr} {t t' : TT} (h : PW X e t) (i : ∀ σ H Q, t' σ H Q → t σ H Q) : PW X e t' := ⟨fun wh pins s σ H Q I q => h.run wh pins s σ H Q I (i σ H Q q)⟩
theorem ps_imp {X : Cx} {e : Stmt} {t t' : TS} (h : PS X e t) (i : ∀ D σ H, t' D σ H → t D σ H) : PS X e t' := ⟨fun pins s σ H D I q => h.run pins s σ H D I (i D σ H q)⟩
theorem pss_imp {X : Cx} {e : List Stmt} {t t' : TS} (h : PSs X e t) (i : ∀ D σ H, t' D σ H → t D σ H) : PSs X e t' := ⟨fun pins s σ H D I q => h.run pins s σ H D I (i D σ H q)⟩
section
variable {K : PySem.W.Frag} {E : WX} {f : En → T W} {g : W → T W} {c : Cc} {d : Nat} {oa : Nat → Addr} {ρ : En} {σ : St} {H : Hp} {Q : VK}
/-- a run, then something of its value -/
theorem lift_then {β : Type} {P : Cc → Hp → Nat → β → Prop} {G : W → T β} {R : V → Hp → Prop} (e : EnvOk K c d oa ρ σ H) (h : ((f ρ).bind G).AllB (P c H) (PX K c H fun cls dx H' => E cls dx σ H') d)
    (lt : ∀ {H1 d' b}, Step c H H1 → P c H d' b → P c H1 d' b)
    (go : ∀ w v H1 d1, Step c H H1 → Rep K c H1 w v → EnvOk K c d1 oa ρ σ H1 → (G w).AllB (P c H1) (PX K c H1 fun cls dx H' => E cls dx σ H') d1 → R v H1) : liftE K E f σ H R := by
  refine ⟨c, d, oa, ρ, e, T.AllB.imp (fun d1 w x => ?_) (fun _ _ _ x => x) (T.allB_bind.mp h)⟩
  intro v H1 st so r
  exact go w v H1 d1 st r (e.step st so) (T.AllB.imp (fun _ _ y => lt st y) (fun _ _ _ y => y.later st) x)
theorem liftB_then {β : Type} {fb : En → T Bool} {P : Cc → Hp → Nat → β → Prop} {G : Bool → T β} {R : Bool → Hp → Prop} (e : EnvOk K c d oa ρ σ H) (h : ((fb ρ).bind G).AllB (P c H) (PX K c H fun cls dx H' => E cls dx σ H') d)
    (lt : ∀ {H1 d' b}, Step c H H1 → P c H d' b → P c H1 d' b)
    (go : ∀ b H1 d1, Step c H H1 → EnvOk K c d1 oa ρ σ H1 → (G b).AllB (P c H1) (PX K c H1 fun cls dx H' => E cls dx σ H') d1 → R b H1) : liftB K E fb σ H R := by
  refine ⟨c, d, oa, ρ, e, T.AllB.imp (fun d1 w x => ?_) (fun _ _ _ x => x) (T.allB_bind.mp h)⟩
  intro H1 st so
  exact go w H1 d1 st (e.step st so) (T.AllB.imp (fun _ _ y => lt st y) (fun _ _ _ y => y.later st) x)
theorem liftA_then {β : Type} {fs : En → T (List W)} {P : Cc → Hp → Nat → β → Prop} {G : List W → T β} {R : List V → Hp → Prop} (e : EnvOk K c d oa ρ σ H) (h : ((fs ρ).bind G).AllB (P c H) (PX K c H fun cls dx H' => E cls dx σ H') d)
    (lt : ∀ {H1 d' b}, Step c H H1 → P c H d' b → P c H1 d' b)
    (go : ∀ w v H1 d1, Step c H H1 → RepL K c H1 w v → EnvOk K c d1 oa ρ σ H1 → (G w).AllB (P c H1) (PX K c H1 fun cls dx H' => E cls dx σ H') d1 → R v H1) : liftA K E fs σ H R := by
  refine ⟨c, d, oa, ρ, e, T.AllB.imp (fun d1 w x => ?_) (fun _ _ _ x => x) (T.allB_bind.mp h)⟩
  intro v H1 st so r
  exact go w v H1 d1 st r (e.step st so) (T.AllB.imp (fun _ _ y => lt st y) (fun _ _ _ y => y.later st) x)
end
end PF
namespace PF
open PySem PySem.Spec PyProof.Rows L2
section
variable {K : PySem.W.Frag} {c : Cc} {d : Nat} {H : Hp} {Q : VK} {E' : Nat → Nat → List W → Prop}
theorem PQ.now {w : W} {v : V} (wd : Wd c d H) (h : PQ K c H Q d w) (r : Rep K c H w v) : Q v H := h v H (.refl c H) wd.st r
theorem PQ.tup {ws : List W} {vs : List V} {p : Addr} (wd : Wd c d H) (h : PQ K c H Q d (.tup ws)) (r : RepL K c H ws vs) (n : H p = none) : Q (.ref p) (upd H p (.tup vs)) :=
  h _ _ (.new n) (wd.st.new n) (.tup (.of upd_same) (r.step (.new n) wd.st wd.ok))
theorem PQ.lst {ws : List W} {vs : List V} {p : Addr} (wd : Wd c d H) (h : PQ K c H Q d (.lst ws)) (r : RepL K c H ws vs) (n : H p = none) : Q (.ref p) (upd H p (.lst vs)) :=
  h _ _ (.new n) (wd.st.new n) (.lst (wd.fresh n) upd_same (r.step (.new n) wd.st wd.ok))
end
def gV (i : Nat) (ρ : En) : T W := match ρ[i]? with
  | some (.val w) => .ok w
  | _ => .bad
section
variable {X : Cx} {E : WX}
theorem gV_ok {K : PySem.W.Frag} {c : Cc} {d : Nat} {oa : Nat → Addr} {ρ : En} {σ : St} {H : Hp} {i : Nat} {P : Nat → W → Prop} {E' : Nat → Nat → List W → Prop} (e : EnvOk K c d oa ρ σ H) (h : (gV i ρ).AllB P E' d) :
    ∃ w v, σ[i]? = some (some v) ∧ Rep K c H w v ∧ P d w := by
  unfold gV at h
  split at h
  · rename_i w hw
    obtain ⟨v, h1, h2⟩ := e.val i w hw
    exact ⟨w, v, h1, h2, h⟩
  · exact h.elim
theorem tr_var (i : Nat) {x : Str} {pos : Pos} (hN : X.N[i]? = some x := by rfl) (hv : Vis X.env.scope x := by first | exact Or.inl rfl | exact Or.inr (Or.inl rfl) | exact Or.inr (Or.inr rfl)) (hd : (x == ("__debug__" : Str)) = false := by decide)
    (hcd : (x == ("__classdict__" : Str)) = false := by decide) : TrE X E (.Name x pos) (gV i) := pe_imp (pe_var hN hv hd hcd) fun σ H Q h => by
  obtain ⟨c, d, oa, ρ, e, h⟩ := h
  obtain ⟨w, v, h1, h2, h3⟩ := gV_ok e h
  exact ⟨v, h1, PQ.now e.wd h3 h2⟩
theorem tr_const {e : Expr} {v : V} {w : W} (h : PE X e (tC v)) (r : ∀ c H, Rep X.K c H w v) : TrE X E e (fun _ => .ok w) := pe_imp h fun σ H Q h => by
  obtain ⟨c, d, oa, ρ, e, h⟩ := h
  exact PQ.now e.wd h (r c H)
theorem tr_int {i j pos} : TrE X E (.Constant (.int i) j pos) (fun _ => .ok (.int i)) := tr_const pe_int fun _ _ => .int i
theorem tr_bl {b j pos} : TrE X E (.Constant (.bool b) j pos) (fun _ => .ok (.bl b)) := tr_const pe_bl fun _ _ => .bl b
theorem tr_non {j pos} : TrE X E (.Constant .none j pos) (fun _ => .ok .non) := tr_const pe_non fun _ _ => .non
theorem tr_str {x j pos} : TrE X E (.Constant (.str x) j pos) (fun _ => .ok (.str x)) := tr_const pe_str fun _ _ => .str x
theorem tr_glob {x : Str} {v : V} {u : Value} {w : W} {pos : Pos} (hg : Gl X x) (hm : X.mg x = some u) (r : RelV v u) (rw_ : ∀ c H, Rep X.K c H w v) (hd : (x == ("__debug__" : Str)) = false := by decide) : TrE X E (.Name x pos) (fun _ => .ok w) :=
  tr_const (pe_glob hg hm r hd) rw_
end
def f2 (g : W → W → T W) (fa fb : En → T W) : En → T W := fun ρ => (fa ρ).bind fun x => (fb ρ).bind fun y => g x y
def f1 (g : W → T W) (fa : En → T W) : En → T W := fun ρ => (fa ρ).bind g
def Sem2 (K : PySem.W.Frag) (r : R2) (g : W → W → T W) : Prop := ∀ (c : Cc) (d : Nat) (H : Hp) (x y : W) (v u : V) (Q : VK) (E' : Nat → Nat → List W → Prop), Wd c d H → Rep K c H x v → Rep K c H y u → (g x y).AllB (PQ K c H Q) E' d → r v u H Q
def Sem1 (K : PySem.W.Frag) (r : V → Hp → VK → Prop) (g : W → T W) : Prop := ∀ (c : Cc) (d : Nat) (H : Hp) (x : W) (v : V) (Q : VK) (E' : Nat → Nat → List W → Prop), Wd c d H → Rep K c H x v → (g x).AllB (PQ K c H Q) E' d → r v H Q
def SemL (K : PySem.W.Frag) (r : List V → Hp → VK → Prop) (g : List W → T W) : Prop := ∀ (c : Cc) (d : Nat) (H : Hp) (x : List W) (v : List V) (Q : VK) (E' : Nat → Nat → List W → Prop), Wd c d H → RepL K c H x v → (g x).AllB (PQ K c H Q) E' d → r v H Q
section
variable {X : Cx} {E : WX} {a b cc : Expr} {fa fb fc : En → T W} {g : W → W → T W} {g1 : W → T W} {r r' : R2} {pos : Pos}
theorem two (hs : Sem2 X.K r g) : ∀ σ H Q, liftE X.K E (f2 g fa fb) σ H Q → tOp r (liftE X.K E fa) (liftE X.K E fb) σ H Q := fun σ H Q h => by
  obtain ⟨c, d, oa, ρ, e, h⟩ := h
  refine lift_then (P := fun c H => PQ X.K c H Q) e h (fun st p => p.later st) fun w v H1 d1 _ r1 e1 h1 => ?_
  refine lift_then (P := fun c H => PQ X.K c H Q) e1 h1 (fun st p => p.later st) fun w2 v2 H2 d2 st2 r2 e2 h2 => ?_
  exact hs c d2 H2 w w2 v v2 Q _ e2.wd (r1.step st2 e1.st e1.ok) r2 h2
theorem one {r1 : V → Hp → VK → Prop} (hs : Sem1 X.K r1 g1) : ∀ σ H Q, liftE X.K E (f1 g1 fa) σ H Q → tUn r1 (liftE X.K E fa) σ H Q := fun σ H Q h => by
  obtain ⟨c, d, oa, ρ, e, h⟩ := h
  refine lift_then (P := fun c H => PQ X.K c H Q) e h (fun st p => p.later st) fun w v H1 d1 _ r1 e1 h1 => ?_
  exact hs c d1 H1 w v Q _ e1.wd r1 h1
theorem tr_op {op : Operator} (ho : OpR X (binaryOp op) r) (hs : Sem2 X.K r g) (ha : TrE X E a fa) (hb : TrE X E b fb) : TrE X E (.BinOp a op b pos) (f2 g fa fb) := pe_imp (pe_op ho ha hb) (two hs)
theorem tr_un {op : UnaryOp} {r1 : V → Hp → VK → Prop} (ho : UnR X (unaryOp op) r1) (hs : Sem1 X.K r1 g1) (ha : TrE X E a fa) : TrE X E (.UnaryOp op a pos) (f1 g1 fa) := pe_imp (pe_un ho ha) (one hs)
theorem tr_cmp {op : CmpOp} (ho : OpR X (compareOp op) r) (hs : Sem2 X.K r g) (ha : TrE X E a fa) (hb : TrE X E b fb) (hm : behindInMarks op b = false) : TrE X E (.Compare a [op] [b] pos) (f2 g fa fb) := pe_imp (pe_cmpR ho ha hb hm) (two hs)
theorem tr_ix (ho : IxR X r) (hs : Sem2 X.K r g) (ha : TrE X E a fa) (hb : TrE X E b fb) (hp : PlainIx b := by exact fun _ _ => rfl) : TrE X E (.Subscript a b pos) (f2 g fa fb) := pe_imp (pe_ix ho ha hb hp) (two hs)
/-- a op b op' c -/
def fCh (g g' : W → W → T W) (fa fb fc : En → T W) : En → T W := fun ρ => (fa ρ).bind fun x => (fb ρ).bind fun y => (g x y).bind fun z => match z with
  | .bl true => (fc ρ).bind fun w => g' y w
  | .bl false => .ok (.bl false)
  | _ => .bad
theorem tr_chain {op op' : CmpOp} {g' : W → W → T W} (ho : OpR X (compareOp op) r) (ho' : OpR X (compareOp op') r') (hs : Sem2 X.K r g) (hs' : Sem2 X.K r' g') (ha : TrE X E a fa) (hb : TrE X E b fb) (hc : TrE X E cc fc)
    (hm : lastMarks [op, op'] [b, cc] = false := by with_unfolding_all rfl) : TrE X E (.Compare a [op, op'] [b, cc] pos) (fCh g g' fa fb fc) := pe_imp (pe_chain ho ho' ha hb hc hm) fun σ H Q h => by
  obtain ⟨c, d, oa, ρ, e, h⟩ := h
  refine lift_then (P := fun c H => PQ X.K c H Q) e h (fun st p => p.later st) fun w v H1 d1 _ r1 e1 h1 => ?_
  refine lift_then (P := fun c H => PQ X.K c H Q) e1 h1 (fun st p => p.later st) fun w2 v2 H2 d2 st2 r2 e2 h2 => ?_
  refine hs c d2 H2 w w2 v v2 _ _ e2.wd (r1.step st2 e1.st e1.ok) r2 (T.AllB.imp (fun d3 z hz => ?_) (fun _ _ _ y => y) (T.allB_bind.mp h2))
  intro vz H3 st3 so3 rz
  have e3 := e2.step st3 so3
  cases z with
  | bl k =>
    cases rz
    refine ⟨k, rfl, ?_⟩
    cases k with
    | false => exact iteF (PQ.now e3.wd (PQ.later st3 hz) (.bl false))
    | true =>
      refine iteT (lift_then (P := fun c H => PQ X.K c H Q) e3 (T.AllB.imp (fun _ _ y => y.later st3) (fun _ _ _ y => y.later st3) hz) (fun st p => p.later st) fun w4 v4 H4 d4 st4 r4 e4 h4 => ?_)
      exact hs' c d4 H4 w2 w4 v2 v4 Q _ e4.wd ((r2.step st3 e2.st e2.ok).step st4 e3.st e3.ok) r4 h4
  | _ => exact hz.elim
end
theorem T.AllB.ite {α : Type} {P : Nat → α → Prop} {E : Nat → Nat → List W → Prop} {d : Nat} {b : Bool} {t : T α} (h : (if b then t else .bad).AllB P E d) : b = true ∧ t.AllB P E d := by
  cases b with
  | true => exact ⟨rfl, h⟩
  | false => exact h.elim
@[irreducible] def strOk (x : Str) : Bool := decide (x.length ≤ 16777216)
theorem strOk_of {x : Str} (h : strOk x = true) : x.length ≤ sizeLine := by
  rw [sizeLine_eq]
  unfold strOk at h
  exact of_decide_eq_true h
def truW : W → T Bool
  | .non => .ok false
  | .bl b => .ok b
  | .int i => .ok (i != 0)
  | .str y => if strOk y then .ok ((y.length : Int) != 0) else .bad
  | .tup ws => .ok !ws.isEmpty
  | .lst ws => .ok !ws.isEmpty
  | .dct ks _ => .ok !ks.isEmpty
  | _ => .bad
/-- a bool alone -/
def blW : W → T Bool
  | .bl b => .ok b
  | _ => .bad
def fTru (fa : En → T W) : En → T Bool := fun ρ => (fa ρ).bind truW
def fBl (fa : En → T W) : En → T Bool := fun ρ => (fa ρ).bind blW
theorem RepL.empty {K : PySem.W.Frag} {c : Cc} {H : Hp} {ws : List W} {vs : List V} (r : RepL K c H ws vs) : (!ws.isEmpty) = !vs.isEmpty := by
  cases r <;> rfl
section
variable {X : Cx} {E : WX} {a b cc : Expr} {fa fb fc : En → T W} {ta tb : En → T Bool} {g g' : W → W → T W} {r r' : R2} {pos : Pos} {rest : List Expr}
theorem trb_tru (ha : TrE X E a fa) (he : ∀ whole, isTrue a X.env whole = (do let v ← whole; standAt a.pos; holding [v] (truthy v)) := by intro _; rfl) : TrB X E a (fTru fa) := pt_imp (pt_truth ha he) fun σ H Q h => by
  obtain ⟨c, d, oa, ρ, e, h⟩ := h
  refine lift_then (P := fun c H => PB c H Q) e h (fun st p => p.later st) fun w v H1 d1 _ r1 e1 h1 => ?_
  have now : ∀ {b : Bool}, PB c H1 Q d1 b → Q b H1 := fun h => h H1 (.refl c H1) e1.st
  cases r1 with
  | non => exact ⟨false, rfl, now h1⟩
  | bl b => exact ⟨b, rfl, now h1⟩
  | int i => exact ⟨i != 0, rfl, now h1⟩
  | str x =>
    obtain ⟨hz, h1⟩ := T.AllB.ite h1
    exact ⟨_, ⟨strOk_of hz, rfl⟩, now h1⟩
  | tup h rl => exact ⟨_, .inr (.inl ⟨_, h, rl.empty⟩), now h1⟩
  | lst n h rl => exact ⟨_, .inl ⟨_, SqL.of h, rl.empty⟩, now h1⟩
  | dct n h rl => exact ⟨_, .inr (.inr ⟨_, h, by simp⟩), now h1⟩
  | scr h => exact h1.elim
  | stt => exact h1.elim
theorem bl_then {Q : Bool → Hp → Prop} : ∀ σ H, liftB X.K E (fBl fa) σ H Q → liftE X.K E fa σ H fun x H' => ∃ k, x = .bl k ∧ Q k H' := fun σ H h => by
  obtain ⟨c, d, oa, ρ, e, h⟩ := h
  refine lift_then (P := fun c H => PB c H Q) e h (fun st p => p.later st) fun w v H1 d1 _ r1 e1 h1 => ?_
  cases r1 with
  | bl b => exact ⟨b, rfl, h1 H1 (.refl c H1) e1.st⟩
  | _ => exact h1.elim
/-- a comparison's test, by the test's own form of the reading -/
theorem trb_of {t : TE} (hp : PT X a (tTest t)) (i : ∀ σ H Q, liftE X.K E fa σ H Q → t σ H Q) : TrB X E a (fBl fa) := pt_imp hp fun σ H Q h => i σ H _ (bl_then σ H h)
theorem trb_cmp {op : CmpOp} (ho : OpR X (compareOp op) r) (hs : Sem2 X.K r g) (ha : TrE X E a fa) (hb : TrE X E b fb) (hm : behindInMarks op b = false) : TrB X E (.Compare a [op] [b] pos) (fBl (f2 g fa fb)) := trb_of (pt_cmpR ho ha hb hm) (two hs)
def fNot (ta : En → T Bool) : En → T Bool := fun ρ => (ta ρ).bind fun b => .ok !b
def fAnd (ta tb : En → T Bool) : En → T Bool := fun ρ => (ta ρ).bind fun b => if b then tb ρ else .ok false
def fOr (ta tb : En → T Bool) : En → T Bool := fun ρ => (ta ρ).bind fun b => if b then .ok true else tb ρ
theorem PB.now {c : Cc} {d : Nat} {H : Hp} {Q : Bool → Hp → Prop} {b : Bool} (wd : Wd c d H) (h : PB c H Q d b) : Q b H := h H (.refl c H) wd.st
theorem trb_not (ha : TrB X E a ta) : TrB X E (.UnaryOp .Not a pos) (fNot ta) := pt_imp (pt_not ha) fun σ H Q h => by
  obtain ⟨c, d, oa, ρ, e, h⟩ := h
  exact liftB_then (P := fun c H => PB c H Q) e h (fun st p => p.later st) fun b H1 d1 _ e1 h1 => PB.now e1.wd h1
def TrW (X : Cx) (E : WX) (e : Expr) (f : En → T Bool) : Prop := PW X e (liftB X.K E f)
theorem TrW.toB (h : TrW X E a ta) : TrB X E a ta := PW.pt h
theorem trw_and1 (ha : TrB X E a ta) : TrW X E (.BoolOp .And [a] pos) ta := pw_and1 ha
theorem trw_or1 (ha : TrB X E a ta) : TrW X E (.BoolOp .Or [a] pos) ta := pw_or1 ha
theorem trw_and (ha : TrB X E a ta) (hb : TrW X E (.BoolOp .And (b :: rest) pos) tb) : TrW X E (.BoolOp .And (a :: b :: rest) pos) (fAnd ta tb) := pw_imp (pw_and ha hb) fun σ H Q h => by
  obtain ⟨c, d, oa, ρ, e, h⟩ := h
  refine liftB_then (P := fun c H => PB c H Q) e h (fun st p => p.later st) fun b H1 d1 _ e1 h1 => ?_
  cases b with
  | true => exact iteT ⟨c, d1, oa, ρ, e1, h1⟩
  | false => exact iteF (PB.now e1.wd h1)
theorem trw_or (ha : TrB X E a ta) (hb : TrW X E (.BoolOp .Or (b :: rest) pos) tb) : TrW X E (.BoolOp .Or (a :: b :: rest) pos) (fOr ta tb) := pw_imp (pw_or ha hb) fun σ H Q h => by
  obtain ⟨c, d, oa, ρ, e, h⟩ := h
  refine liftB_then (P := fun c H => PB c H Q) e h (fun st p => p.later st) fun b H1 d1 _ e1 h1 => ?_
  cases b with
  | false => exact iteF ⟨c, d1, oa, ρ, e1, h1⟩
  | true => exact iteT (PB.now e1.wd h1)
def fAndV (fa fb : En → T W) : En → T W := fun ρ => (fa ρ).bind fun x => match x with
  | .bl true => fb ρ
  | .bl false => .ok (.bl false)
  | _ => .bad
def fOrV (fa fb : En → T W) : En → T W := fun ρ => (fa ρ).bind fun x => match x with
  | .bl false => fb ρ
  | .bl true => .ok (.bl true)
  | _ => .bad
def fNotV (fa : En → T W) : En → T W := fun ρ => (fa ρ).bind fun x => match x with
  | .bl b => .ok (.bl !b)
  | _ => .bad
def fIf (t : En → T Bool) (fa fb : En → T W) : En → T W := fun ρ => (t ρ).bind fun b => if b then fa ρ else fb ρ
theorem tr_one {op} (h : TrE X E a fa) : TrE X E (.BoolOp op [a] pos) fa := pe_one h
theorem tr_and (ha : TrE X E a fa) (hb : TrE X E (.BoolOp .And (b :: rest) pos) fb) : TrE X E (.BoolOp .And (a :: b :: rest) pos) (fAndV fa fb) := pe_imp (pe_and ha hb) fun σ H Q h => by
  obtain ⟨c, d, oa, ρ, e, h⟩ := h
  refine lift_then (P := fun c H => PQ X.K c H Q) e h (fun st p => p.later st) fun w v H1 d1 _ r1 e1 h1 => ?_
  cases r1 with
  | bl b =>
    refine ⟨b, rfl, ?_⟩
    cases b with
    | true => exact iteT ⟨c, d1, oa, ρ, e1, h1⟩
    | false => exact iteF (PQ.now e1.wd h1 (.bl false))
  | _ => exact h1.elim
theorem tr_or (ha : TrE X E a fa) (hb : TrE X E (.BoolOp .Or (b :: rest) pos) fb) : TrE X E (.BoolOp .Or (a :: b :: rest) pos) (fOrV fa fb) := pe_imp (pe_or ha hb) fun σ H Q h => by
  obtain ⟨c, d, oa, ρ, e, h⟩ := h
  refine lift_then (P := fun c H => PQ X.K c H Q) e h (fun st p => p.later st) fun w v H1 d1 _ r1 e1 h1 => ?_
  cases r1 with
  | bl b =>
    refine ⟨b, rfl, ?_⟩
    cases b with
    | false => exact iteF ⟨c, d1, oa, ρ, e1, h1⟩
    | true => exact iteT (PQ.now e1.wd h1 (.bl true))
  | _ => exact h1.elim
theorem tr_not (ha : TrE X E a fa) : TrE X E (.UnaryOp .Not a pos) (fNotV fa) := pe_imp (pe_not ha) fun σ H Q h => by
  obtain ⟨c, d, oa, ρ, e, h⟩ := h
  refine lift_then (P := fun c H => PQ X.K c H Q) e h (fun st p => p.later st) fun w v H1 d1 _ r1 e1 h1 => ?_
  cases r1 with
  | bl b => exact ⟨b, rfl, PQ.now e1.wd h1 (.bl _)⟩
  | _ => exact h1.elim
theorem tr_if (ht : TrB X E cc ta) (ha : TrE X E a fa) (hb : TrE X E b fb) : TrE X E (.IfExp cc a b pos) (fIf ta fa fb) := pe_imp (pe_ifExp ht ha hb) fun σ H Q h => by
  obtain ⟨c, d, oa, ρ, e, h⟩ := h
  refine liftB_then (P := fun c H => PQ X.K c H Q) e h (fun st p => p.later st) fun b H1 d1 _ e1 h1 => ?_
  cases b with
  | true => exact iteT ⟨c, d1, oa, ρ, e1, h1⟩
  | false => exact iteF ⟨c, d1, oa, ρ, e1, h1⟩
end
def fNil : En → T (List W) := fun _ => .ok []
def fCons (fa : En → T W) (fs : En → T (List W)) : En → T (List W) := fun ρ => (fa ρ).bind fun x => (fs ρ).bind fun xs => .ok (x :: xs)
@[irreducible] def sizeOk (ws : List W) : Bool := decide (ws.length ≤ 16777216)
theorem sizeOk_of {ws : List W} (h : sizeOk ws = true) : ws.length ≤ sizeLine := by
  rw [sizeLine_eq]
  unfold sizeOk at h
  exact of_decide_eq_true h
def mkTup (ws : List W) : T W := if sizeOk ws then .ok (.tup ws) else .bad
def mkLst (ws : List W) : T W := if sizeOk ws then .ok (.lst ws) else .bad
def fL (fs : En → T (List W)) (g : List W → T W) : En → T W := fun ρ => (fs ρ).bind g
section
variable {X : Cx} {E : WX} {e : Expr} {es : List Expr} {fa : En → T W} {fs : En → T (List W)} {pos : Pos}
theorem tra_nil : TrA X E [] fNil := pa_imp pa_nil fun σ H Q h => by
  obtain ⟨c, d, oa, ρ, e, h⟩ := h
  exact h [] H (.refl c H) e.st .nil
theorem tra_cons (ha : TrE X E e fa) (hr : TrA X E es fs) (hs : starEach (e :: es) X.env = (false, eval e X.env) :: starEach es X.env := by rfl) : TrA X E (e :: es) (fCons fa fs) := pa_imp (pa_cons ha hr hs) fun σ H Q h => by
  obtain ⟨c, d, oa, ρ, e, h⟩ := h
  refine lift_then (P := fun c H => PQL X.K c H Q) e h (fun st p => p.later st) fun w v H1 d1 _ r1 e1 h1 => ?_
  refine liftA_then (P := fun c H => PQL X.K c H Q) e1 h1 (fun st p => p.later st) fun w2 v2 H2 d2 st2 r2 e2 h2 => ?_
  exact h2 _ H2 (.refl c H2) e2.st (.cons (r1.step st2 e1.st e1.ok) r2)
theorem tr_tup {x1} (h : TrA X E es fs) : TrE X E (.Tuple es x1 pos) (fL fs mkTup) := pe_imp (pe_tup h) fun σ H Q h => by
  obtain ⟨c, d, oa, ρ, e, h⟩ := h
  refine liftA_then (P := fun c H => PQ X.K c H Q) e h (fun st p => p.later st) fun w v H1 d1 _ r1 e1 h1 => ?_
  obtain ⟨h2, h1⟩ := T.AllB.ite h1
  exact ⟨by rw [← r1.length]; exact sizeOk_of h2, fun p n => PQ.tup e1.wd h1 r1 n⟩
theorem tr_lst (h : TrA X E es fs) : TrE X E (.List es pos) (fL fs mkLst) := pe_imp (pe_lst h) fun σ H Q h => by
  obtain ⟨c, d, oa, ρ, e, h⟩ := h
  refine liftA_then (P := fun c H => PQ X.K c H Q) e h (fun st p => p.later st) fun w v H1 d1 _ r1 e1 h1 => ?_
  obtain ⟨h2, h1⟩ := T.AllB.ite h1
  exact ⟨by rw [← r1.length]; exact sizeOk_of h2, fun p n => PQ.lst e1.wd h1 r1 n⟩
theorem callL {r : List V → Hp → VK → Prop} {g : List W → T W} (hs : SemL X.K r g) : ∀ σ H Q, liftE X.K E (fL fs g) σ H Q → tCB r (liftA X.K E fs) σ H Q := fun σ H Q h => by
  obtain ⟨c, d, oa, ρ, e, h⟩ := h
  refine liftA_then (P := fun c H => PQ X.K c H Q) e h (fun st p => p.later st) fun w v H1 d1 _ r1 e1 h1 => ?_
  exact hs c d1 H1 w v Q _ e1.wd r1 h1
/-- a built-in function, a built-in type, called -/
theorem tr_callB {r : List V → Hp → VK → Prop} {g : List W → T W} {x : Str} {p : Pos} {id : String} (hc : CallR X (.builtin id) r) (hs : SemL X.K r g) (hg : Gl X x) (hm : X.mg x = none) (hv : bootBuiltins x = some (.builtin id)) (ha : TrA X E (e :: es) fs) (hn : x ≠ "__name__" := by decide) (hdb : (x == ("__debug__" : Str)) = false := by decide)
    (he : starEach (e :: es) X.env = (false, eval e X.env) :: starEach es X.env := by rfl) (hpl : (backTo pos (starEach es X.env)).any (·.1) = false := by rfl) : TrE X E (.Call (.Name x p) (e :: es) [] pos) (fL fs g) :=
  pe_imp (pe_callB hc hg hm hv ha hn hdb he hpl) (callL hs)
theorem tr_callTy {r : List V → Hp → VK → Prop} {g : List W → T W} {x : Str} {p : Pos} {id : String} (hc : CallR X (.type id) r) (hs : SemL X.K r g) (hg : Gl X x) (hm : X.mg x = none) (hv : bootBuiltins x = some (.type id)) (ha : TrA X E (e :: es) fs) (hn : x ≠ "__name__" := by decide) (hdb : (x == ("__debug__" : Str)) = false := by decide)
    (he : starEach (e :: es) X.env = (false, eval e X.env) :: starEach es X.env := by rfl) (hpl : (backTo pos (starEach es X.env)).any (·.1) = false := by rfl) : TrE X E (.Call (.Name x p) (e :: es) [] pos) (fL fs g) :=
  pe_imp (pe_callTy hc hg hm hv ha hn hdb he hpl) (callL hs)
end
def SpF (K : PySem.W.Frag) (F : List W → T W) : Sp := fun vs H Q E => ∃ c d ws, Wd c d H ∧ RepL K c H ws vs ∧ (F ws).AllB (PQ K c H Q) (PX K c H E) d
section
variable {X : Cx} {E : WX} {e : Expr} {es : List Expr} {fs : En → T (List W)} {pos p : Pos} {F : List W → T W} {k : Nat} {f : Addr} {fd : FuncData} {ps : List Str} {x : Str}
theorem tr_call (G : FnOk X.prog X.w X.K X.mg X.base (L2.CX X.prog X.w) k f fd ps (SpF X.K F)) (hr : Room k X.A) (tk : Takes X E) (hg : Gl X x) (hm : X.mg x = some (.ref f)) (hk : PySem.W.keepIn X.K (.ref f) = true) (hb : Binds X.K fd ps []) (ha : TrA X E (e :: es) fs)
    (hdb : (x == ("__debug__" : Str)) = false := by decide) (he : starEach (e :: es) X.env = (false, eval e X.env) :: starEach es X.env := by rfl) (hpl : (backTo pos (starEach es X.env)).any (·.1) = false := by rfl) :
    TrE X E (.Call (.Name x p) (e :: es) [] pos) (fL fs F) := pe_imp (pe_callSD (E := fun σ => WE E σ) G hr hg hm hk hb .nil (fun σ => passAt tk σ) ha hdb he hpl) fun σ H Q h => by
  obtain ⟨c, d, oa, ρ, e, h⟩ := h
  refine liftA_then (P := fun c H => PQ X.K c H Q) e h (fun st p => p.later st) fun w v H1 d1 _ r1 e1 h1 => ?_
  exact ⟨c, d1, w, e1.wd, by rw [List.append_nil]; exact r1, h1⟩
end
end PF
namespace PF
open PySem PySem.Spec PyProof.Rows L2
structure Fwd (K : PySem.W.Frag) (c : Cc) (H : Hp) (c' : Cc) (H' : Hp) : Prop where
  S : c'.S = c.S
  ca : c'.ca = c.ca
  la : c'.la = c.la
  sub : ∀ b ∈ c.A, b ∈ c'.A
  step : Step c H H'
  rep : ∀ w v, Rep K c H w v → Rep K c' H' w v
section
variable {K : PySem.W.Frag} {c c1 c2 : Cc} {d : Nat} {H H1 H2 : Hp}
theorem Fwd.refl : Fwd K c H c H := ⟨rfl, rfl, rfl, fun _ h => h, .refl c H, fun _ _ h => h⟩
theorem Step.to (st : Step c1 H1 H2) (hS : c1.S = c.S) (hl : c1.la = c.la) : Step c H1 H2 := fun b o e h1 h2 => st b o e (by rw [hS]; exact h1) (by rw [hl]; exact h2)
theorem Fwd.trans (a : Fwd K c H c1 H1) (b : Fwd K c1 H1 c2 H2) : Fwd K c H c2 H2 :=
  ⟨b.S.trans a.S, b.ca.trans a.ca, b.la.trans a.la, fun x h => b.sub x (a.sub x h), a.step.trans (b.step.to a.S a.la), fun w v h => b.rep w v (a.rep w v h)⟩
theorem Fwd.of (st : Step c H H1) (wd : Wd c d H) : Fwd K c H c H1 := ⟨rfl, rfl, rfl, fun _ h => h, st, fun _ _ h => h.step st wd.st wd.ok⟩
mutual
theorem Rep.weak (hS : c1.S = c.S) (sub : ∀ b ∈ c.A, b ∈ c1.A) : ∀ {w : W} {v : V}, Rep K c1 H w v → Rep K c H w v
  | _, _, .non => .non
  | _, _, .bl b => .bl b
  | _, _, .int i => .int i
  | _, _, .str x => .str x
  | _, _, .tup h r => .tup h (RepL.weak hS sub r)
  | _, _, .lst n h r => .lst (fun z => n (sub _ z)) h (RepL.weak hS sub r)
  | _, _, .dct n h r => .dct (fun z => n (sub _ z)) h (RepL.weak hS sub r)
  | _, _, .scr h => .scr (h.imp (fun ⟨n, r⟩ => ⟨fun z => n (sub _ z), r⟩) id)
  | _, _, .stt => by rw [hS]; exact .stt
theorem RepL.weak (hS : c1.S = c.S) (sub : ∀ b ∈ c.A, b ∈ c1.A) : ∀ {ws : List W} {vs : List V}, RepL K c1 H ws vs → RepL K c H ws vs
  | _, _, .nil => .nil
  | _, _, .cons h r => .cons (Rep.weak hS sub h) (RepL.weak hS sub r)
end
theorem RepL.fwd (f : Fwd K c H c1 H1) : ∀ {ws : List W} {vs : List V}, RepL K c H ws vs → RepL K c1 H1 ws vs
  | _, _, .nil => .nil
  | _, _, .cons h r => .cons (f.rep _ _ h) (RepL.fwd f r)
theorem Fwd.sqT {a : Addr} {vs : List V} (f : Fwd K c H c1 H1) (wd : Wd c d H) (h : SqT K H a vs) : SqT K H1 a vs := f.step.sqT wd.st h
end
inductive Fl where
  | nx | rt (w : W) | bk | ct
def PSq (K : PySem.W.Frag) (c : Cc) (H : Hp) (D : Ends) : Nat → Fl × En → Prop := fun d x => ∀ c' oa' σ' H', Fwd K c H c' H' → EnvOk K c' d oa' x.2 σ' H' → match x.1 with
  | .nx => D.nx σ' H'
  | .bk => D.bk σ' H'
  | .ct => D.ct σ' H'
  | .rt w => ∀ v, Rep K c' H' w v → D.rt v H'
theorem PSq.later {K : PySem.W.Frag} {c c1 : Cc} {H H1 : Hp} {D : Ends} {d : Nat} {x : Fl × En} (f : Fwd K c H c1 H1) (h : PSq K c H D d x) : PSq K c1 H1 D d x := fun c' oa' σ' H' g e => h c' oa' σ' H' (f.trans g) e
theorem PX.fwd {K : PySem.W.Frag} {c c1 : Cc} {H H1 : Hp} {E : XK} {d n : Nat} {fs : List W} (f : Fwd K c H c1 H1) (h : PX K c H E d n fs) : PX K c1 H1 E d n fs := fun cls dx H' st so r => r.elim
/-- E is wanted of what is raised, at any slots -/
def liftS (K : PySem.W.Frag) (E : XK) (g : En → T (Fl × En)) : TS := fun D σ H => ∃ c d oa ρ, EnvOk K c d oa ρ σ H ∧ (g ρ).AllB (PSq K c H D) (PX K c H E) d
abbrev wOf (E : XK) : WX := fun cls dx _ H => E cls dx H
def TrS (X : Cx) (E : XK) (st : Stmt) (g : En → T (Fl × En)) : Prop := PS X st (liftS X.K E g)
def TrSs (X : Cx) (E : XK) (sts : List Stmt) (g : En → T (Fl × En)) : Prop := PSs X sts (liftS X.K E g)
section
variable {K : PySem.W.Frag} {c : Cc} {d : Nat} {oa : Nat → Addr} {ρ : En} {σ : St} {H : Hp}
theorem getElem?_set_or {α : Type} {l : List α} {i j : Nat} {a x : α} (h : (l.set i a)[j]? = some x) : (j = i ∧ x = a) ∨ (j ≠ i ∧ l[j]? = some x) := by
  by_cases e : i = j
  · subst e
    by_cases hl : i < l.length
    · rw [List.getElem?_set_self hl] at h
      exact .inl ⟨rfl, (Option.some.inj h).symm⟩
    · rw [List.getElem?_eq_none (by simpa using hl)] at h
      cases h
  · rw [List.getElem?_set_ne e] at h
    exact .inr ⟨fun z => e z.symm, h⟩
theorem EnvOk.set {i : Nat} {w : W} {v : V} (e : EnvOk K c d oa ρ σ H) (r : Rep K c H w v) : EnvOk K c d oa (ρ.set i (.val w)) (σ.set i (some v)) H where
  ok := e.ok
  st := e.st
  av := e.av
  len := by rw [List.length_set, List.length_set]; exact e.len
  val := fun j x h => by
    rcases getElem?_set_or h with ⟨ej, ex⟩ | ⟨n, h'⟩
    · cases ex
      subst ej
      refine ⟨v, ?_, r⟩
      have hl : j < ρ.length := by
        by_cases hl : j < ρ.length
        · exact hl
        · rw [List.getElem?_eq_none (by simpa using hl)] at h
          cases h
      rw [List.getElem?_set_self (by rw [← e.len]; exact hl)]
    · obtain ⟨u, h1, h2⟩ := e.val j x h'
      exact ⟨u, by rw [List.getElem?_set_ne (Ne.symm n)]; exact h1, h2⟩
  own := fun j x h => by
    rcases getElem?_set_or h with ⟨ej, ex⟩ | ⟨n, h'⟩
    · cases ex
    · obtain ⟨h1, h2, h3, h4⟩ := e.own j x h'
      exact ⟨h1, h2, by rw [List.getElem?_set_ne (Ne.symm n)]; exact h3, h4⟩
  inj := fun a b x y h1 h2 => by
    rcases getElem?_set_or h1 with ⟨ej, ex⟩ | ⟨n1, h1'⟩
    · cases ex
    · rcases getElem?_set_or h2 with ⟨ej, ex⟩ | ⟨n2, h2'⟩
      · cases ex
      · exact e.inj a b x y h1' h2'
end
def sNil : En → T (Fl × En) := fun ρ => .ok (.nx, ρ)
def sSeq (g h : En → T (Fl × En)) : En → T (Fl × En) := fun ρ => (g ρ).bind fun x => match x with
  | (.nx, ρ') => h ρ'
  | x => .ok x
def sRet (f : En → T W) : En → T (Fl × En) := fun ρ => (f ρ).bind fun w => .ok (.rt w, ρ)
def sRetN : En → T (Fl × En) := fun ρ => .ok (.rt .non, ρ)
def sExpr (f : En → T W) : En → T (Fl × En) := fun ρ => (f ρ).bind fun _ => .ok (.nx, ρ)
def sSet (i : Nat) (f : En → T W) : En → T (Fl × En) := fun ρ => (f ρ).bind fun w => .ok (.nx, ρ.set i (.val w))
def sIf (t : En → T Bool) (g h : En → T (Fl × En)) : En → T (Fl × En) := fun ρ => (t ρ).bind fun b => if b then g ρ else h ρ
def sNever : En → T (Fl × En) := fun _ => .bad
def sPar (i j : Nat) (fs : En → T (List W)) : En → T (Fl × En) := fun ρ => (fs ρ).bind fun xs => match xs with
  | [x, y] => .ok (.nx, (ρ.set i (.val x)).set j (.val y))
  | _ => .bad
section
variable {X : Cx} {E : XK} {st : Stmt} {sts : List Stmt} {g h : En → T (Fl × En)} {f : En → T W} {e a b : Expr} {fs : En → T (List W)} {t : En → T Bool} {pos : Pos}
theorem trs_nil : TrSs X E [] sNil := pss_imp pss_nil fun D σ H q => by
  obtain ⟨c, d, oa, ρ, e, q⟩ := q
  exact q c oa σ H .refl e
theorem trs_cons (h1 : TrS X E st g) (h2 : TrSs X E sts h) : TrSs X E (st :: sts) (sSeq g h) := pss_imp (pss_cons h1 h2) fun D σ H q => by
  obtain ⟨c, d, oa, ρ, e, q⟩ := q
  refine ⟨c, d, oa, ρ, e, T.AllB.imp (fun d1 x hx => ?_) (fun _ _ _ y => y) (T.allB_bind.mp q)⟩
  obtain ⟨fl, ρ'⟩ := x
  intro c' oa' σ' H' fw e'
  cases fl with
  | nx => exact ⟨c', d1, oa', ρ', e', T.AllB.imp (fun _ _ y => y.later fw) (fun _ _ _ y => y.fwd fw) hx⟩
  | rt w => exact hx c' oa' σ' H' fw e'
  | bk => exact hx c' oa' σ' H' fw e'
  | ct => exact hx c' oa' σ' H' fw e'
theorem trs_one (h1 : TrS X E st g) : TrSs X E [st] g := pss_one h1
theorem tr_ret (he : TrE X (wOf E) e f) : TrS X E (.Return (some e) pos) (sRet f) := ps_imp (ps_ret he) fun D σ H q => by
  obtain ⟨c, d, oa, ρ, e, q⟩ := q
  refine lift_then (P := fun c H => PSq X.K c H D) e q (fun st p => p.later (.of st e.wd)) fun w v H1 d1 _ r1 e1 h1 => ?_
  exact h1 c oa σ H1 .refl e1 v r1
theorem tr_retN : TrS X E (.Return none pos) sRetN := ps_imp ps_retN fun D σ H q => by
  obtain ⟨c, d, oa, ρ, e, q⟩ := q
  exact q c oa σ H .refl e _ .non
theorem tr_expr (he : TrE X (wOf E) e f) (hs : swapsWith e none pos.line X.env = pure false := by rfl) : TrS X E (.Expr e pos) (sExpr f) := ps_imp (ps_expr he hs) fun D σ H q => by
  obtain ⟨c, d, oa, ρ, e, q⟩ := q
  refine lift_then (P := fun c H => PSq X.K c H D) e q (fun st p => p.later (.of st e.wd)) fun w v H1 d1 _ r1 e1 h1 => ?_
  exact h1 c oa σ H1 .refl e1
theorem tr_set {i : Nat} {x : Str} {pos' : Pos} (hN : X.N.Nodup) (hi : X.N[i]? = some x) (hx : Loc X.env.scope x) (he : TrE X (wOf E) e f) (hs : swapsWith e (some (.Name x pos')) pos.line X.env = pure false := by rfl)
    (hf : X.fn x = true ∨ X.env.scope.names.lookup x = some .local := by first | exact .inl rfl | exact .inr rfl | assumption) : TrS X E (.Assign [.Name x pos'] e pos) (sSet i f) := ps_imp (ps_set hN hi hx he hs hf) fun D σ H q => by
  obtain ⟨c, d, oa, ρ, e, q⟩ := q
  refine lift_then (P := fun c H => PSq X.K c H D) e q (fun st p => p.later (.of st e.wd)) fun w v H1 d1 _ r1 e1 h1 => ?_
  exact h1 c oa _ H1 .refl (e1.set r1)
theorem tr_ifs {sa sb : List Stmt} (hc : TrB X (wOf E) e t) (ha : TrSs X E sa g) (hb : TrSs X E sb h) : TrS X E (.If e sa sb pos) (sIf t g h) := ps_imp (ps_if hc ha hb) fun D σ H q => by
  obtain ⟨c, d, oa, ρ, e, q⟩ := q
  refine liftB_then (P := fun c H => PSq X.K c H D) e q (fun st p => p.later (.of st e.wd)) fun b H1 d1 _ e1 h1 => ?_
  cases b with
  | true => exact iteT ⟨c, d1, oa, ρ, e1, h1⟩
  | false => exact iteF ⟨c, d1, oa, ρ, e1, h1⟩
theorem tr_never : TrS X E st sNever := ps_imp ps_never fun D σ H q => by
  obtain ⟨c, d, oa, ρ, e, q⟩ := q
  exact q
theorem tr_par {i j : Nat} (hp : PS X st (tPar i j (liftA X.K (wOf E) fs))) : TrS X E st (sPar i j fs) := ps_imp hp fun D σ H q => by
  obtain ⟨c, d, oa, ρ, e, q⟩ := q
  refine liftA_then (P := fun c H => PSq X.K c H D) e q (fun st p => p.later (.of st e.wd)) fun w v H1 d1 _ r1 e1 h1 => ?_
  cases r1 with
  | nil => exact h1.elim
  | cons r1 r2 =>
    cases r2 with
    | nil => exact h1.elim
    | cons r2 r3 =>
      cases r3 with
      | nil => exact ⟨_, _, rfl, h1 c oa _ H1 .refl ((e1.set r1).set r2)⟩
      | cons _ _ => exact h1.elim
end
end PF
namespace PF
open PySem PySem.Spec PyProof.Rows L2
/-- the slots at ns alone may have changed -/
def ButAt (ns : List Nat) (σ σ' : St) : Prop := σ'.length = σ.length ∧ ∀ j : Nat, j ∉ ns → σ'[j]? = σ[j]?
theorem ButAt.trans {ns ms : List Nat} {σ σ1 σ2 : St} (a : ButAt ns σ σ1) (b : ButAt ms σ1 σ2) : ButAt (ns ++ ms) σ σ2 := ⟨b.1.trans a.1, fun j h => by
  rw [List.mem_append, not_or] at h
  rw [b.2 j h.2, a.2 j h.1]⟩
def liftG (K : PySem.W.Frag) (ns : List Nat) (G : W → En → Option En) : TG := fun v σ H Q => ∃ c d oa ρ w ρ', EnvOk K c d oa ρ σ H ∧ Rep K c H w v ∧ G w ρ = some ρ' ∧ ∀ σ', ButAt ns σ σ' → EnvOk K c d oa ρ' σ' H → Q σ' H
def liftGs (K : PySem.W.Frag) (ns : List Nat) (G : List W → En → Option En) : TGs := fun vs σ H Q => ∃ c d oa ρ ws ρ', EnvOk K c d oa ρ σ H ∧ RepL K c H ws vs ∧ G ws ρ = some ρ' ∧ ∀ σ', ButAt ns σ σ' → EnvOk K c d oa ρ' σ' H → Q σ' H
def TrG (X : Cx) (e : Expr) (ns : List Nat) (G : W → En → Option En) : Prop := PG X e (liftG X.K ns G)
def TrGs (X : Cx) (es : List Expr) (ns : List Nat) (G : List W → En → Option En) : Prop := PGs X es (liftGs X.K ns G)
def goName (i : Nat) : W → En → Option En := fun w ρ => some (ρ.set i (.val w))
def goNil : List W → En → Option En := fun ws ρ => match ws with
  | [] => some ρ
  | _ => none
def goCons (G : W → En → Option En) (Gs : List W → En → Option En) : List W → En → Option En := fun ws ρ => match ws with
  | w :: ws => (G w ρ).bind (Gs ws)
  | [] => none
def goTup (n : Nat) (Gs : List W → En → Option En) : W → En → Option En := fun w ρ => match w with
  | .tup ws => if ws.length == n then Gs ws ρ else none
  | _ => none
theorem pg_imp {X : Cx} {e : Expr} {t t' : TG} (h : PG X e t) (i : ∀ v σ H Q, t' v σ H Q → t v σ H Q) : PG X e t' := ⟨fun pins s σ H v u Q I r q => h.run pins s σ H v u Q I r (i v σ H Q q)⟩
theorem pgs_imp {X : Cx} {e : List Expr} {t t' : TGs} (h : PGs X e t) (i : ∀ v σ H Q, t' v σ H Q → t v σ H Q) : PGs X e t' := ⟨fun pins s σ H v u Q I r q => h.run pins s σ H v u Q I r (i v σ H Q q)⟩
section
variable {X : Cx} {e : Expr} {es : List Expr} {ns ms : List Nat} {G : W → En → Option En} {Gs : List W → En → Option En} {pos : Pos}
theorem trg_name {i : Nat} {x : Str} (hN : X.N.Nodup) (hi : X.N[i]? = some x) (hx : Loc X.env.scope x) (hf : X.fn x = true ∨ X.env.scope.names.lookup x = some .local := by first | exact .inl rfl | exact .inr rfl | assumption) : TrG X (.Name x pos) [i] (goName i) := pg_imp (pg_name hN hi hx hf) fun v σ H Q h => by
  obtain ⟨c, d, oa, ρ, w, ρ', e, r, g, q⟩ := h
  cases g
  exact q _ ⟨by rw [List.length_set], fun j h => by rw [List.getElem?_set_ne (fun z => h (by simp [z]))]⟩ (e.set r)
theorem trgs_nil : TrGs X [] [] goNil := pgs_imp pgs_nil fun v σ H Q h => by
  obtain ⟨c, d, oa, ρ, w, ρ', e, r, g, q⟩ := h
  cases r with
  | nil =>
    cases g
    exact ⟨rfl, q σ ⟨rfl, fun _ _ => rfl⟩ e⟩
  | cons _ _ => cases g
theorem trgs_cons (h1 : TrG X e ns G) (h2 : TrGs X es ms Gs) (hs : (assignEach (e :: es) X.env).map (·.2) = assign e X.env :: (assignEach es X.env).map (·.2) := by rfl) : TrGs X (e :: es) (ns ++ ms) (goCons G Gs) := pgs_imp (pgs_cons h1 h2 hs) fun v σ H Q h => by
  obtain ⟨c, d, oa, ρ, w, ρ', e, r, g, q⟩ := h
  cases r with
  | nil => cases g
  | cons r rr =>
    rename_i w1 v1 ws1 vs1
    have g' : (G w1 ρ).bind (Gs ws1) = some ρ' := g
    cases g1 : G w1 ρ with
    | none =>
      rw [g1] at g'
      cases g'
    | some ρ1 =>
      rw [g1] at g'
      exact ⟨v1, vs1, rfl, c, d, oa, ρ, w1, ρ1, e, r, g1, fun σ1 b1 e1 => ⟨c, d, oa, ρ1, ws1, ρ', e1, rr, g', fun σ2 b2 e2 => q σ2 (b1.trans b2) e2⟩⟩
theorem trg_tup {k n : Nat} (hc : X.calm = true) (h : TrGs X es ns Gs) (hn : (assignEach es X.env).length = n := by rfl) (hst : (assignEach es X.env).findIdx? (·.1) = none := by rfl) : TrG X (.Tuple es k pos) ns (goTup n Gs) := pg_imp (pg_tup hc h hn hst) fun v σ H Q h => by
  obtain ⟨c, d, oa, ρ, w, ρ', e, r, g, q⟩ := h
  cases r with
  | tup hq rl =>
    rename_i a vs ws
    have g' : (if ws.length == n then Gs ws ρ else none) = some ρ' := g
    cases hl : (ws.length == n) with
    | false =>
      rw [hl] at g'
      cases g'
    | true =>
      rw [hl] at g'
      exact ⟨a, vs, rfl, hq, by rw [← rl.length]; exact eq_of_beq hl, c, d, oa, ρ, ws, ρ', e, rl, g', q⟩
  | _ => cases g
end
/-- target = value, for any target -/
def sAsg (f : En → T W) (G : W → En → Option En) : En → T (Fl × En) := fun ρ => (f ρ).bind fun w => match G w ρ with
  | some ρ' => .ok (.nx, ρ')
  | none => .bad
theorem tr_asg {X : Cx} {E : XK} {e tg : Expr} {f : En → T W} {ns : List Nat} {G : W → En → Option En} {pos : Pos} (he : TrE X (wOf E) e f) (hg : TrG X tg ns G) (hs : swapsWithSole [tg] e pos.line X.env = pure false := by rfl) (hw : swappedStores [tg] e X.env = pure none := by rfl)
    (h1 : (assignEach [tg] X.env).map (·.2) = [assign tg X.env] := by rfl) : TrS X E (.Assign [tg] e pos) (sAsg f G) := ps_imp (ps_asg he hg hs hw h1) fun D σ H q => by
  obtain ⟨c, d, oa, ρ, e, q⟩ := q
  refine lift_then (P := fun c H => PSq X.K c H D) e q (fun st p => p.later (.of st e.wd)) fun w v H1 d1 _ r1 e1 h1 => ?_
  cases g : G w ρ with
  | none =>
    rw [g] at h1
    exact h1.elim
  | some ρ' =>
    rw [g] at h1
    exact ⟨c, d1, oa, ρ, w, ρ', e1, r1, g, fun σ' _ e' => h1 c oa σ' H1 .refl e'⟩
def whileL (t : En → T Bool) (gb : En → T (Fl × En)) : Nat → En → T (Fl × En)
  | 0, _ => .bad
  | n + 1, ρ => (t ρ).bind fun b => if b then (gb ρ).bind fun x => match x with
      | (.nx, ρ') => whileL t gb n ρ'
      | (.ct, ρ') => whileL t gb n ρ'
      | (.bk, ρ') => .ok (.nx, ρ')
      | (.rt w, ρ') => .ok (.rt w, ρ') else .ok (.nx, ρ)
def sWhile (μ : En → Nat) (t : En → T Bool) (gb : En → T (Fl × En)) : En → T (Fl × En) := fun ρ => whileL t gb (μ ρ) ρ
theorem tr_while {X : Cx} {E : XK} {e : Expr} {body : List Stmt} {t : En → T Bool} {gb : En → T (Fl × En)} {pos : Pos} (μ : En → Nat) (hp : PassesOwn (model X.prog X.w) X.A X.env X.xe) (hc : TrB X (wOf E) e t) (hb : TrSs X E body gb) : TrS X E (.While e body [] pos) (sWhile μ t gb) :=
  ps_imp (ps_while hp hc hb) fun D σ H q => by
  obtain ⟨c, d, oa, ρ, e, q⟩ := q
  refine ⟨fun m σ H => ∃ c d oa ρ, EnvOk X.K c d oa ρ σ H ∧ (whileL t gb m ρ).AllB (PSq X.K c H D) (PX X.K c H E) d, ⟨_, c, d, oa, ρ, e, q⟩, ?_⟩
  rintro m σ H ⟨c, d, oa, ρ, e, q⟩
  cases m with
  | zero => exact q.elim
  | succ m =>
    refine liftB_then (P := fun c H => PSq X.K c H D) e q (fun st p => p.later (.of st e.wd)) fun b H1 d1 _ e1 h1 => ?_
    cases b with
    | false => exact iteF (h1 c oa σ H1 .refl e1)
    | true =>
      refine iteT ⟨fun σ H => ∃ c d oa ρ, EnvOk X.K c d oa ρ σ H ∧ (whileL t gb m ρ).AllB (PSq X.K c H D) (PX X.K c H E) d, fun σ' H' h => ⟨m, Nat.lt_succ_self m, h⟩, c, d1, oa, ρ, e1, ?_⟩
      refine T.AllB.imp (fun d2 x hx => ?_) (fun _ _ _ y => y) (T.allB_bind.mp h1)
      obtain ⟨fl, ρ2⟩ := x
      intro c2 oa2 σ2 H2 fw e2
      cases fl with
      | nx => exact ⟨c2, d2, oa2, ρ2, e2, T.AllB.imp (fun _ _ y => y.later fw) (fun _ _ _ y => y.fwd fw) hx⟩
      | ct => exact ⟨c2, d2, oa2, ρ2, e2, T.AllB.imp (fun _ _ y => y.later fw) (fun _ _ _ y => y.fwd fw) hx⟩
      | bk => exact hx c2 oa2 σ2 H2 fw e2
      | rt w => exact hx c2 oa2 σ2 H2 fw e2
/-- the iterator J yields ws, as long as the world goes on -/
def ItOk (K : PySem.W.Frag) (c : Cc) (H : Hp) (J : It) (ws : List W) : Prop := ∀ (c' : Cc) (H' : Hp) (d' : Nat) (i : Nat), Fwd K c H c' H' → Wd c' d' H' →
  (∀ w, ws[i]? = some w → J.go i H' ∧ ∀ x H2, J.yld i H' x H2 → Step c' H' H2 ∧ StOk c' d' H2 ∧ Rep K c' H2 w x) ∧ (ws.length ≤ i → J.stop i H')
def PJ (K : PySem.W.Frag) (c : Cc) (H : Hp) (R : It → Hp → Prop) : Nat → List W → Prop := fun d ws => ∀ J H1, Step c H H1 → StOk c d H1 → ItOk K c H1 J ws → R J H1
def liftI (K : PySem.W.Frag) (E : WX) (f : En → T (List W)) : TI := fun σ H R => ∃ c d oa ρ, EnvOk K c d oa ρ σ H ∧ (f ρ).AllB (PJ K c H R) (PX K c H fun cls dx H' => E cls dx σ H') d
theorem PJ.later {K : PySem.W.Frag} {c : Cc} {H H1 : Hp} {R : It → Hp → Prop} {d : Nat} {ws : List W} (s : Step c H H1) (h : PJ K c H R d ws) : PJ K c H1 R d ws := fun J H' st so r => h J H' (s.trans st) so r
def TrI (X : Cx) (E : WX) (tg iter : Expr) (f : En → T (List W)) : Prop := PI X tg iter (liftI X.K E f)
theorem pi_imp {X : Cx} {tg e : Expr} {t t' : TI} (h : PI X tg e t) (i : ∀ σ H Q, t' σ H Q → t σ H Q) : PI X tg e t' := ⟨fun pins s σ H Q I q => h.run pins s σ H Q I (i σ H Q q)⟩
def tupW : W → T (List W)
  | .tup ws => .ok ws
  | _ => .bad
def lstW : W → T (List W)
  | .lst ws => .ok ws
  | _ => .bad
def iOf (g : W → T (List W)) (f : En → T W) : En → T (List W) := fun ρ => (f ρ).bind g
def intsFrom (lo : Int) : Nat → List W
  | 0 => []
  | n + 1 => .int lo :: intsFrom (lo + 1) n
theorem intsFrom_get : ∀ (n : Nat) (lo : Int) (i : Nat), (intsFrom lo n)[i]? = if i < n then some (.int (lo + i)) else none
  | 0, lo, i => by simp [intsFrom]
  | n + 1, lo, 0 => by simp [intsFrom]
  | n + 1, lo, i + 1 => by
    simp only [intsFrom, List.getElem?_cons_succ]
    rw [intsFrom_get n (lo + 1) i]
    by_cases h : i < n
    · rw [if_pos h, if_pos (by omega)]
      have e : lo + 1 + (i : Int) = lo + ((i + 1 : Nat) : Int) := by omega
      rw [e]
    · rw [if_neg h, if_neg (by omega)]
theorem intsFrom_length : ∀ (n : Nat) (lo : Int), (intsFrom lo n).length = n
  | 0, _ => rfl
  | n + 1, lo => congrArg (· + 1) (intsFrom_length n (lo + 1))
def rng1 : List W → T (List W)
  | [.int n] => if decide (-(2 ^ 62) ≤ n ∧ n < 2 ^ 62) then .ok (intsFrom 0 n.toNat) else .bad
  | _ => .bad
def rng2 : List W → T (List W)
  | [.int a, .int b] => if decide (-(2 ^ 62) ≤ a ∧ a < 2 ^ 62 ∧ -(2 ^ 62) ≤ b ∧ b < 2 ^ 62) then .ok (intsFrom a (b - a).toNat) else .bad
  | _ => .bad
def iL (g : List W → T (List W)) (f : En → T (List W)) : En → T (List W) := fun ρ => (f ρ).bind g
section
variable {X : Cx} {E : WX} {tg e a b : Expr} {f : En → T W} {fs : En → T (List W)} {p pos : Pos}
theorem PJ.now {K : PySem.W.Frag} {c : Cc} {H : Hp} {R : It → Hp → Prop} {d : Nat} {ws : List W} {J : It} (wd : Wd c d H) (h : PJ K c H R d ws) (j : ItOk K c H J ws) : R J H := h J H (.refl c H) wd.st j
theorem tri_tup (h : TrE X E e f) : TrI X E tg e (iOf tupW f) := pi_imp (pi_tup h) fun σ H R q => by
  obtain ⟨c, d, oa, ρ, e, q⟩ := q
  refine lift_then (P := fun c H => PJ X.K c H R) e q (fun st p => p.later st) fun w v H1 d1 _ r1 e1 h1 => ?_
  cases r1 with
  | tup hq rl =>
    rename_i a vs ws
    refine ⟨a, rfl, ⟨_, hq⟩, PJ.now e1.wd h1 fun c' H' d' i fw wd => ⟨fun w hw => ?_, fun hi => ?_⟩⟩
    · obtain ⟨v, hv, rv⟩ := rl.get hw
      have hq' := fw.sqT e1.wd hq
      refine ⟨⟨vs, v, hq', hv⟩, fun x H2 y => ?_⟩
      obtain ⟨rfl, y⟩ := y
      have ex := y vs hq'
      rw [hv] at ex
      cases ex
      exact ⟨.refl _ _, wd.st, fw.rep _ _ rv⟩
    · exact ⟨vs, fw.sqT e1.wd hq, by rw [← rl.length]; exact hi⟩
  | _ => exact h1.elim
theorem tri_lst (h : TrE X E e f) : TrI X E tg e (iOf lstW f) := pi_imp (pi_list h) fun σ H R q => by
  obtain ⟨c, d, oa, ρ, e, q⟩ := q
  refine lift_then (P := fun c H => PJ X.K c H R) e q (fun st p => p.later st) fun w v H1 d1 _ r1 e1 h1 => ?_
  cases r1 with
  | lst n hq rl =>
    rename_i a vs ws
    refine ⟨a, rfl, ⟨_, SqL.of hq⟩, PJ.now e1.wd h1 fun c' H' d' i fw wd => ?_⟩
    have hq' : H' a = some (.lst vs) := fw.step _ _ hq (e1.ok.neS n) (e1.ok.nela n)
    have uq : ∀ xs, SqL X.K H' a xs → Rd H' a (.lst xs) ∨ SqL X.K (fun _ => none) a xs := fun xs h => sqL_split h
    refine ⟨fun w hw => ?_, fun hi => ?_⟩
    · obtain ⟨v, hv, rv⟩ := rl.get hw
      refine ⟨⟨vs, v, SqL.of hq', hv⟩, fun x H2 y => ?_⟩
      obtain ⟨rfl, y⟩ := y
      have ex := y vs (SqL.of hq')
      rw [hv] at ex
      cases ex
      exact ⟨.refl _ _, wd.st, fw.rep _ _ rv⟩
    · exact ⟨vs, SqL.of hq', by rw [← rl.length]; exact hi⟩
  | _ => exact h1.elim
theorem itr_ok {K : PySem.W.Frag} {c : Cc} {H : Hp} (lo : Int) (n : Nat) : ItOk K c H (Itr lo n) (intsFrom lo n) := fun c' H' d' i fw wd => by
  refine ⟨fun w hw => ?_, fun hi => ?_⟩
  · rw [intsFrom_get] at hw
    by_cases hi : i < n
    · rw [if_pos hi] at hw
      cases hw
      refine ⟨hi, fun x H2 y => ?_⟩
      obtain ⟨rfl, rfl⟩ := y
      exact ⟨.refl _ _, wd.st, .int _⟩
    · rw [if_neg hi] at hw
      cases hw
  · rw [intsFrom_length] at hi
    exact hi
theorem tri_rng1 (hg : Gl X "range") (hm : X.mg "range" = none) (ha : TrA X E [a] fs) (hs : starEach [a] X.env = [(false, eval a X.env)] := by rfl) : TrI X E tg (.Call (.Name "range" p) [a] [] pos) (iL rng1 fs) := pi_imp (pi_range1 hg hm ha hs) fun σ H R q => by
  obtain ⟨c, d, oa, ρ, e, q⟩ := q
  refine liftA_then (P := fun c H => PJ X.K c H R) e q (fun st p => p.later st) fun w v H1 d1 _ r1 e1 h1 => ?_
  cases r1 with
  | nil => exact h1.elim
  | cons r rr =>
    cases rr with
    | cons _ _ =>
      cases r <;> exact h1.elim
    | nil =>
      cases r with
      | int n =>
        obtain ⟨hb, h1⟩ := T.AllB.ite h1
        obtain ⟨h2, h3⟩ := of_decide_eq_true hb
        exact ⟨n, rfl, h2, h3, PJ.now e1.wd h1 (itr_ok 0 n.toNat)⟩
      | _ => exact h1.elim
theorem tri_rng2 (hg : Gl X "range") (hm : X.mg "range" = none) (ha : TrA X E [a, b] fs) (hs : starEach [a, b] X.env = [(false, eval a X.env), (false, eval b X.env)] := by rfl) (hs2 : starEach [b] X.env = [(false, eval b X.env)] := by rfl) : TrI X E tg (.Call (.Name "range" p) [a, b] [] pos) (iL rng2 fs) := pi_imp (pi_range2 hg hm ha hs hs2) fun σ H R q => by
  obtain ⟨c, d, oa, ρ, e, q⟩ := q
  refine liftA_then (P := fun c H => PJ X.K c H R) e q (fun st p => p.later st) fun w v H1 d1 _ r1 e1 h1 => ?_
  cases r1 with
  | nil => exact h1.elim
  | cons r rr =>
    cases rr with
    | nil => cases r <;> exact h1.elim
    | cons r2 rr =>
      cases rr with
      | cons _ _ => cases r <;> cases r2 <;> exact h1.elim
      | nil =>
        cases r with
        | int x =>
          cases r2 with
          | int y =>
            obtain ⟨hb, h1⟩ := T.AllB.ite h1
            exact ⟨x, y, rfl, of_decide_eq_true hb, PJ.now e1.wd h1 (itr_ok x (y - x).toNat)⟩
          | _ => exact h1.elim
        | _ => exact h1.elim
end
def forL (G : W → En → Option En) (gb : En → T (Fl × En)) : List W → En → T (Fl × En)
  | [], ρ => .ok (.nx, ρ)
  | w :: ws, ρ => match G w ρ with
    | none => .bad
    | some ρ1 => (gb ρ1).bind fun x => match x with
      | (.nx, ρ2) => forL G gb ws ρ2
      | (.ct, ρ2) => forL G gb ws ρ2
      | (.bk, ρ2) => .ok (.nx, ρ2)
      | (.rt w, ρ2) => .ok (.rt w, ρ2)
def sFor (fi : En → T (List W)) (G : W → En → Option En) (gb : En → T (Fl × En)) : En → T (Fl × En) := fun ρ => (fi ρ).bind fun ws => forL G gb ws ρ
theorem tr_for {X : Cx} {E : XK} {tg iter : Expr} {body : List Stmt} {fi : En → T (List W)} {ns : List Nat} {G : W → En → Option En} {gb : En → T (Fl × En)} {pos : Pos} (hp : PassesOwn (model X.prog X.w) X.A X.env X.xe) (hc : X.calm = true) (hi : TrI X (wOf E) tg iter fi) (hg : TrG X tg ns G) (hb : TrSs X E body gb)
    (hs : ∀ x, foldedSetIterable iter X.env x = pure x := by intro _; rfl) : TrS X E (.For tg iter body [] pos) (sFor fi G gb) := ps_imp (ps_for hp hc hi hg hb hs) fun D σ H q => by
  obtain ⟨c, d, oa, ρ, e, q⟩ := q
  refine ⟨c, d, oa, ρ, e, T.AllB.imp (fun d1 ws hx => ?_) (fun _ _ _ y => y) (T.allB_bind.mp q)⟩
  intro J H1 st1 so1 jo
  have e1 := e.step st1 so1
  refine ⟨fun i m σ H' => m = ws.length - i ∧ ∃ c' d' oa' ρ', Fwd X.K c H1 c' H' ∧ EnvOk X.K c' d' oa' ρ' σ H' ∧ (forL G gb (ws.drop i) ρ').AllB (PSq X.K c' H' D) (PX X.K c' H' E) d', ⟨_, rfl, c, d1, oa, ρ, .refl, e1, T.AllB.imp (fun _ _ y => y.later (.of st1 e.wd)) (fun _ _ _ y => y.later st1) hx⟩, ?_⟩
  rintro i m σ' H' ⟨rfl, c', d', oa', ρ', fw, e', h'⟩
  obtain ⟨ji, js⟩ := jo c' H' d' i fw e'.wd
  by_cases hi : i < ws.length
  · have hw : ws[i]? = some ws[i] := List.getElem?_eq_getElem hi
    have hd : ws.drop i = ws[i] :: ws.drop (i + 1) := List.drop_eq_getElem_cons hi
    rw [hd] at h'
    obtain ⟨jg, jy⟩ := ji _ hw
    refine .inr ⟨jg, fun σ2 H2 => ∃ c2 d2 oa2 ρ2, Fwd X.K c H1 c2 H2 ∧ EnvOk X.K c2 d2 oa2 ρ2 σ2 H2 ∧ (forL G gb (ws.drop (i + 1)) ρ2).AllB (PSq X.K c2 H2 D) (PX X.K c2 H2 E) d2, fun σ2 H2 h2 => ⟨ws.length - (i + 1), by omega, rfl, h2⟩, fun x H2 y => ?_⟩
    obtain ⟨st2, so2, rx⟩ := jy x H2 y
    have fw2 : Fwd X.K c' H' c' H2 := .of st2 e'.wd
    have e2 := e'.step st2 so2
    unfold forL at h'
    cases g : G ws[i] ρ' with
    | none =>
      rw [g] at h'
      exact h'.elim
    | some ρ1 =>
      rw [g] at h'
      refine ⟨c', d', oa', ρ', ws[i], ρ1, e2, rx, g, fun σ3 _ e3 => ⟨c', d', oa', ρ1, e3, ?_⟩⟩
      refine T.AllB.imp (fun d4 x4 hx4 => ?_) (fun _ _ _ y => y.fwd fw2) (T.allB_bind.mp h')
      obtain ⟨fl, ρ4⟩ := x4
      intro c4 oa4 σ4 H4 fw4 e4
      have fw5 : Fwd X.K c' H' c4 H4 := fw2.trans fw4
      cases fl with
      | nx => exact ⟨c4, d4, oa4, ρ4, fw.trans fw5, e4, T.AllB.imp (fun _ _ y => y.later fw5) (fun _ _ _ y => y.fwd fw5) hx4⟩
      | ct => exact ⟨c4, d4, oa4, ρ4, fw.trans fw5, e4, T.AllB.imp (fun _ _ y => y.later fw5) (fun _ _ _ y => y.fwd fw5) hx4⟩
      | bk => exact hx4 c4 oa4 σ4 H4 fw5 e4
      | rt w => exact hx4 c4 oa4 σ4 H4 fw5 e4
  · rw [List.drop_eq_nil_of_le (by omega)] at h'
    exact .inl ⟨js (by omega), h' c' oa' σ' H' .refl e'⟩
end PF
namespace PF
open PySem PySem.Spec PyProof.Rows L2
abbrev Cc.more (c : Cc) (D : Addr) : Cc := { c with A := D :: c.A }
section
variable {K : PySem.W.Frag} {c : Cc} {d : Nat} {oa : Nat → Addr} {ρ : En} {σ : St} {H H' : Hp} {D : Addr}
mutual
theorem Rep.more (n : H D = none) (st : Step c H H') (s : StOk c d H) (ok : CcOk c) : ∀ {w : W} {v : V}, Rep K c H w v → Rep K (c.more D) H' w v
  | _, _, .non => .non
  | _, _, .bl b => .bl b
  | _, _, .int i => .int i
  | _, _, .str x => .str x
  | _, _, .tup h r => .tup (st.sqT s h) (RepL.more n st s ok r)
  | _, _, .lst m h r => .lst (by
      simp only [List.mem_cons, not_or]
      exact ⟨ne_of_none h n, m⟩) (st.lst ok m h) (RepL.more n st s ok r)
  | _, _, .dct m h r => .dct (by
      simp only [List.mem_cons, not_or]
      exact ⟨ne_of_none h n, m⟩) (st.lst ok m h) (RepL.more n st s ok r)
  | _, _, .scr h => .scr (by
      rcases h with ⟨m, r⟩ | h
      · refine .inl ⟨?_, r.imp (fun e => st.lst ok m e) fun ⟨o, e⟩ => ⟨o, st.lst ok m e⟩⟩
        simp only [List.mem_cons, not_or]
        refine ⟨?_, m⟩
        rcases r with r | ⟨o, r⟩
        · exact ne_of_none r n
        · exact ne_of_none r n
      · exact .inr h)
  | _, _, .stt => .stt
theorem RepL.more (n : H D = none) (st : Step c H H') (s : StOk c d H) (ok : CcOk c) : ∀ {ws : List W} {vs : List V}, RepL K c H ws vs → RepL K (c.more D) H' ws vs
  | _, _, .nil => .nil
  | _, _, .cons h r => .cons (Rep.more n st s ok h) (RepL.more n st s ok r)
end
theorem Fwd.more (n : H D = none) (st : Step c H H') (wd : Wd c d H) : Fwd K c H (c.more D) H' := ⟨rfl, rfl, rfl, fun b h => List.mem_cons_of_mem _ h, st, fun w v r => r.more n st wd.st wd.ok⟩
/-- an object of the frame's own is laid -/
theorem EnvOk.more {o : HO} (e : EnvOk K c d oa ρ σ H) (n : H D = none) : EnvOk K (c.more D) d oa ρ σ (upd H D o) where
  ok := ⟨List.mem_cons_of_mem _ e.ok.inS, List.mem_cons_of_mem _ e.ok.inla, List.mem_cons_of_mem _ e.ok.inca⟩
  st := e.st.new n
  av := fun b hb => by
    rcases List.mem_cons.mp hb with rfl | hb
    · exact ⟨_, upd_same⟩
    · exact (e.wd.new n).av b hb
  len := e.len
  val := fun i w h => by
    obtain ⟨v, h1, h2⟩ := e.val i w h
    exact ⟨v, h1, h2.more n (.new n) e.st e.ok⟩
  own := fun i ws h => by
    obtain ⟨h1, h2, h3, vs, h4, h5⟩ := e.own i ws h
    exact ⟨List.mem_cons_of_mem _ h1, h2, h3, vs, by rw [upd_ne (ne_of_none h4 n)]; exact h4, h5.more n (.new n) e.st e.ok⟩
  inj := e.inj
theorem sqT_upd {a : Addr} {vs : List V} {o u : HO} (hl : H D = some o) (nt : ∀ xs, o ≠ .tup xs) (nf : ∀ b u, o ≠ .frz b u) (h : SqT K H a vs) : SqT K (upd H D u) a vs := by
  rcases h with (h | ⟨b, h⟩) | h
  · exact .inl (.inl (by rw [upd_ne (ne_of h hl (Ne.symm (nt _)))]; exact h))
  · exact .inl (.inr ⟨b, by rw [upd_ne (ne_of h hl (Ne.symm (nf _ _)))]; exact h⟩)
  · exact .inr h
mutual
theorem Rep.upd {o u : HO} (hA : D ∈ c.A) (hl : H D = some o) (nt : ∀ xs, o ≠ .tup xs) (nf : ∀ b u, o ≠ .frz b u) : ∀ {w : W} {v : V}, Rep K c H w v → Rep K c (L2.upd H D u) w v
  | _, _, .non => .non
  | _, _, .bl b => .bl b
  | _, _, .int i => .int i
  | _, _, .str x => .str x
  | _, _, .tup h r => .tup (sqT_upd hl nt nf h) (RepL.upd hA hl nt nf r)
  | _, _, .lst m h r => .lst m (by rw [upd_ne (fun z => m (by rw [z]; exact hA))]; exact h) (RepL.upd hA hl nt nf r)
  | _, _, .dct m h r => .dct m (by rw [upd_ne (fun z => m (by rw [z]; exact hA))]; exact h) (RepL.upd hA hl nt nf r)
  | _, _, .scr h => .scr (by
      rcases h with ⟨m, r⟩ | h
      · have ne : ∀ b, b ∉ c.A → b ≠ D := fun b hb z => hb (by rw [z]; exact hA)
        exact .inl ⟨m, r.imp (fun e => by rw [upd_ne (ne _ m)]; exact e) fun ⟨o, e⟩ => ⟨o, by rw [upd_ne (ne _ m)]; exact e⟩⟩
      · exact .inr h)
  | _, _, .stt => .stt
theorem RepL.upd {o u : HO} (hA : D ∈ c.A) (hl : H D = some o) (nt : ∀ xs, o ≠ .tup xs) (nf : ∀ b u, o ≠ .frz b u) : ∀ {ws : List W} {vs : List V}, RepL K c H ws vs → RepL K c (L2.upd H D u) ws vs
  | _, _, .nil => .nil
  | _, _, .cons h r => .cons (Rep.upd hA hl nt nf h) (RepL.upd hA hl nt nf r)
end
theorem StOk.upd {u : HO} (s : StOk c d H) (hn : D ∉ [c.S, c.ca, c.la]) : StOk c d (L2.upd H D u) := by
  obtain ⟨cells, lefts, k, r, h1, h2, h3, h⟩ := s
  simp only [List.mem_cons, not_or, List.not_mem_nil, not_false_eq_true, and_true] at hn
  exact ⟨cells, lefts, k, r, by rw [upd_ne (Ne.symm hn.1)]; exact h1, by rw [upd_ne (Ne.symm hn.2.1)]; exact h2, by rw [upd_ne (Ne.symm hn.2.2)]; exact h3, h⟩
theorem EnvOk.upd {xs : List V} {u : HO} (e : EnvOk K c d oa ρ σ H) (hA : D ∈ c.A) (hn : D ∉ [c.S, c.ca, c.la]) (hl : H D = some (.lst xs)) (ho : ∀ (i : Nat) (ws : List W), ρ[i]? = some (.own ws) → oa i ≠ D) : EnvOk K c d oa ρ σ (L2.upd H D u) where
  ok := e.ok
  st := e.st.upd hn
  av := fun b hb => by
    by_cases hb' : b = D
    · rw [hb']
      exact ⟨_, upd_same⟩
    · obtain ⟨o, h⟩ := e.av b hb
      exact ⟨o, by rw [upd_ne hb']; exact h⟩
  len := e.len
  val := fun i w h => by
    obtain ⟨v, h1, h2⟩ := e.val i w h
    exact ⟨v, h1, h2.upd hA hl (fun _ z => by cases z) (fun _ _ z => by cases z)⟩
  own := fun i ws h => by
    obtain ⟨h1, h2, h3, vs, h4, h5⟩ := e.own i ws h
    exact ⟨h1, h2, h3, vs, by rw [upd_ne (ho i ws h)]; exact h4, h5.upd hA hl (fun _ z => by cases z) (fun _ _ z => by cases z)⟩
  inj := e.inj
end
def noX {α : Type} : T α → T α
  | .ok a => .ok a
  | .exc _ _ => .bad
  | .bad => .bad
  | .ask n k => .ask n fun i => noX (k i)
theorem noX_all {α : Type} {P : Nat → α → Prop} {E E' : Nat → Nat → List W → Prop} : ∀ {t : T α} {d : Nat}, (noX t).AllB P E d → t.AllB P E' d
  | .ok a, d, h => h
  | .exc _ _, d, h => h.elim
  | .bad, _, h => h
  | .ask n k, d, h => by
    obtain ⟨e, he, x⟩ := h
    exact ⟨e, he, fun i hi => noX_all (x i hi)⟩
def wipeE (ρ : En) : List Nat → En
  | [] => ρ
  | v :: vs => (wipeE ρ vs).set v .un
def compL (G : W → En → Option En) (tt : En → T Bool) (fe : En → T W) (ρ : En) : List W → T (List W)
  | [] => .ok []
  | w :: ws => match G w ρ with
    | none => .bad
    | some ρ1 => (noX (tt ρ1)).bind fun b => if b then (noX (fe ρ1)).bind fun x => (compL G tt fe ρ ws).bind fun xs => .ok (x :: xs) else compL G tt fe ρ ws
def fComp (vs : List Nat) (fi : En → T (List W)) (G : W → En → Option En) (tt : En → T Bool) (fe : En → T W) : En → T W := fun ρ => (fi ρ).bind fun ws => if sizeOk ws then (compL G tt fe (wipeE ρ vs) ws).bind fun xs => .ok (.lst xs) else .bad
abbrev noW : WX := fun _ _ _ _ => False
section
variable {K : PySem.W.Frag} {c : Cc} {d : Nat} {oa : Nat → Addr} {ρ : En} {σ : St} {H : Hp}
theorem EnvOk.un {v : Nat} (e : EnvOk K c d oa ρ σ H) : EnvOk K c d oa (ρ.set v .un) (σ.set v none) H where
  ok := e.ok
  st := e.st
  av := e.av
  len := by rw [List.length_set, List.length_set]; exact e.len
  val := fun j x h => by
    rcases getElem?_set_or h with ⟨ej, ex⟩ | ⟨n, h'⟩
    · cases ex
    · obtain ⟨u, h1, h2⟩ := e.val j x h'
      exact ⟨u, by rw [List.getElem?_set_ne (Ne.symm n)]; exact h1, h2⟩
  own := fun j x h => by
    rcases getElem?_set_or h with ⟨ej, ex⟩ | ⟨n, h'⟩
    · cases ex
    · obtain ⟨h1, h2, h3, h4⟩ := e.own j x h'
      exact ⟨h1, h2, by rw [List.getElem?_set_ne (Ne.symm n)]; exact h3, h4⟩
  inj := fun a b x y h1 h2 => by
    rcases getElem?_set_or h1 with ⟨ej, ex⟩ | ⟨n1, h1'⟩
    · cases ex
    · rcases getElem?_set_or h2 with ⟨ej, ex⟩ | ⟨n2, h2'⟩
      · cases ex
      · exact e.inj a b x y h1' h2'
theorem EnvOk.wipe (e : EnvOk K c d oa ρ σ H) : ∀ vs : List Nat, EnvOk K c d oa (wipeE ρ vs) (L2.wipe σ vs) H
  | [] => e
  | v :: vs => (EnvOk.wipe e vs).un
theorem wipeE_own {j : Nat} {xs : List W} : ∀ {vs : List Nat}, (wipeE ρ vs)[j]? = some (.own xs) → ρ[j]? = some (.own xs)
  | [], h => h
  | v :: vs, h => by
    rcases getElem?_set_or h with ⟨_, ex⟩ | ⟨_, h⟩
    · cases ex
    · exact wipeE_own h
theorem wipe_len (σ : St) : ∀ vs : List Nat, (L2.wipe σ vs).length = σ.length
  | [] => rfl
  | v :: vs => by
    unfold L2.wipe
    rw [List.length_set, wipe_len σ vs]
theorem wipe_at (σ : St) : ∀ (vs : List Nat) (j : Nat), (L2.wipe σ vs)[j]? = if j ∈ vs then (if j < σ.length then some none else none) else σ[j]?
  | [], j => by
    rw [if_neg (by simp)]
    rfl
  | v :: vs, j => by
    unfold L2.wipe
    by_cases e : v = j
    · subst e
      rw [if_pos (List.mem_cons_self ..), List.getElem?_set]
      simp only [if_true, wipe_len]
    · rw [List.getElem?_set_ne e, wipe_at σ vs j]
      have e' : (j ∈ v :: vs) ↔ j ∈ vs := by
        simp only [List.mem_cons]
        exact ⟨fun h => h.elim (fun z => absurd z.symm e) id, .inr⟩
      simp only [e']
theorem wipe_but {ns vs : List Nat} {σ2 : St} (h : ButAt ns (L2.wipe σ vs) σ2) (hs : ∀ i ∈ ns, i ∈ vs) : L2.wipe σ2 vs = L2.wipe σ vs := by
  refine List.ext_getElem? fun j => ?_
  rw [wipe_at, wipe_at]
  have hl : σ2.length = σ.length := by rw [h.1, wipe_len]
  by_cases hj : j ∈ vs
  · rw [if_pos hj, if_pos hj, hl]
  · rw [if_neg hj, if_neg hj, h.2 j (fun z => hj (hs j z)), wipe_at, if_neg hj]
end
section
variable {X : Cx} {E : WX} {elt tg iter : Expr} {ifs : List Expr} {scope : Scope} {own : List (Str × Nat)} {pos : Pos} {fi : En → T (List W)} {ns : List Nat} {G : W → En → Option En} {tt : En → T Bool} {fe : En → T W}
theorem comp_ok (hs : ∀ i ∈ ns, i ∈ own.map (·.2)) : ∀ σ H Q, liftE X.K E (fComp (own.map (·.2)) fi G tt fe) σ H Q → tLc (liftI X.K E fi) (liftG X.K ns G) (liftB X.K noW tt) (liftE X.K noW fe) (own.map (·.2)) σ H Q := fun σ H Q h => by
  obtain ⟨c, d, oa, ρ, e, h⟩ := h
  refine ⟨c, d, oa, ρ, e, T.AllB.imp (fun d1 ws hx => ?_) (fun _ _ _ y => y) (T.allB_bind.mp h)⟩
  intro J H1 st1 so1 jo D nD
  have e1 := e.step st1 so1
  obtain ⟨hz, hx⟩ := T.AllB.ite hx
  have hz := sizeOk_of hz
  generalize hvs : own.map (·.2) = vs at hs hx
  have hx : ((compL G tt fe (wipeE ρ vs) ws).bind fun xs => T.ok (W.lst xs)).AllB (PQ X.K c H1 Q) (PX X.K c H1 fun cls dx H' => E cls dx σ H') d1 := T.AllB.imp (fun _ _ y => y.later st1) (fun _ _ _ y => y.later st1) hx
  -- the turn's word
  refine ⟨fun i m H' => m = ws.length - i ∧ ∃ d' acc us, Step c H1 H' ∧ EnvOk X.K (c.more D) d' oa (wipeE ρ vs) (wipe σ vs) H' ∧ H' D = some (.lst us) ∧ RepL X.K (c.more D) H' acc us ∧ us.length ≤ i ∧
    ((compL G tt fe (wipeE ρ vs) (ws.drop i)).bind fun xs => T.ok (W.lst (acc ++ xs))).AllB (PQ X.K c H1 Q) (PX X.K c H1 fun cls dx H' => E cls dx σ H') d',
    ⟨_, rfl, d1, [], [], .new nD, (e1.more nD).wipe vs, upd_same, .nil, Nat.le_refl _, hx⟩, ?_⟩
  rintro i m H' ⟨rfl, d', acc, us, st', e', hD, ra, hl, h'⟩
  have fw : Fwd X.K c H1 (c.more D) H' := .more nD st' e1.wd
  obtain ⟨ji, js⟩ := jo (c.more D) H' d' i fw e'.wd
  have nst : D ∉ [(c.more D).S, (c.more D).ca, (c.more D).la] := by
    obtain ⟨cells, lefts, k, r, h1, h2, h3, _⟩ := so1
    simp only [List.mem_cons, not_or, List.not_mem_nil, not_false_eq_true, and_true]
    exact ⟨Ne.symm (ne_of_none h1 nD), Ne.symm (ne_of_none h2 nD), Ne.symm (ne_of_none h3 nD)⟩
  have ho : ∀ (j : Nat) (xs : List W), (wipeE ρ vs)[j]? = some (.own xs) → oa j ≠ D := fun j xs hj => by
    obtain ⟨_, _, _, zs, h4, _⟩ := e1.own j xs (wipeE_own hj)
    exact ne_of_none h4 nD
  by_cases hi : i < ws.length
  · have hw : ws[i]? = some ws[i] := List.getElem?_eq_getElem hi
    rw [List.drop_eq_getElem_cons hi] at h'
    obtain ⟨jg, jy⟩ := ji _ hw
    refine .inr ⟨jg, fun H2 => ∃ d' acc us, Step c H1 H2 ∧ EnvOk X.K (c.more D) d' oa (wipeE ρ vs) (wipe σ vs) H2 ∧ H2 D = some (.lst us) ∧ RepL X.K (c.more D) H2 acc us ∧ us.length ≤ i + 1 ∧
      ((compL G tt fe (wipeE ρ vs) (ws.drop (i + 1))).bind fun xs => T.ok (W.lst (acc ++ xs))).AllB (PQ X.K c H1 Q) (PX X.K c H1 fun cls dx H' => E cls dx σ H') d', fun H2 h2 => ⟨ws.length - (i + 1), by omega, rfl, h2⟩, fun x H2 y => ?_⟩
    obtain ⟨st2, so2, rx⟩ := jy x H2 y
    have e2 := e'.step st2 so2
    have keep : ∀ {Ha Hb : Hp}, Step (c.more D) Ha Hb → ∀ {us}, Ha D = some (.lst us) → Hb D = some (.lst us) := fun st us h => st _ _ h (by
      intro z
      exact nst (by rw [z]; simp)) (by
      intro z
      exact nst (by rw [z]; simp))
    unfold compL at h'
    cases g : G ws[i] (wipeE ρ vs) with
    | none =>
      rw [g] at h'
      exact h'.elim
    | some ρ1 =>
      rw [g] at h'
      refine ⟨c.more D, d', oa, wipeE ρ vs, ws[i], ρ1, e2, rx, g, fun σ3 b3 e3 => ⟨wipe_but b3 hs, c.more D, d', oa, ρ1, e3, ?_⟩⟩
      refine noX_all (T.AllB.imp (fun d4 b hb => ?_) (fun _ _ _ y => y) (T.allB_bind.mp (T.allB_bind.mp h')))
      intro H4 st4 so4
      have e4 := e3.step st4 so4
      have e4' := e2.step st4 so4
      cases b with
      | false => exact iteF ⟨d4, acc, us, st'.trans (st2.trans st4), e4', keep st4 (keep st2 hD), (ra.step st2 e'.st e'.ok).step st4 e2.st e2.ok, Nat.le_succ_of_le hl, T.allB_bind.mpr (show (compL G tt fe (wipeE ρ vs) (ws.drop (i + 1))).AllB _ _ d4 from hb)⟩
      | true =>
        refine iteT ⟨c.more D, d4, oa, ρ1, e4, ?_⟩
        refine noX_all (T.AllB.imp (fun d5 w5 h5 => ?_) (fun _ _ _ y => y) (T.allB_bind.mp (show ((noX (fe ρ1)).bind fun x => (compL G tt fe (wipeE ρ vs) (ws.drop (i + 1))).bind fun xs => .ok (x :: xs)).AllB _ _ d4 from hb)))
        intro v5 H5 st5 so5 r5
        have e5 := e4'.step st5 so5
        have hD5 := keep st5 (keep st4 (keep st2 hD))
        have ra5 := ((ra.step st2 e'.st e'.ok).step st4 e2.st e2.ok).step st5 e4'.st e4'.ok
        refine ⟨us, hD5, by omega, d5, acc ++ [w5], us ++ [v5], fun b o hb h1 h2 => ?_, e5.upd (List.mem_cons_self ..) nst hD5 ho, upd_same, ?_, by rw [List.length_append]; exact Nat.succ_le_succ hl, ?_⟩
        · rw [upd_ne (ne_of_none hb nD)]
          exact (st'.trans (st2.trans (st4.trans st5))) b o hb h1 h2
        · exact (ra5.append (.cons r5 .nil)).upd (List.mem_cons_self ..) hD5 (fun _ z => by cases z) (fun _ _ z => by cases z)
        · have h6 := T.allB_bind.mp h5
          refine T.allB_bind.mpr (T.AllB.imp (fun d6 xs h7 => ?_) (fun _ _ _ y => y) h6)
          have e7 : acc ++ [w5] ++ xs = acc ++ w5 :: xs := by simp
          rw [e7]
          exact h7
  · rw [List.drop_eq_nil_of_le (by omega)] at h'
    refine .inl ⟨js (by omega), ?_⟩
    have h8 : PQ X.K c H1 Q d' (.lst (acc ++ [])) := h'
    rw [List.append_nil] at h8
    refine h8 _ H' st' e'.st (.lst (e1.wd.fresh nD) hD ?_)
    exact RepL.weak (c := c) (c1 := c.more D) rfl (fun b hb => List.mem_cons_of_mem _ hb) ra
/-- the clause's tests -/
def TrTs (X : Cx) (ifs : List Expr) (t : En → T Bool) : Prop := PTs X ifs (liftB X.K noW t)
def fYes : En → T Bool := fun _ => .ok true
theorem trt_nil {X : Cx} : TrTs X [] fYes := ⟨fun pins s σ H Q I h => pts_nil.run pins s σ H Q I (by
  obtain ⟨c, d, oa, ρ, e, h⟩ := h
  exact h H (.refl c H) e.st)⟩
theorem trt_one {X : Cx} {e : Expr} {t : En → T Bool} (h : TrB X noW e t) : TrTs X [e] t := pts_one h
theorem tr_lc (hc : X.calm = true) (hN : X.N.Nodup) (hi : TrI X E tg iter fi) (ok : BlkOk X.N X.env.scope scope own) (hs : ∀ i ∈ ns, i ∈ own.map (·.2))
    (hg : ∀ (s : Shared) (H : Hp) (C : Addr) (cl : List (Str × Addr)) (fp : List Addr), TrG (X.blk s H scope (compEnvC scope cl C X.env) fp) tg ns G) (ht : ∀ (s : Shared) (H : Hp) (C : Addr) (cl : List (Str × Addr)) (fp : List Addr), TrTs (X.blk s H scope (compEnvC scope cl C X.env) fp) ifs tt)
    (he : ∀ (s : Shared) (H : Hp) (C : Addr) (cl : List (Str × Addr)) (fp : List Addr), TrE (X.blk s H scope (compEnvC scope cl C X.env) fp) noW elt fe) (hf : ∀ x, foldedSetIterable iter X.env x = pure x := by intro _; rfl) :
    TrE X E (.ListComp elt [⟨tg, iter, ifs, 0⟩] scope pos) (fComp (own.map (·.2)) fi G tt fe) := pe_imp (pe_lc (g := liftG X.K ns G) (tt := liftB X.K noW tt) (te := liftE X.K noW fe) hc hN hi ok hg ht he hf) (comp_ok hs)
end
def startE (n : Nat) (ws : List W) : En := ws.map Sl.val ++ List.replicate (n - ws.length) .un
def endOf : Fl × En → T W
  | (.rt w, _) => .ok w
  | (.nx, _) => .ok .non
  | _ => .bad
def defF (n np : Nat) (g : En → T (Fl × En)) : List W → T W := fun ws => if ws.length == np then (g (startE n ws)).bind endOf else .bad
theorem start_ok {K : PySem.W.Frag} {c : Cc} {d : Nat} {H : Hp} {ws : List W} {vs : List V} {N : List Str} (wd : Wd c d H) (r : RepL K c H ws vs) : EnvOk K c d (fun _ => 0) (startE N.length ws) (L2.start N vs) H where
  ok := wd.ok
  st := wd.st
  av := wd.av
  len := by
    unfold startE L2.start
    rw [List.length_append, List.length_append, List.length_map, List.length_map, List.length_replicate, List.length_replicate, r.length]
  val := fun i w h => by
    unfold startE at h
    unfold L2.start
    rw [List.getElem?_append] at h
    split at h
    · rename_i hi
      rw [List.length_map] at hi
      rw [List.getElem?_map] at h
      cases hw : ws[i]? with
      | none =>
        rw [hw] at h
        cases h
      | some w' =>
        rw [hw] at h
        cases h
        obtain ⟨v, h1, h2⟩ := r.get hw
        refine ⟨v, ?_, h2⟩
        rw [List.getElem?_append_left (by rw [List.length_map, ← r.length]; exact hi), List.getElem?_map, h1]
        rfl
    · rw [List.getElem?_replicate] at h
      split at h <;> cases h
  own := fun i w h => by
    unfold startE at h
    rw [List.getElem?_append] at h
    split at h
    · rw [List.getElem?_map] at h
      cases hw : ws[i]? with
      | none =>
        rw [hw] at h
        cases h
      | some w' =>
        rw [hw] at h
        cases h
    · rw [List.getElem?_replicate] at h
      split at h <;> cases h
  inj := fun i j x y h _ => by
    unfold startE at h
    rw [List.getElem?_append] at h
    split at h
    · rw [List.getElem?_map] at h
      cases hw : ws[i]? with
      | none =>
        rw [hw] at h
        cases h
      | some w' =>
        rw [hw] at h
        cases h
    · rw [List.getElem?_replicate] at h
      split at h <;> cases h
theorem SpF.len {K : PySem.W.Frag} {F : List W → T W} {np : Nat} (hF : ∀ ws, ws.length ≠ np → F ws = .bad) : ∀ vs H Q E, SpF K F vs H Q E → vs.length = np := fun vs H Q E h => by
  obtain ⟨c, d, ws, wd, r, h⟩ := h
  by_cases e : ws.length = np
  · rw [← r.length]
    exact e
  · rw [hF ws e] at h
    exact h.elim
/-- THE RULE: a def of the text does what its body's run does -/
theorem fn_tr {P : Program} {w : World} {K : PySem.W.Frag} {mg : Str → Option Value} {base : Heap} {k : Nat} {f : Addr} {fd : FuncData} {x qual : Str} {params : Arguments} {body : List Stmt} {scope : Scope} {N ps : List Str} {g : En → T (Fl × En)}
    (F : FunD K x qual params body scope [] [] f fd) (S : FnScope N ps scope)
    (hb : ∀ (cdv : Value) (A : Around) (outer : List PySem.Env) (s : Shared) (H : Hp) (E : XK), Room k (A.deeper (envOfC qual scope s.heap.objs.size f cdv)) → TrSs (cxOf (L2.CX P w) P w K mg base N qual scope f cdv A outer s H E) E body g) :
    FnOk P w K mg base (L2.CX P w) (k + 1) f fd ps (SpF K (defF N.length ps.length g)) := by
  refine F.ok S (SpF.len fun ws h => ?_) fun cdv A outer s H vs Q E hr h => ⟨_, hb cdv A outer s H E hr, ?_⟩
  · unfold defF
    rw [if_neg]
    intro z
    exact h (eq_of_beq z)
  · obtain ⟨c, d, ws, wd, r, h⟩ := h
    obtain ⟨_, h⟩ := T.AllB.ite h
    refine ⟨c, d, fun _ => 0, startE N.length ws, start_ok wd r, T.AllB.imp (fun d1 x hx => ?_) (fun _ _ _ y => y) (T.allB_bind.mp h)⟩
    obtain ⟨fl, ρ'⟩ := x
    intro c' oa' σ' H' fw e'
    cases fl with
    | nx => exact hx _ H' fw.step (by
        obtain ⟨cells, lefts, k, r, h1, h2⟩ := e'.st
        rw [fw.S, fw.ca, fw.la] at h1
        rw [fw.ca, fw.la] at h2
        exact ⟨cells, lefts, k, r, h1, h2⟩) .non
    | rt w => exact fun v rv => hx v H' fw.step (by
        obtain ⟨cells, lefts, k, r, h1, h2⟩ := e'.st
        rw [fw.S, fw.ca, fw.la] at h1
        rw [fw.ca, fw.la] at h2
        exact ⟨cells, lefts, k, r, h1, h2⟩) (rv.weak fw.S fw.sub)
    | bk => exact hx.elim
    | ct => exact hx.elim
end PF
namespace PF
open PySem PySem.Spec PyProof.Rows L2
@[irreducible] def sz2 (a b : Nat) : Bool := decide (a + b ≤ 16777216)
theorem sz2_of {a b : Nat} (h : sz2 a b = true) : a + b ≤ 16777216 := by
  unfold sz2 at h
  exact of_decide_eq_true h
def addW : W → W → T W
  | .int i, .int j => .ok (.int (i + j))
  | .str x, .str y => if sz2 x.length y.length then .ok (.str (x ++ y)) else .bad
  | .tup xs, .tup ys => if sz2 xs.length ys.length then .ok (.tup (xs ++ ys)) else .bad
  | .lst xs, .lst ys => if sz2 xs.length ys.length then .ok (.lst (xs ++ ys)) else .bad
  | _, _ => .bad
def subW : W → W → T W
  | .int i, .int j => .ok (.int (i - j))
  | _, _ => .bad
@[irreducible] def mulOk (i j : Int) : Bool := decide (i.natAbs.log2 + j.natAbs.log2 < 1000000)
def mulW : W → W → T W
  | .int i, .int j => if mulOk i j then .ok (.int (i * j)) else .bad
  | _, _ => .bad
@[irreducible] def divOk (j : Int) : Bool := decide (0 < j) && decide (j.natAbs.log2 < 9000)
def fdivW : W → W → T W
  | .int i, .int j => if divOk j then .ok (.int (i / j)) else .bad
  | _, _ => .bad
def modW : W → W → T W
  | .int i, .int j => if decide (0 < j) then .ok (.int (i % j)) else .bad
  | _, _ => .bad
@[irreducible] def powOk (i j : Int) : Bool := decide (0 ≤ j ∧ j ≤ 1000000 ∧ i.natAbs < 2 ^ 64)
def powW : W → W → T W
  | .int i, .int j => if powOk i j then .ok (.int (i ^ j.toNat)) else .bad
  | _, _ => .bad
def ltW : W → W → T W
  | .int i, .int j => .ok (.bl (decide (i < j)))
  | _, _ => .bad
def leW : W → W → T W
  | .int i, .int j => .ok (.bl (decide (i ≤ j)))
  | _, _ => .bad
def gtW : W → W → T W
  | .int i, .int j => .ok (.bl (decide (j < i)))
  | _, _ => .bad
def geW : W → W → T W
  | .int i, .int j => .ok (.bl (decide (j ≤ i)))
  | _, _ => .bad
section
variable {K : PySem.W.Frag}
theorem RepL.sizes {c : Cc} {H : Hp} {xs ys : List W} {us vs : List V} (r : RepL K c H xs us) (q : RepL K c H ys vs) (h : sz2 xs.length ys.length = true) : us.length + vs.length ≤ sizeLine := by
  rw [sizeLine_eq, ← r.length, ← q.length]
  exact sz2_of h
theorem sem_int0 {g : W → W → T W} {f : Int → Int → V} {k : Int → Int → W} (hk : ∀ c H i j, Rep K c H (k i j) (f i j)) (h : ∀ x y, (∃ i j, x = .int i ∧ y = .int j ∧ g x y = .ok (k i j)) ∨ g x y = .bad) : Sem2 K (rI0 f) g := fun c d H x y v u Q E' wd rx ry q => by
  rcases h x y with ⟨i, j, rfl, rfl, e⟩ | e
  · rw [e] at q
    cases rx
    cases ry
    exact ⟨i, j, rfl, rfl, PQ.now wd q (hk c H i j)⟩
  · rw [e] at q
    exact q.elim
theorem sem_intC {g : W → W → T W} {C : Int → Int → Prop} {B : Int → Int → Bool} {f : Int → Int → V} {k : Int → Int → W} (hk : ∀ c H i j, Rep K c H (k i j) (f i j)) (hC : ∀ i j, B i j = true → C i j) (h : ∀ x y, (∃ i j, x = .int i ∧ y = .int j ∧ g x y = if B i j then .ok (k i j) else .bad) ∨ g x y = .bad) : Sem2 K (rI C f) g := fun c d H x y v u Q E' wd rx ry q => by
  rcases h x y with ⟨i, j, rfl, rfl, e⟩ | e
  · rw [e] at q
    cases rx
    cases ry
    obtain ⟨hb, q⟩ := T.AllB.ite q
    exact ⟨i, j, rfl, rfl, hC i j hb, PQ.now wd q (hk c H i j)⟩
  · rw [e] at q
    exact q.elim
theorem sem_or1 {r r' : R2} {g g1 g2 : W → W → T W} (h1 : Sem2 K r g1) (h2 : Sem2 K r' g2) (h : ∀ x y, g x y = g1 x y ∨ g x y = g2 x y) : Sem2 K (fun x y H Q => r x y H Q ∨ r' x y H Q) g := fun c d H x y v u Q E' wd rx ry q => by
  rcases h x y with e | e
  · rw [e] at q
    exact .inl (h1 c d H x y v u Q E' wd rx ry q)
  · rw [e] at q
    exact .inr (h2 c d H x y v u Q E' wd rx ry q)
def addI : W → W → T W
  | .int i, .int j => .ok (.int (i + j))
  | _, _ => .bad
def addS : W → W → T W
  | .str x, .str y => if sz2 x.length y.length then .ok (.str (x ++ y)) else .bad
  | _, _ => .bad
def addT : W → W → T W
  | .tup xs, .tup ys => if sz2 xs.length ys.length then .ok (.tup (xs ++ ys)) else .bad
  | _, _ => .bad
def addL : W → W → T W
  | .lst xs, .lst ys => if sz2 xs.length ys.length then .ok (.lst (xs ++ ys)) else .bad
  | _, _ => .bad
theorem sem_addI : Sem2 K (rI0 fun i j => .int (i + j)) addI := sem_int0 (k := fun i j => .int (i + j)) (fun _ _ _ _ => .int _) fun x y => by
  cases x <;> cases y <;> first | exact .inl ⟨_, _, rfl, rfl, rfl⟩ | exact .inr rfl
theorem sem_addS : Sem2 K (fun x y H Q => ∃ i j, x = .str i ∧ y = .str j ∧ i.length + j.length ≤ sizeLine ∧ Q (.str (i ++ j)) H) addS := fun c d H x y v u Q E' wd rx ry q => by
  cases rx <;> try exact q.elim
  cases ry <;> try exact q.elim
  obtain ⟨hz, q⟩ := T.AllB.ite q
  exact ⟨_, _, rfl, rfl, by rw [sizeLine_eq]; exact sz2_of hz, PQ.now wd q (.str _)⟩
theorem sem_addT : Sem2 K (rCatA K) addT := fun c d H x y v u Q E' wd rx ry q => by
  cases rx <;> try exact q.elim
  cases ry <;> try exact q.elim
  rename_i a xs ws h1 r1 b ys us h2 r2
  obtain ⟨hz, q⟩ := T.AllB.ite q
  refine ⟨_, _, _, _, rfl, rfl, h1, h2, r1.sizes r2 hz, fun e => ?_, fun _ e => ?_, fun _ _ p n => PQ.tup wd q (r1.append r2) n⟩
  · subst e
    cases r1
    exact PQ.now wd q (.tup h2 r2)
  · subst e
    cases r2
    rw [List.append_nil] at q
    exact PQ.now wd q (.tup h1 r1)
theorem sem_addL : Sem2 K rCat addL := fun c d H x y v u Q E' wd rx ry q => by
  cases rx <;> try exact q.elim
  cases ry <;> try exact q.elim
  rename_i a xs ws n1 h1 r1 b ys us n2 h2 r2
  obtain ⟨hz, q⟩ := T.AllB.ite q
  exact ⟨_, _, _, _, rfl, rfl, h1, h2, r1.sizes r2 hz, fun p n => PQ.lst wd q (r1.append r2) n⟩
/-- a + b of ints, texts, tuples, lists -/
abbrev rAddW (K : PySem.W.Frag) : R2 := fun x y H Q => rI0 (fun i j => .int (i + j)) x y H Q ∨ ((∃ i j, x = .str i ∧ y = .str j ∧ i.length + j.length ≤ sizeLine ∧ Q (.str (i ++ j)) H) ∨ (rCatA K x y H Q ∨ rCat x y H Q))
def addX : W → W → T W
  | .tup xs, y => addT (.tup xs) y
  | x, y => addL x y
def addY : W → W → T W
  | .str xs, y => addS (.str xs) y
  | x, y => addX x y
theorem addW_eq (x y : W) : addW x y = addI x y ∨ addW x y = addY x y := by
  cases x <;> cases y <;> first | exact .inl rfl | exact .inr rfl
theorem sem_add : Sem2 K (rAddW K) addW := sem_or1 sem_addI (sem_or1 (g := addY) sem_addS (sem_or1 (g := addX) sem_addT sem_addL fun x y => by
    cases x <;> first | exact .inr rfl | exact .inl rfl) fun x y => by
    cases x <;> first | exact .inr rfl | exact .inl rfl) addW_eq
theorem sem_sub : Sem2 K (rI0 fun i j => .int (i - j)) subW := sem_int0 (k := fun i j => .int (i - j)) (fun _ _ _ _ => .int _) fun x y => by
  cases x <;> cases y <;> first | exact .inl ⟨_, _, rfl, rfl, rfl⟩ | exact .inr rfl
theorem sem_mul : Sem2 K (rI CMulW fun i j => .int (i * j)) mulW := sem_intC (B := mulOk) (k := fun i j => .int (i * j)) (fun _ _ _ _ => .int _) (fun i j h => by
    unfold mulOk at h
    show i.natAbs.log2 + j.natAbs.log2 < 1000000
    exact of_decide_eq_true h) fun x y => by
  cases x <;> cases y <;> first | exact .inl ⟨_, _, rfl, rfl, rfl⟩ | exact .inr rfl
theorem sem_fdiv : Sem2 K (rI CDivW fun i j => .int (i / j)) fdivW := sem_intC (B := fun _ j => divOk j) (k := fun i j => .int (i / j)) (fun _ _ _ _ => .int _) (fun i j h => by
    unfold divOk at h
    obtain ⟨h1, h2⟩ := Bool.and_eq_true_iff.mp h
    exact ⟨of_decide_eq_true h1, of_decide_eq_true h2⟩) fun x y => by
  cases x <;> cases y <;> first | exact .inl ⟨_, _, rfl, rfl, rfl⟩ | exact .inr rfl
theorem sem_mod : Sem2 K (rI (fun _ j => 0 < j) fun i j => .int (i % j)) modW := sem_intC (B := fun _ j => decide (0 < j)) (k := fun i j => .int (i % j)) (fun _ _ _ _ => .int _) (fun i j h => of_decide_eq_true h) fun x y => by
  cases x <;> cases y <;> first | exact .inl ⟨_, _, rfl, rfl, rfl⟩ | exact .inr rfl
theorem sem_pow : Sem2 K (rI CPow fun i j => .int (i ^ j.toNat)) powW := sem_intC (B := powOk) (k := fun i j => .int (i ^ j.toNat)) (fun _ _ _ _ => .int _) (fun i j h => by
    unfold powOk at h
    show 0 ≤ j ∧ j ≤ 1000000 ∧ i.natAbs < 2 ^ 64
    exact of_decide_eq_true h) fun x y => by
  cases x <;> cases y <;> first | exact .inl ⟨_, _, rfl, rfl, rfl⟩ | exact .inr rfl
theorem sem_lt : Sem2 K (rI0 fun i j => .bl (decide (i < j))) ltW := sem_int0 (k := fun i j => .bl (decide (i < j))) (fun _ _ _ _ => .bl _) fun x y => by
  cases x <;> cases y <;> first | exact .inl ⟨_, _, rfl, rfl, rfl⟩ | exact .inr rfl
theorem sem_le : Sem2 K (rI0 fun i j => .bl (decide (i ≤ j))) leW := sem_int0 (k := fun i j => .bl (decide (i ≤ j))) (fun _ _ _ _ => .bl _) fun x y => by
  cases x <;> cases y <;> first | exact .inl ⟨_, _, rfl, rfl, rfl⟩ | exact .inr rfl
theorem sem_gt : Sem2 K (rI0 fun i j => .bl (decide (j < i))) gtW := sem_int0 (k := fun i j => .bl (decide (j < i))) (fun _ _ _ _ => .bl _) fun x y => by
  cases x <;> cases y <;> first | exact .inl ⟨_, _, rfl, rfl, rfl⟩ | exact .inr rfl
theorem sem_ge : Sem2 K (rI0 fun i j => .bl (decide (j ≤ i))) geW := sem_int0 (k := fun i j => .bl (decide (j ≤ i))) (fun _ _ _ _ => .bl _) fun x y => by
  cases x <;> cases y <;> first | exact .inl ⟨_, _, rfl, rfl, rfl⟩ | exact .inr rfl
def negW : W → T W
  | .int i => .ok (.int (-i))
  | _ => .bad
theorem sem_neg : Sem1 K (rU fun i => .int (-i)) negW := fun c d H x v Q E' wd rx q => by
  cases rx <;> try exact q.elim
  exact ⟨_, rfl, PQ.now wd q (.int _)⟩
end
section
variable {X : Cx}
theorem op_addW : OpR X (binaryOp .Add) (rAddW X.K) := op_add.or (op_add_str.or (op_catA.or op_cat))
end
mutual
def W.toD : W → Option PyData
  | .non => some .none
  | .bl b => some (.bool b)
  | .int i => some (.int i)
  | .str x => some (.str x)
  | .tup ws => (toDs ws).map .tuple
  | .lst ws => (toDs ws).map .list
  | _ => none
def toDs : List W → Option (List PyData)
  | [] => some []
  | w :: ws => match W.toD w, toDs ws with
    | some d, some ds => some (d :: ds)
    | _, _ => none
end
section
variable {K : PySem.W.Frag} {c : Cc} {H : Hp}
theorem toD_tup {ws : List W} {d : PyData} (e : (W.tup ws).toD = some d) : ∃ ds, toDs ws = some ds ∧ d = .tuple ds := by
  unfold W.toD at e
  cases q : toDs ws with
  | none =>
    rw [q] at e
    cases e
  | some ds =>
    rw [q] at e
    exact ⟨ds, rfl, (Option.some.inj e).symm⟩
theorem toD_lst {ws : List W} {d : PyData} (e : (W.lst ws).toD = some d) : ∃ ds, toDs ws = some ds ∧ d = .list ds := by
  unfold W.toD at e
  cases q : toDs ws with
  | none =>
    rw [q] at e
    cases e
  | some ds =>
    rw [q] at e
    exact ⟨ds, rfl, (Option.some.inj e).symm⟩
theorem toDs_cons {w : W} {ws : List W} {ds : List PyData} (e : toDs (w :: ws) = some ds) : ∃ d es, w.toD = some d ∧ toDs ws = some es ∧ ds = d :: es := by
  unfold toDs at e
  split at e
  · rename_i d es h1 h2
    exact ⟨d, es, h1, h2, (Option.some.inj e).symm⟩
  · cases e
theorem toD_non {d : PyData} (e : W.non.toD = some d) : d = .none := by
  unfold W.toD at e
  exact (Option.some.inj e).symm
theorem toD_bl {b : Bool} {d : PyData} (e : (W.bl b).toD = some d) : d = .bool b := by
  unfold W.toD at e
  exact (Option.some.inj e).symm
theorem toD_int {b : Int} {d : PyData} (e : (W.int b).toD = some d) : d = .int b := by
  unfold W.toD at e
  exact (Option.some.inj e).symm
theorem toD_str {b : Str} {d : PyData} (e : (W.str b).toD = some d) : d = .str b := by
  unfold W.toD at e
  exact (Option.some.inj e).symm
theorem toD_dct {ks : List Key} {ws : List W} {d : PyData} (e : (W.dct ks ws).toD = some d) : False := by
  unfold W.toD at e
  cases e
theorem toD_scr {n : Nat} {d : PyData} (e : (W.scr n).toD = some d) : False := by
  unfold W.toD at e
  cases e
theorem toD_stt {d : PyData} (e : W.stt.toD = some d) : False := by
  unfold W.toD at e
  cases e
mutual
theorem Rep.dp {w : W} {v : V} (r : Rep K c H w v) : ∀ {d : PyData}, w.toD = some d → Dp K H v d := by
  intro d e
  cases r with
  | non => rw [toD_non e]; exact .non
  | bl b => rw [toD_bl e]; exact .bl b
  | int i => rw [toD_int e]; exact .int i
  | str x => rw [toD_str e]; exact .str x
  | tup h r =>
    obtain ⟨ds, e1, rfl⟩ := toD_tup e
    exact .tup h (RepL.dp r e1)
  | lst n h r =>
    obtain ⟨ds, e1, rfl⟩ := toD_lst e
    exact .lst (SqL.of h) (RepL.dp r e1)
  | dct n h r => exact (toD_dct e).elim
  | scr h => exact (toD_scr e).elim
  | stt => exact (toD_stt e).elim
theorem RepL.dp {ws : List W} {vs : List V} (r : RepL K c H ws vs) : ∀ {ds : List PyData}, toDs ws = some ds → DpAll K H vs ds := by
  intro ds e
  cases r with
  | nil =>
    unfold toDs at e
    cases e
    exact .nil
  | cons h r =>
    obtain ⟨d, es, e1, e2, rfl⟩ := toDs_cons e
    exact .cons (Rep.dp h e1) (RepL.dp r e2)
end
end
def eqO (x y : W) : Option Bool := match x.toD, y.toD with
  | some d, some e => if SeqAt.shaped d && SeqAt.shaped e then some (PyData.eqv d e) else none
  | _, _ => none
def eqW (x y : W) : T W := match eqO x y with
  | some b => .ok (.bl b)
  | none => .bad
def neW (x y : W) : T W := match eqO x y with
  | some b => .ok (.bl !b)
  | none => .bad
section
variable {K : PySem.W.Frag}
theorem eqO_some {x y : W} {b : Bool} (h : eqO x y = some b) : ∃ d e, x.toD = some d ∧ y.toD = some e ∧ SeqAt.shaped d = true ∧ SeqAt.shaped e = true ∧ PyData.eqv d e = b := by
  unfold eqO at h
  split at h
  · rename_i d e h1 h2
    split at h
    · rename_i hs
      obtain ⟨h3, h4⟩ := Bool.and_eq_true_iff.mp hs
      exact ⟨d, e, h1, h2, h3, h4, Option.some.inj h⟩
    · cases h
  · cases h
theorem sem_eq : Sem2 K (rEqD K) eqW := fun c d H x y v u Q E' wd rx ry q => by
  unfold eqW at q
  cases e : eqO x y with
  | none =>
    rw [e] at q
    exact q.elim
  | some b =>
    rw [e] at q
    obtain ⟨d1, d2, h1, h2, h3, h4, rfl⟩ := eqO_some e
    exact ⟨d1, d2, rx.dp h1, ry.dp h2, h3, h4, PQ.now wd q (.bl _)⟩
theorem sem_ne : Sem2 K (rNeD K) neW := fun c d H x y v u Q E' wd rx ry q => by
  unfold neW at q
  cases e : eqO x y with
  | none =>
    rw [e] at q
    exact q.elim
  | some b =>
    rw [e] at q
    obtain ⟨d1, d2, h1, h2, h3, h4, rfl⟩ := eqO_some e
    exact ⟨d1, d2, rx.dp h1, ry.dp h2, h3, h4, PQ.now wd q (.bl _)⟩
def isNon : W → Bool
  | .non => true
  | _ => false
def isW : W → W → T W
  | x, .non => .ok (.bl (isNon x))
  | .bl a, .bl b => .ok (.bl (decide (a = b)))
  | _, _ => .bad
def isntW : W → W → T W
  | x, .non => .ok (.bl !(isNon x))
  | .bl a, .bl b => .ok (.bl !(decide (a = b)))
  | _, _ => .bad
theorem Rep.isN {c : Cc} {H : Hp} {x : W} {v : V} (r : Rep K c H x v) : isNon x = decide (v = .non) := by
  cases r <;> rfl
abbrev rIsW : R2 := fun x y H Q => (y = .non ∧ Q (.bl (decide (x = .non))) H) ∨ ∃ a b, x = .bl a ∧ y = .bl b ∧ Q (.bl (decide (a = b))) H
abbrev rIsntW : R2 := fun x y H Q => (y = .non ∧ Q (.bl (!decide (x = .non))) H) ∨ ∃ a b, x = .bl a ∧ y = .bl b ∧ Q (.bl (!decide (a = b))) H
theorem sem_is : Sem2 K rIsW isW := fun c d H x y v u Q E' wd rx ry q => by
  cases ry with
  | non =>
    have q : PQ K c H Q d (.bl (isNon x)) := by cases x <;> exact q
    rw [rx.isN] at q
    exact .inl ⟨rfl, PQ.now wd q (.bl _)⟩
  | bl b =>
    cases rx <;> try exact q.elim
    exact .inr ⟨_, _, rfl, rfl, PQ.now wd q (.bl _)⟩
  | _ => cases x <;> exact q.elim
theorem sem_isnt : Sem2 K rIsntW isntW := fun c d H x y v u Q E' wd rx ry q => by
  cases ry with
  | non =>
    have q : PQ K c H Q d (.bl !(isNon x)) := by cases x <;> exact q
    rw [rx.isN] at q
    exact .inl ⟨rfl, PQ.now wd q (.bl _)⟩
  | bl b =>
    cases rx <;> try exact q.elim
    exact .inr ⟨_, _, rfl, rfl, PQ.now wd q (.bl _)⟩
  | _ => cases x <;> exact q.elim
theorem op_isW {X : Cx} : OpR X (compareOp .Is) rIsW := op_isN.or op_is_bl
theorem op_isntW {X : Cx} : OpR X (compareOp .IsNot) rIsntW := op_notN.or op_isnot_bl
def ixW : W → W → T W
  | .tup ws, .int i => match atI ws i with
    | some w => .ok w
    | none => .bad
  | .lst ws, .int i => match atI ws i with
    | some w => .ok w
    | none => .bad
  | .str z, .int i => if strOk z then (match atI z.cps.toList i with
    | some c => .ok (.str ⟨#[c]⟩)
    | none => .bad) else .bad
  | _, _ => .bad
theorem RepL.atI {c : Cc} {H : Hp} {ws : List W} {vs : List V} {i : Int} {w : W} (r : RepL K c H ws vs) (h : L2.atI ws i = some w) : ∃ v, L2.atI vs i = some v ∧ Rep K c H w v := by
  unfold L2.atI at h ⊢
  rw [← r.length]
  cases e : ixN ws.length i with
  | none =>
    rw [e] at h
    cases h
  | some j =>
    rw [e] at h
    exact r.get h
theorem sem_ix : Sem2 K (rIx K) ixW := fun c d H x y v u Q E' wd rx ry q => by
  cases rx <;> try exact q.elim
  · cases ry <;> try exact q.elim
    rename_i z i
    obtain ⟨hz, q⟩ := T.AllB.ite q
    cases e : L2.atI z.cps.toList i with
    | none =>
      rw [e] at q
      exact q.elim
    | some k =>
      rw [e] at q
      exact .inr (.inr ⟨z, i, k, rfl, rfl, strOk_of hz, e, PQ.now wd q (.str _)⟩)
  · cases ry <;> try exact q.elim
    rename_i a vs ws hq r i
    unfold ixW at q
    simp only at q
    cases e : L2.atI ws i with
    | none =>
      rw [e] at q
      exact q.elim
    | some w =>
      rw [e] at q
      obtain ⟨v, h1, h2⟩ := r.atI e
      exact .inr (.inl ⟨a, vs, i, v, rfl, rfl, hq, h1, PQ.now wd q h2⟩)
  · cases ry <;> try exact q.elim
    rename_i a vs ws n hq r i
    unfold ixW at q
    simp only at q
    cases e : L2.atI ws i with
    | none =>
      rw [e] at q
      exact q.elim
    | some w =>
      rw [e] at q
      obtain ⟨v, h1, h2⟩ := r.atI e
      exact .inl ⟨a, vs, i, v, rfl, rfl, SqL.of hq, h1, PQ.now wd q h2⟩
def absW : List W → T W
  | [.int i] => .ok (.int (if i < 0 then -i else i))
  | _ => .bad
theorem sem_abs : SemL K (fun xs H Q => ∃ i, xs = [.int i] ∧ Q (.int (if i < 0 then -i else i)) H) absW := fun c d H x v Q E' wd rx q => by
  cases rx with
  | nil => exact q.elim
  | cons r rr =>
    cases rr with
    | cons _ _ => cases r <;> exact q.elim
    | nil =>
      cases r <;> try exact q.elim
      exact ⟨_, rfl, PQ.now wd q (.int _)⟩
def intW : List W → T W
  | [.int i] => .ok (.int i)
  | [.bl b] => .ok (.int (if b then 1 else 0))
  | _ => .bad
theorem sem_int1 : SemL K (fun xs H Q => (∃ i, xs = [.int i] ∧ Q (.int i) H) ∨ ∃ k, xs = [.bl k] ∧ Q (.int (if k then 1 else 0)) H) intW := fun c d H x v Q E' wd rx q => by
  cases rx with
  | nil => exact q.elim
  | cons r rr =>
    cases rr with
    | cons _ _ => cases r <;> exact q.elim
    | nil =>
      cases r <;> try exact q.elim
      · exact .inr ⟨_, rfl, PQ.now wd q (.int _)⟩
      · exact .inl ⟨_, rfl, PQ.now wd q (.int _)⟩
def max2W : List W → T W
  | [.int i, .int j] => .ok (.int (if j > i then j else i))
  | _ => .bad
def min2W : List W → T W
  | [.int i, .int j] => .ok (.int (if j < i then j else i))
  | _ => .bad
theorem sem_two {r : List V → Hp → VK → Prop} {g : List W → T W} (h1 : ∀ c d H Q i j, Wd c d H → (g [.int i, .int j]).AllB (PQ K c H Q) (fun _ _ _ => True) d → r [.int i, .int j] H Q) (h2 : ∀ x, (∀ i j, x ≠ [.int i, .int j]) → g x = .bad) : SemL K r g := fun c d H x v Q E' wd rx q => by
  by_cases h : ∃ i j, x = [.int i, .int j]
  · obtain ⟨i, j, rfl⟩ := h
    cases rx with
    | cons r1 rr =>
      cases rr with
      | cons r2 rr =>
        cases rr
        cases r1
        cases r2
        exact h1 c d H Q i j wd (T.AllB.imp (fun _ _ y => y) (fun _ _ _ _ => trivial) q)
  · rw [h2 x fun i j z => h ⟨i, j, z⟩] at q
    exact q.elim
theorem sem_max2 : SemL K (fun xs H Q => ∃ i j, xs = [.int i, .int j] ∧ Q (.int (if j > i then j else i)) H) max2W := sem_two (fun c d H Q i j wd q => ⟨i, j, rfl, PQ.now wd q (.int _)⟩) fun x h => by
  unfold max2W
  split
  · exact absurd rfl (h _ _)
  · rfl
theorem sem_min2 : SemL K (fun xs H Q => ∃ i j, xs = [.int i, .int j] ∧ Q (.int (if j < i then j else i)) H) min2W := sem_two (fun c d H Q i j wd q => ⟨i, j, rfl, PQ.now wd q (.int _)⟩) fun x h => by
  unfold min2W
  split
  · exact absurd rfl (h _ _)
  · rfl
def lenW : List W → T W
  | [.tup ws] => .ok (.int ws.length)
  | [.lst ws] => .ok (.int ws.length)
  | [.scr n] => .ok (.int n)
  | [.str x] => if strOk x then .ok (.int x.length) else .bad
  | _ => .bad
theorem sem_len : SemL K (fun xs H Q => ∃ x n, xs = [x] ∧ LenV K x H n ∧ Q (.int n) H) lenW := fun c d H x v Q E' wd rx q => by
  cases rx with
  | nil => exact q.elim
  | cons r rr =>
    cases rr with
    | cons _ _ => cases r <;> exact q.elim
    | nil =>
      cases r with
      | str x =>
        obtain ⟨hz, q⟩ := T.AllB.ite q
        exact ⟨_, _, rfl, ⟨strOk_of hz, rfl⟩, PQ.now wd q (.int _)⟩
      | tup h rl => exact ⟨_, _, rfl, .inr ⟨_, h, rl.length⟩, PQ.now wd q (.int _)⟩
      | lst n h rl => exact ⟨_, _, rfl, .inl ⟨_, SqL.of h, rl.length⟩, PQ.now wd q (.int _)⟩
      | @scr a ns h =>
        refine ⟨_, ns.length, rfl, .inl ⟨ns.map V.int, ?_, (List.length_map ..).symm⟩, PQ.now wd q (.int _)⟩
        rcases h with ⟨_, h⟩ | h
        · exact .inl h
        · exact sqL_of_none h
      | _ => exact q.elim
def blsW : List W → Option (List Bool)
  | [] => some []
  | .bl b :: ws => (blsW ws).map (b :: ·)
  | _ => none
theorem blsW_some : ∀ {ws : List W} {bs : List Bool}, blsW ws = some bs → ws = bs.map W.bl
  | [], _, h => by cases h; rfl
  | .bl b :: ws, bs, h => by
    have h : (blsW ws).map (b :: ·) = some bs := h
    cases e : blsW ws with
    | none =>
      rw [e] at h
      cases h
    | some cs =>
      rw [e] at h
      cases h
      rw [blsW_some e]
      rfl
  | .non :: ws, _, h => by cases h
  | .int _ :: ws, _, h => by cases h
  | .str _ :: ws, _, h => by cases h
  | .tup _ :: ws, _, h => by cases h
  | .lst _ :: ws, _, h => by cases h
  | .dct _ _ :: ws, _, h => by cases h
  | .scr _ :: ws, _, h => by cases h
  | .stt :: ws, _, h => by cases h
  | .clo _ _ :: ws, _, h => by cases h
  | .exo _ _ :: ws, _, h => by cases h
  | .ref _ :: ws, _, h => by cases h
def allW : List W → T W
  | [.lst ws] => match blsW ws with
    | some bs => .ok (.bl (bs.all id))
    | none => .bad
  | _ => .bad
def anyW : List W → T W
  | [.lst ws] => match blsW ws with
    | some bs => .ok (.bl (bs.any id))
    | none => .bad
  | _ => .bad
theorem sem_all : SemL K (rAll K) allW := fun c d H x v Q E' wd rx q => by
  cases rx with
  | nil => exact q.elim
  | cons r rr =>
    cases rr with
    | cons _ _ => cases r <;> exact q.elim
    | nil =>
      cases r <;> try exact q.elim
      rename_i a vs ws n h rl
      unfold allW at q
      simp only at q
      cases e : blsW ws with
      | none =>
        rw [e] at q
        exact q.elim
      | some bs =>
        rw [e] at q
        have e2 := blsW_some e
        subst e2
        have e3 := rl.bls
        subst e3
        exact ⟨a, bs, rfl, SqL.of h, PQ.now wd q (.bl _)⟩
theorem sem_any : SemL K (rAny K) anyW := fun c d H x v Q E' wd rx q => by
  cases rx with
  | nil => exact q.elim
  | cons r rr =>
    cases rr with
    | cons _ _ => cases r <;> exact q.elim
    | nil =>
      cases r <;> try exact q.elim
      rename_i a vs ws n h rl
      unfold anyW at q
      simp only at q
      cases e : blsW ws with
      | none =>
        rw [e] at q
        exact q.elim
      | some bs =>
        rw [e] at q
        have e2 := blsW_some e
        subst e2
        have e3 := rl.bls
        subst e3
        exact ⟨a, bs, rfl, SqL.of h, PQ.now wd q (.bl _)⟩
def tyW : W → Option String
  | .non => some "NoneType"
  | .bl _ => some "bool"
  | .int _ => some "int"
  | .str _ => some "str"
  | .tup _ => some "tuple"
  | .lst _ => some "list"
  | .dct _ _ => some "dict"
  | _ => none
theorem Rep.ty {c : Cc} {H : Hp} {w : W} {v : V} {s : String} (r : Rep K c H w v) (h : tyW w = some s) : TyX K H v (.type s) := by
  cases r with
  | non => cases h; exact .base .non
  | bl b => cases h; exact .base (.bl b)
  | int i => cases h; exact .base (.int i)
  | str x => cases h; exact .base (.str x)
  | tup hq _ =>
    cases h
    rcases hq with (e | ⟨o, e⟩) | ⟨o, its, n, e, cl, _⟩
    · exact .base (.tup e)
    · exact .fTuple e
    · exact .kTuple e cl
  | lst n e _ => cases h; exact .base (.lst e)
  | dct n e _ => cases h; exact .base (.dK e)
  | scr _ => cases h
  | stt => cases h
end
/-- isT: which of the types are a T -/
def isiW (isT : String → Option Bool) (x : W) : T W := match (tyW x).bind isT with
  | some b => .ok (.bl b)
  | none => .bad
def isInt (s : String) : Option Bool := match s with
  | "NoneType" => some false | "bool" => some true | "int" => some true | "str" => some false | "tuple" => some false | "list" => some false | "dict" => some false | _ => none
def isOnly (t : String) (s : String) : Option Bool := if ["NoneType", "bool", "int", "str", "tuple", "list", "dict"].contains s then some (s == t) else none
theorem tr_isi {X : Cx} {E : WX} {a : Expr} {fa : En → T W} {T : Str} {t : String} {p p2 pos : Pos} {isT : String → Option Bool} (hi : ∀ s b, isT s = some b → kitB s t = some b) (hg : Gl X "isinstance") (hm : X.mg "isinstance" = none) (hgT : Gl X T) (hmT : X.mg T = none) (hT : bootBuiltins T = some (.type t)) (ha : TrE X E a fa)
    (hn : T ≠ "__name__" := by decide) (hd : (T == ("__debug__" : Str)) = false := by decide)
    (hs1 : starEach [a, .Name T p2] X.env = (false, eval a X.env) :: starEach [.Name T p2] X.env := by rfl) (hs2 : starEach [.Name T p2] X.env = (false, eval (.Name T p2) X.env) :: starEach [] X.env := by rfl) (hpl : (backTo pos (starEach [.Name T p2] X.env)).any (·.1) = false := by rfl) :
    TrE X E (.Call (.Name "isinstance" p) [a, .Name T p2] [] pos) (f1 (isiW isT) fa) := pe_imp (pe_callB (id := "isinstance") call_isi hg hm (by decide +kernel) (pa_cons ha (pa_cons (pe_bltn (v := .ty t) hgT hmT hT rfl hn hd) pa_nil hs2) hs1) (by decide) (by decide) hs1 hpl) fun σ H Q h => by
  obtain ⟨c, d, oa, ρ, e, h⟩ := h
  refine lift_then (P := fun c H => PQ X.K c H Q) e h (fun st p => p.later st) fun w v H1 d1 _ r1 e1 h1 => ?_
  unfold isiW at h1
  cases e2 : (tyW w).bind isT with
  | none =>
    rw [e2] at h1
    exact h1.elim
  | some b =>
    rw [e2] at h1
    cases e3 : tyW w with
    | none =>
      rw [e3] at e2
      cases e2
    | some s =>
      rw [e3] at e2
      exact ⟨v, .ty t, .type s, .type t, b, rfl, .ty t, r1.ty e3, kit_ty (hi s b e2), PQ.now e1.wd h1 (.bl _)⟩
end PF
namespace PF
open PySem PySem.Spec PyProof.Rows L2
/-- the module's name x is a def that does what the run F does -/
def FnIs (P : Program) (w : World) (K : PySem.W.Frag) (mg : Str → Option Value) (base : Heap) (k : Nat) (x : Str) (ps : List Str) (F : List W → T W) : Prop :=
  ∃ f fd, FnOk P w K mg base (L2.CX P w) k f fd ps (SpF K F) ∧ mg x = some (.ref f) ∧ PySem.W.keepIn K (.ref f) = true ∧ Binds K fd ps []
section
variable {X : Cx} {E : WX} {e : Expr} {es : List Expr} {fs : En → T (List W)} {pos p : Pos} {F : List W → T W} {k : Nat} {ps : List Str} {x : Str}
theorem tr_callF (h : FnIs X.prog X.w X.K X.mg X.base k x ps F) (hr : Room k X.A) (tk : Takes X E) (hg : Gl X x) (ha : TrA X E (e :: es) fs)
    (hdb : (x == ("__debug__" : Str)) = false := by decide) (he : starEach (e :: es) X.env = (false, eval e X.env) :: starEach es X.env := by rfl) (hpl : (backTo pos (starEach es X.env)).any (·.1) = false := by rfl) :
    TrE X E (.Call (.Name x p) (e :: es) [] pos) (fL fs F) := by
  obtain ⟨f, fd, G, hm, hk, hb⟩ := h
  exact tr_call G hr tk hg hm hk hb ha hdb he hpl
end
/-- the module's name x stands for the data w -/
def CsIs (K : PySem.W.Frag) (mg : Str → Option Value) (x : Str) (w : W) : Prop := ∃ (v : V) (u : Value), mg x = some u ∧ RelV v u ∧ ∀ c H, Rep K c H w v
theorem tr_cs {X : Cx} {E : WX} {x : Str} {w : W} {pos : Pos} (h : CsIs X.K X.mg x w) (hg : Gl X x) (hd : (x == ("__debug__" : Str)) = false := by decide) : TrE X E (.Name x pos) (fun _ => .ok w) := by
  obtain ⟨v, u, hm, r, q⟩ := h
  exact tr_glob hg hm r q hd
theorem isi_int : ∀ s b, isInt s = some b → kitB s "int" = some b := fun s b h => by
  unfold isInt at h
  split at h <;> first | (cases h; decide +kernel) | cases h
theorem isOnly_mem {t s : String} {b : Bool} (h : isOnly t s = some b) : s ∈ ["NoneType", "bool", "int", "str", "tuple", "list", "dict"] ∧ b = (s == t) := by
  unfold isOnly at h
  split at h
  · rename_i hc
    exact ⟨List.contains_iff_mem.mp hc, (Option.some.inj h).symm⟩
  · cases h
theorem isOnly_all {t : String} (h : ∀ s ∈ ["NoneType", "bool", "int", "str", "tuple", "list", "dict"], kitB s t = some (s == t)) : ∀ s b, isOnly t s = some b → kitB s t = some b := fun s b q => by
  obtain ⟨h1, h2⟩ := isOnly_mem q
  rw [h2]
  exact h s h1
theorem isi_bool : ∀ s b, isOnly "bool" s = some b → kitB s "bool" = some b := isOnly_all (by decide +kernel)
theorem isi_str : ∀ s b, isOnly "str" s = some b → kitB s "str" = some b := isOnly_all (by decide +kernel)
theorem isi_tuple : ∀ s b, isOnly "tuple" s = some b → kitB s "tuple" = some b := isOnly_all (by decide +kernel)
theorem isi_list : ∀ s b, isOnly "list" s = some b → kitB s "list" = some b := isOnly_all (by decide +kernel)
theorem isi_dict : ∀ s b, isOnly "dict" s = some b → kitB s "dict" = some b := isOnly_all (by decide +kernel)
theorem boot_ty_int : bootBuiltins "int" = some (.type "int") := by decide +kernel
theorem boot_ty_bool : bootBuiltins "bool" = some (.type "bool") := by decide +kernel
theorem boot_ty_str : bootBuiltins "str" = some (.type "str") := by decide +kernel
theorem boot_ty_tuple : bootBuiltins "tuple" = some (.type "tuple") := by decide +kernel
theorem boot_ty_list : bootBuiltins "list" = some (.type "list") := by decide +kernel
theorem boot_ty_dict : bootBuiltins "dict" = some (.type "dict") := by decide +kernel
theorem bo_int : bootBuiltins "int" = some (.type "int") := boot_ty_int
theorem bo_len : bootBuiltins "len" = some (.builtin "len") := by decide +kernel
theorem bo_abs : bootBuiltins "abs" = some (.builtin "abs") := by decide +kernel
theorem bo_all : bootBuiltins "all" = some (.builtin "all") := by decide +kernel
theorem bo_any : bootBuiltins "any" = some (.builtin "any") := by decide +kernel
theorem bo_min : bootBuiltins "min" = some (.builtin "min") := by decide +kernel
theorem bo_max : bootBuiltins "max" = some (.builtin "max") := by decide +kernel
theorem bo_sum : bootBuiltins "sum" = some (.builtin "sum") := by decide +kernel
theorem bo_tuple : bootBuiltins "tuple" = some (.type "tuple") := boot_ty_tuple
theorem bo_list : bootBuiltins "list" = some (.type "list") := boot_ty_list
abbrev stK (ca la : Addr) (k r : Int) : List (Key × V) := [(.inr kCells, .ref ca), (.inr kLefts, .ref la), (.inr kAt, .int k), (.inr kRoom, .int r)]
section
variable {ca la : Addr} {k r : Int}
theorem ne_ca : ¬ kCells = kAt := by decide +kernel
theorem ne_la : ¬ kLefts = kAt := by decide +kernel
theorem ne_cl : ¬ kCells = kLefts := by decide +kernel
theorem ne_ra : ¬ kRoom = kAt := by decide +kernel
theorem st_at : valV (stK ca la k r) (.inr kAt) = some (.int k) := by
  simp [valV, List.find?_cons, ne_ca, ne_la]
theorem st_cells : valV (stK ca la k r) (.inr kCells) = some (.ref ca) := by
  simp [valV, List.find?_cons]
theorem st_lefts : valV (stK ca la k r) (.inr kLefts) = some (.ref la) := by
  simp [valV, List.find?_cons, ne_cl]
theorem st_put {k' : Int} : putK (stK ca la k r) (.inr kAt) (.int k') = stK ca la k' r := by
  simp [putK, ne_ca, ne_la, ne_ra]
theorem DGet.st {H : Hp} {S : Addr} {x : Key} {v : V} (h : H S = some (.dK (stK ca la k r))) (e : valV (stK ca la k r) x = some v) : DGet H S (kV x) (some v) := by
  rw [← e]
  exact DGet.k h
end
@[irreducible] def manyOk (n : Int) : Bool := decide (0 < n) && decide (n.natAbs.log2 < 9000)
theorem manyOk_of {n : Int} (h : manyOk n = true) : 0 < n ∧ n.natAbs.log2 < 9000 := by
  unfold manyOk at h
  obtain ⟨h1, h2⟩ := Bool.and_eq_true_iff.mp h
  exact ⟨of_decide_eq_true h1, of_decide_eq_true h2⟩
def F__law_draw : List W → T W
  | [.stt, .int n] => if manyOk n then .ask n.toNat fun i => .ok (.int i) else .bad
  | _ => .bad
theorem stt_shape {K : PySem.W.Frag} {c : Cc} {H : Hp} {v : V} (r : Rep K c H .stt v) : v = .ref c.S := by
  cases r
  rfl
/-- what the state's step leaves: the place is one more, the lefts may have changed -/
theorem StOk.drawn {c : Cc} {e : Nat} {H' : Hp} {cells lefts' : List Int} {k r : Int} (hk : 0 ≤ k) (hb : k + ((e + 1 : Nat) : Int) ≤ 2 ^ 60) (hne : c.ca ≠ c.la) (hz : lefts'.length = cells.length) (h0 : 0 < cells.length)
    (h1 : H' c.S = some (.dK [(.inr kCells, .ref c.ca), (.inr kLefts, .ref c.la), (.inr kAt, .int (k + 1)), (.inr kRoom, .int r)])) (h2 : H' c.ca = some (.lst (cells.map V.int))) (h3 : H' c.la = some (.lst (lefts'.map V.int))) : StOk c e H' :=
  ⟨cells, lefts', k + 1, r, h1, h2, h3, hz, h0, by omega, by omega, hne⟩
/-- ints that stand for a draw -/
theorem draw_all {K : PySem.W.Frag} {c : Cc} {d : Nat} {H : Hp} {Q : VK} {E' : Nat → Nat → List W → Prop} {n : Int} (h : (F__law_draw [.stt, .int n]).AllB (PQ K c H Q) E' d) :
    (0 < n ∧ n.natAbs.log2 < 9000) ∧ ∃ e, d = e + 1 ∧ ∀ (i : Int) (H' : Hp), 0 ≤ i → i < n → Step c H H' → StOk c e H' → Q (.int i) H' := by
  obtain ⟨h1, h⟩ := T.AllB.ite h
  have hn := manyOk_of h1
  obtain ⟨e, he, h⟩ := h
  refine ⟨hn, e, he, fun i H' hi0 hi st so => ?_⟩
  have q := h i.toNat (by omega)
  have ei : ((i.toNat : Nat) : Int) = i := by omega
  have q : PQ K c H Q e (.int ((i.toNat : Nat) : Int)) := q
  rw [ei] at q
  exact q _ H' st so (.int i)
theorem F_draw_bad {ws : List W} (h : ∀ n, ws ≠ [.stt, .int n]) : F__law_draw ws = .bad := by
  unfold F__law_draw
  split
  · exact absurd rfl (h _)
  · rfl
end PF
namespace PF
open PySem PySem.Spec PyProof.Rows L2
section
variable {α β : Type}
@[simp] theorem T.bind_ok (a : α) (f : α → T β) : (T.ok a).bind f = f a := rfl
@[simp] theorem T.bind_bad (f : α → T β) : (T.bad : T α).bind f = .bad := rfl
@[simp] theorem T.bind_exc (c : Nat) (fs : List W) (f : α → T β) : (T.exc c fs : T α).bind f = .exc c fs := rfl
@[simp] theorem T.bind_ask (n : Nat) (k : Nat → T α) (f : α → T β) : (T.ask n k).bind f = .ask n fun i => (k i).bind f := rfl
theorem T.bind_assoc {γ : Type} : ∀ (t : T α) (f : α → T β) (g : β → T γ), (t.bind f).bind g = t.bind fun a => (f a).bind g
  | .ok a, f, g => rfl
  | .exc c fs, f, g => rfl
  | .bad, f, g => rfl
  | .ask n k, f, g => by
    simp only [T.bind_ask]
    congr 1
    funext i
    exact T.bind_assoc (k i) f g
end
@[simp] theorem gV_eq (i : Nat) (ρ : En) : gV i ρ = match ρ[i]? with
  | some (.val w) => .ok w
  | _ => .bad := rfl
section
variable (g g' : W → W → T W) (h : W → T W) (fa fb fc : En → T W) (fs : En → T (List W)) (gl : List W → T W) (ta tb : En → T Bool) (sa sb : En → T (Fl × En)) (ρ : En)
@[simp] theorem f2_eq : f2 g fa fb ρ = (fa ρ).bind fun x => (fb ρ).bind fun y => g x y := rfl
@[simp] theorem f1_eq : f1 h fa ρ = (fa ρ).bind h := rfl
@[simp] theorem fL_eq : fL fs gl ρ = (fs ρ).bind gl := rfl
@[simp] theorem fNil_eq : fNil ρ = .ok [] := rfl
@[simp] theorem fCons_eq : fCons fa fs ρ = (fa ρ).bind fun x => (fs ρ).bind fun xs => .ok (x :: xs) := rfl
@[simp] theorem fTru_eq : fTru fa ρ = (fa ρ).bind truW := rfl
@[simp] theorem fBl_eq : fBl fa ρ = (fa ρ).bind blW := rfl
@[simp] theorem fNot_eq : fNot ta ρ = (ta ρ).bind fun b => .ok !b := rfl
@[simp] theorem fAnd_eq : fAnd ta tb ρ = (ta ρ).bind fun b => if b then tb ρ else .ok false := rfl
@[simp] theorem fOr_eq : fOr ta tb ρ = (ta ρ).bind fun b => if b then .ok true else tb ρ := rfl
@[simp] theorem fAndV_eq : fAndV fa fb ρ = (fa ρ).bind fun x => match x with
  | .bl true => fb ρ
  | .bl false => .ok (.bl false)
  | _ => .bad := rfl
@[simp] theorem fOrV_eq : fOrV fa fb ρ = (fa ρ).bind fun x => match x with
  | .bl false => fb ρ
  | .bl true => .ok (.bl true)
  | _ => .bad := rfl
@[simp] theorem fNotV_eq : fNotV fa ρ = (fa ρ).bind fun x => match x with
  | .bl b => .ok (.bl !b)
  | _ => .bad := rfl
@[simp] theorem fIf_eq : fIf ta fa fb ρ = (ta ρ).bind fun b => if b then fa ρ else fb ρ := rfl
@[simp] theorem fYes_eq : fYes ρ = .ok true := rfl
@[simp] theorem sNil_eq : sNil ρ = .ok (.nx, ρ) := rfl
@[simp] theorem sSeq_eq : sSeq sa sb ρ = (sa ρ).bind fun x => match x with
  | (.nx, ρ') => sb ρ'
  | x => .ok x := rfl
@[simp] theorem sRet_eq : sRet fa ρ = (fa ρ).bind fun w => .ok (.rt w, ρ) := rfl
@[simp] theorem sRetN_eq : sRetN ρ = .ok (.rt .non, ρ) := rfl
@[simp] theorem sExpr_eq : sExpr fa ρ = (fa ρ).bind fun _ => .ok (.nx, ρ) := rfl
@[simp] theorem sSet_eq (i : Nat) : sSet i fa ρ = (fa ρ).bind fun w => .ok (.nx, ρ.set i (.val w)) := rfl
@[simp] theorem sIf_eq : sIf ta sa sb ρ = (ta ρ).bind fun b => if b then sa ρ else sb ρ := rfl
@[simp] theorem sNever_eq : sNever ρ = .bad := rfl
@[simp] theorem sPar_eq (i j : Nat) : sPar i j fs ρ = (fs ρ).bind fun xs => match xs with
  | [x, y] => .ok (.nx, (ρ.set i (.val x)).set j (.val y))
  | _ => .bad := rfl
@[simp] theorem sAsg_eq (G : W → En → Option En) : sAsg fa G ρ = (fa ρ).bind fun w => match G w ρ with
  | some ρ' => .ok (.nx, ρ')
  | none => .bad := rfl
@[simp] theorem goName_eq (i : Nat) (w : W) : goName i w ρ = some (ρ.set i (.val w)) := rfl
@[simp] theorem iL_eq (q : List W → T (List W)) : iL q fs ρ = (fs ρ).bind q := rfl
@[simp] theorem iOf_eq (q : W → T (List W)) : iOf q fa ρ = (fa ρ).bind q := rfl
end
@[simp] theorem addW_int (i j : Int) : addW (.int i) (.int j) = .ok (.int (i + j)) := rfl
@[simp] theorem subW_int (i j : Int) : subW (.int i) (.int j) = .ok (.int (i - j)) := rfl
@[simp] theorem mulW_int (i j : Int) : mulW (.int i) (.int j) = if mulOk i j then .ok (.int (i * j)) else .bad := rfl
@[simp] theorem fdivW_int (i j : Int) : fdivW (.int i) (.int j) = if divOk j then .ok (.int (i / j)) else .bad := rfl
@[simp] theorem modW_int (i j : Int) : modW (.int i) (.int j) = if decide (0 < j) then .ok (.int (i % j)) else .bad := rfl
@[simp] theorem ltW_int (i j : Int) : ltW (.int i) (.int j) = .ok (.bl (decide (i < j))) := rfl
@[simp] theorem leW_int (i j : Int) : leW (.int i) (.int j) = .ok (.bl (decide (i ≤ j))) := rfl
@[simp] theorem gtW_int (i j : Int) : gtW (.int i) (.int j) = .ok (.bl (decide (j < i))) := rfl
@[simp] theorem geW_int (i j : Int) : geW (.int i) (.int j) = .ok (.bl (decide (j ≤ i))) := rfl
@[simp] theorem intW_int (i : Int) : intW [.int i] = .ok (.int i) := rfl
@[simp] theorem intW_bl (b : Bool) : intW [.bl b] = .ok (.int (if b then 1 else 0)) := rfl
@[simp] theorem absW_int (i : Int) : absW [.int i] = .ok (.int (if i < 0 then -i else i)) := rfl
@[simp] theorem blW_bl (b : Bool) : blW (.bl b) = .ok b := rfl
@[simp] theorem truW_bl (b : Bool) : truW (.bl b) = .ok b := rfl
@[simp] theorem lenW_tup (ws : List W) : lenW [.tup ws] = .ok (.int ws.length) := rfl
@[simp] theorem lenW_lst (ws : List W) : lenW [.lst ws] = .ok (.int ws.length) := rfl
@[simp] theorem lenW_scr (n : Nat) : lenW [.scr n] = .ok (.int n) := rfl
theorem mulOk_of {i j : Int} {a b : Nat} (ha : i.natAbs < 2 ^ a) (hb : j.natAbs < 2 ^ b) (h0 : 0 < a) (h1 : 0 < b) (h : a + b ≤ 1000000) : mulOk i j = true := by
  unfold mulOk
  exact decide_eq_true (wide_mul ha hb h0 h1 h)
theorem divOk_of {j : Int} {b : Nat} (h : 0 < j) (hb : j.natAbs < 2 ^ b) (h0 : 0 < b) (h9 : b ≤ 9000) : divOk j = true := by
  unfold divOk
  obtain ⟨h1, h2⟩ := wide_div (i := 0) h hb h0 h9
  rw [decide_eq_true h1, decide_eq_true h2]
  rfl
theorem manyOk_is {n : Int} {b : Nat} (h : 0 < n) (hb : n.natAbs < 2 ^ b) (h0 : 0 < b) (h9 : b ≤ 9000) : manyOk n = true := by
  unfold manyOk
  obtain ⟨h1, h2⟩ := wide_div (i := 0) h hb h0 h9
  rw [decide_eq_true h1, decide_eq_true h2]
  rfl
theorem sizeOk_is {ws : List W} (h : ws.length ≤ 16777216) : sizeOk ws = true := by
  unfold sizeOk
  exact decide_eq_true h
theorem sz2_is {a b : Nat} (h : a + b ≤ 16777216) : sz2 a b = true := by
  unfold sz2
  exact decide_eq_true h
@[simp] theorem mkTup_eq (ws : List W) : mkTup ws = if sizeOk ws then .ok (.tup ws) else .bad := rfl
@[simp] theorem mkLst_eq (ws : List W) : mkLst ws = if sizeOk ws then .ok (.lst ws) else .bad := rfl
@[simp] theorem sizeOk_nil : sizeOk [] = true := sizeOk_is (by simp)
@[simp] theorem sizeOk_1 (a : W) : sizeOk [a] = true := sizeOk_is (by simp)
@[simp] theorem sizeOk_2 (a b : W) : sizeOk [a, b] = true := sizeOk_is (by simp)
@[simp] theorem sizeOk_3 (a b c : W) : sizeOk [a, b, c] = true := sizeOk_is (by simp)
@[simp] theorem sizeOk_4 (a b c d : W) : sizeOk [a, b, c, d] = true := sizeOk_is (by simp)
@[simp] theorem sizeOk_5 (a b c d e : W) : sizeOk [a, b, c, d, e] = true := sizeOk_is (by simp)
end PF
namespace PF
def wInt (i : Nat) (ρ : En) : Nat := match ρ[i]? with
  | some (.val (.int k)) => k.natAbs
  | _ => 0
end PF
namespace PF
open PySem PySem.Spec PyProof.Rows L2 He
abbrev AlF : Type := AlD × Bool
def obsF (n : Nat) (fa : List Fa) (fn : List DefD) (ex : PySem.W.Frag → Bool) (g : Addr → Option Obj) : AlF := (obsD fa fn (frG g (asD g n)), ex (frG g (asD g n)))
structure SaysF (fa : List Fa) (fn : List DefD) (ex : PySem.W.Frag → Bool) (K : PySem.W.Frag) : Prop where
  d : SaysD fa fn K
  more : ex K = true
def hookF (n : Nat) (fa : List Fa) (fn : List DefD) (ex : PySem.W.Frag → Bool) : PySem.W.Hook where
  α := AlF
  obs := fun s => obsF n fa fn ex s.heap.get?
  val := fun _ => (valD fn, true)
  says := fun _ h => ∃ K : PySem.W.Frag, K.In h ∧ SaysF fa fn ex K
  of := fun _ _ e => ⟨_, frG_in, congrArg (fun z : AlF => z.1) e, congrArg (fun z : AlF => z.2) e⟩
  keeps := fun _ _ _ ⟨K, hK, c⟩ k => ⟨K, PySem.W.Frag.In.keeps hK k, c⟩
theorem obsF_eq {n : Nat} {fa : List Fa} {fn : List DefD} {ex : PySem.W.Frag → Bool} {g : Addr → Option Obj} {s : Shared} (h : ∀ a, g a = s.heap.get? a) : obsF n fa fn ex g = (hookF n fa fn ex).obs s := by
  have e : g = s.heap.get? := funext h
  rw [e]
  rfl
/-- a fact by its place -/
theorem SaysF.fact {fa : List Fa} {fn : List DefD} {ex : PySem.W.Frag → Bool} {K : PySem.W.Frag} (c : SaysF fa fn ex K) (i : Nat) {f : Fa} (h : fa[i]? = some f := by rfl) : f.ok K = true := c.d.fact i h
/-- a module's name that stands for a tuple of ints and texts -/
def flatW : Dv → Option W
  | .non => some .non
  | .bl b => some (.bl b)
  | .int i => some (.int i)
  | .str x => some (.str x)
  | _ => none
theorem flatW_rep {K : PySem.W.Frag} {d : Dv} {w : W} (h : flatW d = some w) (c : Cc) (H : Hp) : Rep K c H w (d.v K) := by
  cases d <;> first | (cases h; done) | (cases h; constructor)
theorem flatL_rep {K : PySem.W.Frag} (c : Cc) (H : Hp) : ∀ {ds : List Dv} {ws : List W}, ds.mapM flatW = some ws → RepL K c H ws (ds.map (Dv.v K))
  | [], ws, h => by
    simp at h
    subst h
    exact .nil
  | d :: ds, ws, h => by
    rw [List.mapM_cons] at h
    cases e1 : flatW d with
    | none =>
      rw [e1] at h
      cases h
    | some w =>
      rw [e1] at h
      cases e2 : ds.mapM flatW with
      | none =>
        rw [e2] at h
        cases h
      | some us =>
        rw [e2] at h
        cases h
        exact .cons (flatW_rep e1 c H) (flatL_rep c H e2)
theorem cs_tup {K : PySem.W.Frag} {h : Heap} {mg : Str → Option Value} {x : Str} {ds : List Dv} {ws : List W} (X : K.In h) (G : h.Ns mainGlobals mg) (hg : (Fa.glo x).ok K = true) (ht : tupB K x ds = true) (hw : ds.mapM flatW = some ws) : CsIs K mg x (.tup ws) :=
  ⟨.ref (ga K x), _, glo_ok X G hg, rfl, fun c H => .tup (tupB_ok ht H) (flatL_rep c H hw)⟩
theorem cs_int {K : PySem.W.Frag} {h : Heap} {mg : Str → Option Value} {x : Str} {i : Int} (X : K.In h) (G : h.Ns mainGlobals mg) (hg : (Fa.int x i).ok K = true) : CsIs K mg x (.int i) := by
  obtain ⟨t, e⟩ := int_ok X G hg
  exact ⟨.int i, _, e, ⟨t, rfl⟩, fun c H => .int i⟩
theorem cs_str {K : PySem.W.Frag} {h : Heap} {mg : Str → Option Value} {x z : Str} (X : K.In h) (G : h.Ns mainGlobals mg) (hg : (Fa.str x z).ok K = true) : CsIs K mg x (.str z) := by
  obtain ⟨t, e⟩ := str_ok X G hg
  exact ⟨.str z, _, e, ⟨t, rfl⟩, fun c H => .str z⟩
end PF
namespace PF
open PySem PySem.Spec PyProof.Rows L2
def spBegin (K : PySem.W.Frag) : Sp := fun vs H Q _ => ∃ (a : Addr) (ns : List Int), vs = [.ref a] ∧ SqL K H a (ns.map V.int) ∧ ns.length ≤ 63 ∧ ∀ (S ca la : Addr) (H' : Hp) (cells lefts : List Int), Same H H' → H S = none → H ca = none → H la = none →
  H' S = some (.dK (stK ca la 0 0)) → H' ca = some (.lst (cells.map V.int)) → H' la = some (.lst (lefts.map V.int)) → lefts.length = cells.length → 0 < cells.length → ca ≠ la → Q (.ref S) H'
def spLaw (K : PySem.W.Frag) : Sp := fun vs H Q _ => ∃ (a : Addr) (ns : List Int), vs = [.ref a] ∧ SqL K H a (ns.map V.int) ∧ ns.length ≤ 63 ∧ ∀ H', Q (.bl true) H'
section
variable {K : PySem.W.Frag}
theorem dp_ints {H : Hp} : ∀ ns : List Int, DpAll K H (ns.map V.int) (ns.map PyData.int)
  | [] => .nil
  | n :: ns => .cons (.int n) (dp_ints ns)
theorem lay_ints : ∀ ns : List Int, PyData.canLayAll0 (ns.map PyData.int) = true
  | [] => rfl
  | n :: ns => lay_ints ns
theorem dep_ints : ∀ ns : List Int, PyData.depthAll (ns.map PyData.int) ≤ 1
  | [] => by decide
  | n :: ns => by
    have h := dep_ints ns
    simp only [List.map_cons, PyData.depthAll, PyData.depth]
    omega
theorem shaped_ints (ns : List Int) : SeqAt.shaped (.list (ns.map PyData.int)) = true := by
  have h := dep_ints ns
  unfold SeqAt.shaped
  rw [Bool.and_eq_true]
  exact ⟨lay_ints ns, decide_eq_true (by simp only [PyData.depth]; omega)⟩
/-- the state is laid -/
theorem begin_ret {H H1 : Hp} {Q : VK} {nx : L2.St → Hp → Prop} {v0 : V} {l : Addr} {cells : List Int} (sm : Same H H1) (nl : H l = none) (hl : H1 l = some (.lst (cells.map V.int))) (h0 : 0 < cells.length) (hz : cells.length ≤ 1000)
    (q : ∀ (S ca la : Addr) (H' : Hp) (cells lefts : List Int), Same H H' → H S = none → H ca = none → H la = none → H' S = some (.dK (stK ca la 0 0)) → H' ca = some (.lst (cells.map V.int)) → H' la = some (.lst (lefts.map V.int)) → lefts.length = cells.length → 0 < cells.length → ca ≠ la → Q (.ref S) H') :
    tRet (tDisp [(tC (.str kCells), tVar 1), (tC (.str kLefts), tLc (iList K (tVar 1)) (gName 2) tYes (tIf (tTest (tOp (rI0 fun i j => .bl (decide (j ≤ i))) (tVar 2) (tOp (rI CPow fun i j => .int (i ^ j.toNat)) (tC (.int 10)) (tC (.int 18))))) (tVar 2) (tC (.int 0))) [2]), (tC (.str kAt), tC (.int 0)), (tC (.str kRoom), tC (.int 0))])
      { nx := nx, rt := Q } [some v0, some (.ref l), none] H1 := by
  intro p np
  have nlp : l ≠ p := ne_of_none hl np
  have hl1 : (upd H1 p (.dK [])) l = some (.lst (cells.map V.int)) := by rw [upd_ne nlp]; exact hl
  refine ⟨.ref l, rfl, .ref l, rfl, l, rfl, ⟨_, SqL.of hl1⟩, fun D nD => ?_⟩
  have npD : D ≠ p := fun z => by rw [z, upd_same] at nD; cases nD
  have nlD : l ≠ D := fun z => by rw [← z, hl1] at nD; cases nD
  have nD1 : H1 D = none := by rw [upd_ne npD] at nD; exact nD
  let lf : Int → Int := fun c => if (10 : Int) ^ (18 : Int).toNat ≤ c then c else 0
  refine lc_list (K := K) (a := l) (xs := cells.map V.int) (fun i H2 => (∀ b, b ≠ D → H2 b = (upd H1 p (.dK [])) b) ∧ H2 D = some (.lst (((cells.take i).map lf).map V.int))) ⟨fun b hb => upd_ne hb, upd_same⟩ (fun i H2 hi h => ?_) (fun i x H2 hx h => ?_) (fun H2 h => ?_)
  · exact SqL.of (by rw [h.1 l nlD]; exact hl1)
  · obtain ⟨o, hD⟩ := h
    rw [List.getElem?_map] at hx
    cases ec : cells[i]? with
    | none =>
      rw [ec] at hx
      cases hx
    | some c =>
      rw [ec] at hx
      cases hx
      have hi : i < cells.length := (List.getElem?_eq_some_iff.mp ec).1
      have et : cells.take (i + 1) = cells.take i ++ [c] := by rw [List.take_add_one, ec]; rfl
      refine ⟨rfl, iteT (B := True) ⟨.int c, rfl, 10, 18, rfl, rfl, ⟨by decide, by decide, by decide⟩, c, _, rfl, rfl, _, rfl, ?_⟩⟩
      have fin : ∀ y : Int, y = lf c → ∃ acc, H2 D = some (.lst acc) ∧ acc.length < sizeLine ∧ ((∀ b, b ≠ D → (upd H2 D (.lst (acc ++ [V.int y]))) b = (upd H1 p (.dK [])) b) ∧ (upd H2 D (.lst (acc ++ [V.int y]))) D = some (.lst (((cells.take (i + 1)).map lf).map V.int))) := fun y ey => by
        refine ⟨_, hD, ?_, fun b hb => by rw [upd_ne hb]; exact o b hb, ?_⟩
        · rw [List.length_map, List.length_map, List.length_take]
          exact Nat.lt_of_le_of_lt (Nat.min_le_right _ _) (small1000 hz)
        · rw [upd_same, et, List.map_append, List.map_append, ey]
          rfl
      by_cases hc : (10 : Int) ^ (18 : Int).toNat ≤ c
      · have e : decide ((10 : Int) ^ (18 : Int).toNat ≤ c) = true := decide_eq_true hc
        show if decide ((10 : Int) ^ (18 : Int).toNat ≤ c) = true then _ else _
        rw [e]
        refine iteT ⟨.int c, rfl, fin c ?_⟩
        show c = if (10 : Int) ^ (18 : Int).toNat ≤ c then c else 0
        rw [if_pos hc]
      · have e : decide ((10 : Int) ^ (18 : Int).toNat ≤ c) = false := decide_eq_false hc
        show if decide ((10 : Int) ^ (18 : Int).toNat ≤ c) = true then _ else _
        rw [e]
        refine iteF (fin 0 ?_)
        show (0 : Int) = if (10 : Int) ^ (18 : Int).toNat ≤ c then c else 0
        rw [if_neg hc]
  · obtain ⟨o, hD⟩ := h
    have hp : H2 p = some (.dK []) := by rw [o p (Ne.symm npD), upd_same]
    refine ⟨hp, [(.inr kCells, .ref l), (.inr kLefts, .ref D), (.inr kAt, .int 0), (.inr kRoom, .int 0)], rfl, by show 4 ≤ 15; decide, ?_⟩
    have em : mergeK [] [(Sum.inr kCells, V.ref l), (.inr kLefts, .ref D), (.inr kAt, .int 0), (.inr kRoom, .int 0)] = stK l D 0 0 := by
      simp [mergeK, putK, ne_ca, ne_la, ne_cl, show ¬ kCells = kRoom by decide +kernel, show ¬ kLefts = kRoom by decide +kernel, show ¬ kAt = kRoom by decide +kernel]
    rw [em]
    refine q p l D _ cells (cells.map lf) (fun b u hb => ?_) ?_ nl ?_ upd_same ?_ ?_ (List.length_map ..) h0 nlD
    · have h1 := sm b u hb
      have nb : b ≠ p := ne_of_none h1 np
      have nbD : b ≠ D := ne_of_none h1 nD1
      rw [upd_ne nb, o b nbD, upd_ne nb]
      exact h1
    · exact sm.free np
    · exact sm.free nD1
    · rw [upd_ne nlp, o l nlD]
      exact hl1
    · rw [upd_ne npD, hD, List.length_map, List.take_length]
theorem begin_read {H : Hp} {Q : VK} {nx : L2.St → Hp → Prop} {a : Addr} {ns : List Int} (hS : SqL K H a (ns.map V.int)) (hz : ns.length ≤ 63)
    (q : ∀ (S ca la : Addr) (H' : Hp) (cells lefts : List Int), Same H H' → H S = none → H ca = none → H la = none → H' S = some (.dK (stK ca la 0 0)) → H' ca = some (.lst (cells.map V.int)) → H' la = some (.lst (lefts.map V.int)) → lefts.length = cells.length → 0 < cells.length → ca ≠ la → Q (.ref S) H') :
    tSeq (tAsg (tIf (tTest (tOp (rNeD K) (tVar 0) (tLst tNil))) (tCB (fun xs H Q => ∃ p ys, xs = [.ref p] ∧ (SqL K H p ys ∨ SqT K H p ys) ∧ ∀ l, H l = none → Q (.ref l) (upd H l (.lst ys))) (tCons (tVar 0) tNil)) (tLst (tCons (tC (.int 0)) tNil))) (gName 1))
      (tRet (tDisp [(tC (.str kCells), tVar 1), (tC (.str kLefts), tLc (iList K (tVar 1)) (gName 2) tYes (tIf (tTest (tOp (rI0 fun i j => .bl (decide (j ≤ i))) (tVar 2) (tOp (rI CPow fun i j => .int (i ^ j.toNat)) (tC (.int 10)) (tC (.int 18))))) (tVar 2) (tC (.int 0))) [2]), (tC (.str kAt), tC (.int 0)), (tC (.str kRoom), tC (.int 0))]))
      { nx := nx, rt := Q } [some (.ref a), none, none] H := by
  refine ⟨.ref a, rfl, by decide, fun p np => ?_⟩
  have sm : Same H (upd H p (.lst [])) := fun b u e => by rw [upd_ne (ne_of_none e np)]; exact e
  have hS1 : SqL K (upd H p (.lst [])) a (ns.map V.int) := sm.seq hS
  refine ⟨.list (ns.map .int), .list [], .lst hS1 (dp_ints ns), .lst (SqL.of upd_same) .nil, shaped_ints ns, rfl, _, rfl, ?_⟩
  cases ns with
  | nil =>
    refine iteF ⟨by decide, fun l nl => ?_⟩
    exact begin_ret (cells := [0]) (fun b u e => by rw [upd_ne (ne_of_none (sm b u e) nl)]; exact sm b u e) (sm.free nl) upd_same (by decide) (by decide) q
  | cons n ns =>
    refine iteT ⟨.ref a, rfl, a, _, rfl, .inl hS1, fun l nl => ?_⟩
    exact begin_ret (cells := n :: ns) (fun b u e => by rw [upd_ne (ne_of_none (sm b u e) nl)]; exact sm b u e) (sm.free nl) upd_same (by simp) (Nat.le_trans hz (by decide)) q
end
/-- the law's frame when the state stands -/
def lawE (n m : Nat) : En := .val (.scr n) :: .val .stt :: List.replicate m .un
theorem law_env {K : PySem.W.Frag} {H H' : Hp} {a S ca la : Addr} {ns cells lefts : List Int} {m : Nat} (hS : SqL K H a (ns.map V.int)) (sm : Same H H') (nS : H S = none) (nca : H ca = none) (nla : H la = none)
    (h1 : H' S = some (.dK (stK ca la 0 0))) (h2 : H' ca = some (.lst (cells.map V.int))) (h3 : H' la = some (.lst (lefts.map V.int))) (hl : lefts.length = cells.length) (h0 : 0 < cells.length) (hne : ca ≠ la) :
    EnvOk K ⟨S, ca, la, [S, ca, la]⟩ (2 ^ 60) (fun _ => 0) (lawE ns.length m) (some (.ref a) :: some (.ref S) :: List.replicate m none) H' where
  ok := ⟨by simp, by simp, by simp⟩
  st := ⟨cells, lefts, 0, 0, h1, h2, h3, hl, h0, by decide, by decide, hne⟩
  av := fun b hb => by
    simp only [List.mem_cons, List.not_mem_nil, or_false] at hb
    rcases hb with rfl | rfl | rfl
    · exact ⟨_, h1⟩
    · exact ⟨_, h2⟩
    · exact ⟨_, h3⟩
  len := by simp [lawE]
  val := fun i w h => by
    unfold lawE at h
    match i, h with
    | 0, h =>
      simp at h
      subst h
      refine ⟨.ref a, rfl, .scr ?_⟩
      rcases sqL_split hS with r | r
      · have na : ∀ b, H b = none → a ≠ b := fun b hb => by
          rcases r with r | ⟨o, r⟩
          · exact ne_of_none r hb
          · exact ne_of_none r hb
        refine .inl ⟨?_, ?_⟩
        · simp only [List.mem_cons, List.not_mem_nil, or_false, not_or]
          exact ⟨na S nS, na ca nca, na la nla⟩
        · rcases r with r | ⟨o, r⟩
          · exact .inl (sm _ _ r)
          · exact .inr ⟨o, sm _ _ r⟩
      · exact .inr r
    | 1, h =>
      simp at h
      subst h
      exact ⟨.ref S, rfl, .stt⟩
    | i + 2, h =>
      simp only [List.getElem?_cons_succ, List.getElem?_replicate] at h
      split at h <;> cases h
  own := fun i ws h => by
    unfold lawE at h
    match i, h with
    | 0, h => simp at h
    | 1, h => simp at h
    | i + 2, h =>
      simp only [List.getElem?_cons_succ, List.getElem?_replicate] at h
      split at h <;> cases h
  inj := fun i j ws us h _ => by
    unfold lawE at h
    match i, h with
    | 0, h => simp at h
    | 1, h => simp at h
    | i + 2, h =>
      simp only [List.getElem?_cons_succ, List.getElem?_replicate] at h
      split at h <;> cases h
/-- a law's run ends and gives True -/
def LawEnds (g : En → T (Fl × En)) (m : Nat) : Prop := ∀ n, n ≤ 63 → (g (lawE n m)).AllB (fun _ x => ∃ ρ, x = (.rt (.bl true), ρ)) (fun _ _ _ => False) (2 ^ 60)
theorem law_rest {K : PySem.W.Frag} {E : XK} {H H' : Hp} {a S ca la : Addr} {ns cells lefts : List Int} {m : Nat} {g : En → T (Fl × En)} {Q : VK} {nx : L2.St → Hp → Prop} (en : LawEnds g m) (hn : ns.length ≤ 63) (q : ∀ H', Q (.bl true) H') (hS : SqL K H a (ns.map V.int)) (sm : Same H H') (nS : H S = none) (nca : H ca = none) (nla : H la = none)
    (h1 : H' S = some (.dK (stK ca la 0 0))) (h2 : H' ca = some (.lst (cells.map V.int))) (h3 : H' la = some (.lst (lefts.map V.int))) (hl : lefts.length = cells.length) (h0 : 0 < cells.length) (hne : ca ≠ la) :
    liftS K E g { nx := nx, rt := Q } (some (.ref a) :: some (.ref S) :: List.replicate m none) H' := by
  refine ⟨_, _, _, _, law_env hS sm nS nca nla h1 h2 h3 hl h0 hne, T.AllB.imp (fun d x hx => ?_) (fun _ _ _ z => z.elim) (en ns.length hn)⟩
  obtain ⟨ρ, rfl⟩ := hx
  intro c' oa' σ' H2 fw e' v r
  cases r
  exact q H2
/-- the law's end, what may be raised told by the world -/
theorem walk_w {l : PySem.W.OpenLaw} {n k : Nat} {q : Program} {loose : List Str} {XP : (Str → Option Value) → Heap → Prop} {YP : World → Heap → Prop} {d : DefRec} {CX : World → CXT} {x : Str}
    (hn : l.most = some n) (hz : n ≤ sizeLine) (hdf : d.params.defaults = []) (hr : Room k callerA)
    (F : ∀ (w : World) (mg : Str → Option Value) (fa : Addr) (h : Heap), YP w h → h.Ns mainGlobals mg → mg d.name = some (.ref fa) →
      ∃ (K : PySem.W.Frag) (fd : FuncData) (sp : Sp), K.In h ∧ (∀ (s : Shared) (u : Value), BindsTo s fd ⟨[u], []⟩ [(x, u)]) ∧
        (∀ (H : Hp) (a : Addr) (ns : List Int), ns.length ≤ n → Only H → SqL K H a (ns.map V.int) → sp [.ref a] H (fun v _ => v = .bl true) fun _ _ _ => False) ∧
        ∀ base : Heap, K.In base → base.Ns mainGlobals mg → FnOk l.prog w K mg base (CX w) k fa fd [x] sp)
    (hCX : ∀ (w : World) (H : Hp) (s : Shared) (e : Value) (s' : Shared), CX w [] H s (fun _ _ _ => False) e s' → False) :
    PySem.W.WalkO q loose XP YP l.row.toRowW d [] (fun f vs => PySem.call f vs) := by
  refine Att.attach_call hn hdf fun w' t₀ t₁ mg' mb' fa' o' pm' cd' dc a' vs' ns' G' Y' h1 h2 h3 h4 h5 h6 h7 h8 => ?_
  obtain ⟨K', fd', sp', kx, hb', hs', hF'⟩ := F w' mg' fa' _ Y' G'.T.g h4
  exact law_call kx G'.T.g G'.T.b G'.T.builtins G'.T.nolimit h8 h5 h6 (Nat.le_trans h7 hz) hr hF' hb' (fun H hO hS => hs' H a' ns' h7 hO hS) fun H e s' => hCX w' H t₁ e s'
theorem cx_none {P : Program} {w : World} {l : List PySem.Env} {H : Hp} {s : Shared} {e : Value} {s' : Shared} (h : L2.CX P w l H s (fun _ _ _ => False) e s') : False := by
  obtain ⟨_, _, _, _, _, _, _, _, _, _, _, _, z⟩ := h
  exact z
end PF
namespace Rt
def Fr (a b : Int) : Prop := 0 < b ∧ Int.gcd a b = 1
def num (t b : Int) : Int := t / (Int.gcd t b : Int)
def den (t b : Int) : Int := b / (Int.gcd t b : Int)
theorem g_pos {t b : Int} (hb : 0 < b) : 0 < (Int.gcd t b : Int) := by
  have h : 0 < Int.gcd t b := Int.gcd_pos_of_ne_zero_right t (by omega)
  omega
theorem num_eq (t b : Int) : (Int.gcd t b : Int) * num t b = t := Int.mul_ediv_cancel' (Int.gcd_dvd_left t b)
theorem den_eq (t b : Int) : (Int.gcd t b : Int) * den t b = b := Int.mul_ediv_cancel' (Int.gcd_dvd_right t b)
theorem den_pos {t b : Int} (hb : 0 < b) : 0 < den t b := by
  have h := den_eq t b
  have g := g_pos (t := t) hb
  rcases Int.lt_trichotomy (den t b) 0 with h1 | h1 | h1
  · have : (Int.gcd t b : Int) * den t b < 0 := Int.mul_neg_of_pos_of_neg g h1
    omega
  · rw [h1] at h
    omega
  · exact h1
theorem fr_nrm {t b : Int} (hb : 0 < b) : Fr (num t b) (den t b) := by
  refine ⟨den_pos hb, ?_⟩
  have hg := g_pos (t := t) hb
  have e : Int.gcd ((Int.gcd t b : Int) * num t b) ((Int.gcd t b : Int) * den t b) = Int.gcd t b * Int.gcd (num t b) (den t b) := by
    rw [Int.gcd_mul_left, Int.natAbs_natCast]
  rw [num_eq, den_eq] at e
  have h : 0 < Int.gcd t b := by omega
  have e2 : Int.gcd t b * Int.gcd (num t b) (den t b) = Int.gcd t b * 1 := by rw [Nat.mul_one]; exact e.symm
  exact Nat.eq_of_mul_eq_mul_left h e2
theorem cross {t b : Int} : num t b * b = t * den t b := by
  have h1 := num_eq t b
  have h2 := den_eq t b
  grind
theorem dvd_help {a b c d : Int} (h : Fr a b) (hd : 0 < d) (e : a * d = c * b) : b ∣ d := by
  have h1 : b.natAbs ∣ a.natAbs * d.natAbs := by
    rw [← Int.natAbs_mul, e, Int.natAbs_mul]
    exact Nat.dvd_mul_left _ _
  have h2 : Nat.Coprime b.natAbs a.natAbs := by
    have := h.2
    unfold Int.gcd at this
    unfold Nat.Coprime
    rw [Nat.gcd_comm]
    exact this
  have h3 := Nat.Coprime.dvd_of_dvd_mul_left h2 h1
  exact Int.natAbs_dvd_natAbs.mp h3
theorem uniq {a b c d : Int} (h : Fr a b) (k : Fr c d) (e : a * d = c * b) : a = c ∧ b = d := by
  have h1 : b ∣ d := dvd_help h k.1 e
  have h2 : d ∣ b := dvd_help k h.1 e.symm
  have h3 : b = d := Int.dvd_antisymm (by have := h.1; omega) (by have := k.1; omega) h1 h2
  subst h3
  exact ⟨Int.eq_of_mul_eq_mul_right (by have := h.1; omega) e, rfl⟩
/-- what a quotient of the same worth comes to -/
theorem nrm_is {t b a c : Int} (hb : 0 < b) (h : Fr a c) (e : t * c = a * b) : num t b = a ∧ den t b = c := by
  refine uniq (fr_nrm hb) h ?_
  have hx := cross (t := t) (b := b)
  have e2 : b * (num t b * c) = b * (a * den t b) := by grind
  exact Int.eq_of_mul_eq_mul_left (by omega) e2
end Rt
namespace Lw
open PySem PySem.Spec PyProof.Rows L2 PF
def k_NOUGHT : W := (.tup [(.int 0), (.int 1)])
def F_is_integer : List W → T W := defF 1 1 (sRet (fAndV (f1 (isiW isInt) (gV 0)) (fNotV (f1 (isiW (isOnly "bool")) (gV 0)))))
def F_common : List W → T W := defF 2 2 (sSeq (sPar 0 1 (fCons (fL (fCons (gV 0) fNil) absW) (fCons (fL (fCons (gV 1) fNil) absW) fNil))) (sSeq (sWhile (fun ρ => wInt 1 ρ + 1) (fBl (f2 neW (gV 1) (fun _ => .ok (.int 0)))) (sPar 0 1 (fCons (gV 1) (fCons (f2 modW (gV 0) (fL (fCons (gV 1) fNil) intW)) fNil)))) (sRet (gV 0))))
def F_made : List W → T W := defF 3 2 (sSeq (sIf (fBl (f2 ltW (gV 1) (fun _ => .ok (.int 0)))) (sPar 0 1 (fCons (f2 subW (fun _ => .ok (.int 0)) (gV 0)) (fCons (f2 subW (fun _ => .ok (.int 0)) (gV 1)) fNil))) sNil) (sSeq (sSet 2 (fL (fCons (gV 0) (fCons (gV 1) fNil)) F_common)) (sRet (fL (fCons (f2 fdivW (gV 0) (gV 2)) (fCons (f2 fdivW (gV 1) (gV 2)) fNil)) mkTup))))
def F_is_fraction : List W → T W := defF 2 1 (sSeq (sIf (fOr (fNot (fTru (f1 (isiW (isOnly "tuple")) (gV 0)))) (fOr (fBl (f2 neW (fL (fCons (gV 0) fNil) lenW) (fun _ => .ok (.int 2)))) (fNot (fTru (fL (fCons (fComp [1] (iOf tupW (gV 0)) (goName 1) fYes (fL (fCons (gV 1) fNil) F_is_integer)) fNil) allW))))) (sRet (fun _ => .ok (.bl false))) sNil) (sRet (fAndV (f2 geW (f2 ixW (gV 0) (fun _ => .ok (.int 1))) (fun _ => .ok (.int 1))) (f2 eqW (fL (fCons (f2 ixW (gV 0) (fun _ => .ok (.int 0))) (fCons (f2 ixW (gV 0) (fun _ => .ok (.int 1))) fNil)) F_common) (fun _ => .ok (.int 1))))))
def F_add : List W → T W := defF 2 2 (sRet (fL (fCons (f2 addW (f2 mulW (f2 ixW (gV 0) (fun _ => .ok (.int 0))) (f2 ixW (gV 1) (fun _ => .ok (.int 1)))) (f2 mulW (f2 ixW (gV 1) (fun _ => .ok (.int 0))) (f2 ixW (gV 0) (fun _ => .ok (.int 1))))) (fCons (f2 mulW (f2 ixW (gV 0) (fun _ => .ok (.int 1))) (f2 ixW (gV 1) (fun _ => .ok (.int 1)))) fNil)) F_made))
def F_sub : List W → T W := defF 2 2 (sRet (fL (fCons (f2 subW (f2 mulW (f2 ixW (gV 0) (fun _ => .ok (.int 0))) (f2 ixW (gV 1) (fun _ => .ok (.int 1)))) (f2 mulW (f2 ixW (gV 1) (fun _ => .ok (.int 0))) (f2 ixW (gV 0) (fun _ => .ok (.int 1))))) (fCons (f2 mulW (f2 ixW (gV 0) (fun _ => .ok (.int 1))) (f2 ixW (gV 1) (fun _ => .ok (.int 1)))) fNil)) F_made))
def F_mul : List W → T W := defF 2 2 (sRet (fL (fCons (f2 mulW (f2 ixW (gV 0) (fun _ => .ok (.int 0))) (f2 ixW (gV 1) (fun _ => .ok (.int 0)))) (fCons (f2 mulW (f2 ixW (gV 0) (fun _ => .ok (.int 1))) (f2 ixW (gV 1) (fun _ => .ok (.int 1)))) fNil)) F_made))
def F_div : List W → T W := defF 2 2 (sRet (fL (fCons (f2 mulW (f2 ixW (gV 0) (fun _ => .ok (.int 0))) (f2 ixW (gV 1) (fun _ => .ok (.int 1)))) (fCons (f2 mulW (f2 ixW (gV 0) (fun _ => .ok (.int 1))) (f2 ixW (gV 1) (fun _ => .ok (.int 0)))) fNil)) F_made))
def F_is_under : List W → T W := defF 2 2 (sRet (f2 ltW (f2 mulW (f2 ixW (gV 0) (fun _ => .ok (.int 0))) (f2 ixW (gV 1) (fun _ => .ok (.int 1)))) (f2 mulW (f2 ixW (gV 1) (fun _ => .ok (.int 0))) (f2 ixW (gV 0) (fun _ => .ok (.int 1))))))
def F_need_fraction : List W → T W := defF 1 1 (sSeq (sIf (fNot (fTru (fL (fCons (gV 0) fNil) F_is_fraction))) sNever sNil) (sRet (gV 0)))
def F_ratio : List W → T W := defF 2 2 (sSeq (sIf (fNot (fTru (fL (fCons (gV 0) fNil) F_is_integer))) sNever sNil) (sSeq (sIf (fOr (fNot (fTru (fL (fCons (gV 1) fNil) F_is_integer))) (fBl (f2 eqW (gV 1) (fun _ => .ok (.int 0))))) sNever sNil) (sRet (fL (fCons (gV 0) (fCons (gV 1) fNil)) F_made))))
def F_plus : List W → T W := defF 2 2 (sRet (fL (fCons (fL (fCons (gV 0) fNil) F_need_fraction) (fCons (fL (fCons (gV 1) fNil) F_need_fraction) fNil)) F_add))
def F_less : List W → T W := defF 2 2 (sRet (fL (fCons (fL (fCons (gV 0) fNil) F_need_fraction) (fCons (fL (fCons (gV 1) fNil) F_need_fraction) fNil)) F_sub))
def F_times : List W → T W := defF 2 2 (sRet (fL (fCons (fL (fCons (gV 0) fNil) F_need_fraction) (fCons (fL (fCons (gV 1) fNil) F_need_fraction) fNil)) F_mul))
def F_over : List W → T W := defF 2 2 (sSeq (sExpr (fL (fCons (gV 0) fNil) F_need_fraction)) (sSeq (sIf (fBl (f2 eqW (fL (fCons (gV 1) fNil) F_need_fraction) (fun _ => .ok k_NOUGHT))) sNever sNil) (sRet (fL (fCons (gV 0) (fCons (gV 1) fNil)) F_div))))
def F_is_less : List W → T W := defF 2 2 (sRet (fL (fCons (fL (fCons (gV 0) fNil) F_need_fraction) (fCons (fL (fCons (gV 1) fNil) F_need_fraction) fNil)) F_is_under))
def F__law_mixed : List W → T W := defF 2 2 (sSeq (sSet 0 (f2 modW (fL (fCons (gV 0) fNil) intW) (fun _ => .ok (.int 2147483647)))) (sRet (f2 modW (f2 mulW (f2 modW (f2 addW (f2 addW (f2 mulW (gV 0) (f2 addW (fun _ => .ok (.int 48271)) (f2 mulW (f2 mulW (fun _ => .ok (.int 2)) (gV 1)) (gV 1)))) (f2 mulW (fun _ => .ok (.int 69621)) (gV 1))) (fun _ => .ok (.int 11))) (fun _ => .ok (.int 2147483647))) (fun _ => .ok (.int 69621))) (fun _ => .ok (.int 2147483629)))))
def mixv (c k : Int) : Int := ((c % 2147483647) * (48271 + 2 * k * k) + 69621 * k + 11) % 2147483647 * 69621 % 2147483629
theorem mix_run {c k : Int} (h0 : 0 ≤ k) (h1 : k ≤ 2 ^ 61) : F__law_mixed [.int c, .int k] = .ok (.int (mixv c k)) := by
  have hc0 : 0 ≤ c % 2147483647 := Int.emod_nonneg _ (by decide)
  have hc1 : c % 2147483647 < 2147483647 := Int.emod_lt_of_pos _ (by decide)
  have m1 : mulOk 2 k = true := mulOk_of (a := 2) (b := 62) (by decide) (by omega) (by decide) (by decide) (by decide)
  have m2 : mulOk (2 * k) k = true := mulOk_of (a := 64) (b := 62) (by omega) (by omega) (by decide) (by decide) (by decide)
  have hkk : (2 * k * k).natAbs < 2 ^ 126 := wide_lt (a := 64) (b := 62) (by omega) (by omega)
  have m3 : mulOk (c % 2147483647) (48271 + 2 * k * k) = true := mulOk_of (a := 32) (b := 127) (by omega) (by omega) (by decide) (by decide) (by decide)
  have m4 : mulOk 69621 k = true := mulOk_of (a := 20) (b := 62) (by decide) (by omega) (by decide) (by decide) (by decide)
  have hr0 : 0 ≤ ((c % 2147483647) * (48271 + 2 * k * k) + 69621 * k + 11) % 2147483647 := Int.emod_nonneg _ (by decide)
  have hr1 : ((c % 2147483647) * (48271 + 2 * k * k) + 69621 * k + 11) % 2147483647 < 2147483647 := Int.emod_lt_of_pos _ (by decide)
  have m5 : mulOk (((c % 2147483647) * (48271 + 2 * k * k) + 69621 * k + 11) % 2147483647) 69621 = true := mulOk_of (a := 32) (b := 20) (by omega) (by decide) (by decide) (by decide) (by decide)
  simp [F__law_mixed, defF, startE, endOf, m1, m2, m3, m4, m5, mixv]
theorem mixv_lt (c k : Int) : 0 ≤ mixv c k ∧ mixv c k < 2147483629 := ⟨Int.emod_nonneg _ (by decide), Int.emod_lt_of_pos _ (by decide)⟩
def F__law_ratio : List W → T W := defF 4 2 (sSeq (sPar 2 3 (fCons (fL (fCons (gV 0) fNil) absW) (fCons (gV 1) fNil))) (sSeq (sWhile (fun ρ => wInt 3 ρ + 1) (fBl (f2 neW (gV 3) (fun _ => .ok (.int 0)))) (sPar 2 3 (fCons (gV 3) (fCons (f2 modW (fL (fCons (gV 2) fNil) intW) (gV 3)) fNil)))) (sRet (fL (fCons (f2 fdivW (gV 0) (gV 2)) (fCons (f2 fdivW (gV 1) (gV 2)) fNil)) mkTup))))
def F__law_plus : List W → T W := defF 2 2 (sRet (fL (fCons (f2 addW (f2 mulW (f2 ixW (gV 0) (fun _ => .ok (.int 0))) (f2 ixW (gV 1) (fun _ => .ok (.int 1)))) (f2 mulW (f2 ixW (gV 1) (fun _ => .ok (.int 0))) (f2 ixW (gV 0) (fun _ => .ok (.int 1))))) (fCons (f2 mulW (f2 ixW (gV 0) (fun _ => .ok (.int 1))) (f2 ixW (gV 1) (fun _ => .ok (.int 1)))) fNil)) F__law_ratio))
def F__law_less : List W → T W := defF 2 2 (sRet (fL (fCons (f2 subW (f2 mulW (f2 ixW (gV 0) (fun _ => .ok (.int 0))) (f2 ixW (gV 1) (fun _ => .ok (.int 1)))) (f2 mulW (f2 ixW (gV 1) (fun _ => .ok (.int 0))) (f2 ixW (gV 0) (fun _ => .ok (.int 1))))) (fCons (f2 mulW (f2 ixW (gV 0) (fun _ => .ok (.int 1))) (f2 ixW (gV 1) (fun _ => .ok (.int 1)))) fNil)) F__law_ratio))
def F__law_times : List W → T W := defF 2 2 (sRet (fL (fCons (f2 mulW (f2 ixW (gV 0) (fun _ => .ok (.int 0))) (f2 ixW (gV 1) (fun _ => .ok (.int 0)))) (fCons (f2 mulW (f2 ixW (gV 0) (fun _ => .ok (.int 1))) (f2 ixW (gV 1) (fun _ => .ok (.int 1)))) fNil)) F__law_ratio))
def F__law_over : List W → T W := defF 2 2 (sRet (fL (fCons (f2 mulW (f2 ixW (gV 0) (fun _ => .ok (.int 0))) (f2 ixW (gV 1) (fun _ => .ok (.int 1)))) (fCons (f2 mulW (f2 ixW (gV 0) (fun _ => .ok (.int 1))) (f2 ixW (gV 1) (fun _ => .ok (.int 0)))) fNil)) F__law_ratio))
def F__law_under : List W → T W := defF 2 2 (sRet (f2 ltW (f2 mulW (f2 ixW (gV 0) (fun _ => .ok (.int 0))) (f2 ixW (gV 1) (fun _ => .ok (.int 1)))) (f2 mulW (f2 ixW (gV 1) (fun _ => .ok (.int 0))) (f2 ixW (gV 0) (fun _ => .ok (.int 1))))))
def F__law_sum : List W → T W := defF 3 1 (sSeq (sSet 1 (fL (fCons (fun _ => .ok (.int 0)) (fCons (fun _ => .ok (.int 1)) fNil)) mkTup)) (sSeq (sFor (iOf tupW (gV 0)) (goName 2) (sSet 1 (fL (fCons (gV 1) (fCons (gV 2) fNil)) F__law_plus))) (sRet (gV 1))))
def F__law_drawn : List W → T W := defF 1 1 (sSeq (sIf (fBl (f2 gtW (fL (fCons (gV 0) (fCons (fun _ => .ok (.int 3)) fNil)) F__law_draw) (fun _ => .ok (.int 0)))) (sRet (fL (fCons (f2 subW (fL (fCons (gV 0) (fCons (fun _ => .ok (.int 25)) fNil)) F__law_draw) (fun _ => .ok (.int 12))) (fCons (f2 addW (fun _ => .ok (.int 1)) (fL (fCons (gV 0) (fCons (fun _ => .ok (.int 12)) fNil)) F__law_draw)) fNil)) F__law_ratio)) sNil) (sRet (fL (fCons (f2 subW (fL (fCons (gV 0) (fCons (f2 powW (fun _ => .ok (.int 10)) (fun _ => .ok (.int 20))) fNil)) F__law_draw) (f2 powW (fun _ => .ok (.int 10)) (fun _ => .ok (.int 19)))) (fCons (f2 addW (fun _ => .ok (.int 1)) (fL (fCons (gV 0) (fCons (f2 powW (fun _ => .ok (.int 10)) (fun _ => .ok (.int 20))) fNil)) F__law_draw)) fNil)) F__law_ratio)))
def F__law_pair_right : List W → T W := defF 3 2 (sSeq (sIf (fOr (fBl (f2 neW (fL (fCons (gV 0) fNil) F_need_fraction) (gV 0))) (fOr (fBl (f2 neW (fL (fCons (gV 0) (fCons (gV 1) fNil)) F_plus) (fL (fCons (gV 0) (fCons (gV 1) fNil)) F__law_plus))) (fBl (f2 neW (fL (fCons (gV 0) (fCons (gV 1) fNil)) F_plus) (fL (fCons (gV 1) (fCons (gV 0) fNil)) F_plus))))) (sRet (fun _ => .ok (.bl false))) sNil) (sSeq (sIf (fOr (fBl (f2 neW (fL (fCons (gV 0) (fCons (gV 1) fNil)) F_less) (fL (fCons (gV 0) (fCons (gV 1) fNil)) F__law_less))) (fBl (f2 neW (fL (fCons (fL (fCons (gV 0) (fCons (gV 1) fNil)) F_plus) (fCons (gV 1) fNil)) F_less) (gV 0)))) (sRet (fun _ => .ok (.bl false))) sNil) (sSeq (sIf (fOr (fBl (f2 neW (fL (fCons (gV 0) (fCons (gV 1) fNil)) F_times) (fL (fCons (gV 0) (fCons (gV 1) fNil)) F__law_times))) (fBl (f2 neW (fL (fCons (gV 0) (fCons (gV 1) fNil)) F_is_less) (fL (fCons (gV 0) (fCons (gV 1) fNil)) F__law_under)))) (sRet (fun _ => .ok (.bl false))) sNil) (sSeq (sIf (fBl (f2 neW (f2 ixW (gV 1) (fun _ => .ok (.int 0))) (fun _ => .ok (.int 0)))) (sSeq (sSet 2 (fL (fCons (f2 mulW (f2 mulW (f2 ixW (gV 0) (fun _ => .ok (.int 0))) (f2 ixW (gV 1) (fun _ => .ok (.int 1)))) (fIf (fBl (f2 gtW (f2 ixW (gV 1) (fun _ => .ok (.int 0))) (fun _ => .ok (.int 0)))) (fun _ => .ok (.int 1)) (f1 negW (fun _ => .ok (.int 1))))) (fCons (f2 mulW (f2 ixW (gV 0) (fun _ => .ok (.int 1))) (fL (fCons (f2 ixW (gV 1) (fun _ => .ok (.int 0))) fNil) absW)) fNil)) F__law_ratio)) (sIf (fOr (fBl (f2 neW (fL (fCons (gV 0) (fCons (gV 1) fNil)) F_over) (gV 2))) (fOr (fBl (f2 neW (fL (fCons (gV 0) (fCons (gV 1) fNil)) F_over) (gV 2))) (fBl (f2 neW (fL (fCons (fL (fCons (gV 0) (fCons (gV 1) fNil)) F_over) (fCons (gV 1) fNil)) F_times) (gV 0))))) (sRet (fun _ => .ok (.bl false))) sNil)) sNil) (sRet (fAndV (f2 eqW (fL (fCons (gV 0) (fCons (gV 1) fNil)) F_is_less) (fL (fCons (fL (fCons (gV 0) (fCons (gV 1) fNil)) F_less) (fCons (fL (fCons (fun _ => .ok (.int 0)) (fCons (fun _ => .ok (.int 1)) fNil)) mkTup) fNil)) F_is_less)) (f2 eqW (fL (fCons (gV 0) (fCons (fL (fCons (fun _ => .ok (.int 0)) (fCons (fun _ => .ok (.int 1)) fNil)) mkTup) fNil)) F_plus) (gV 0))))))))
def g_law : En → T (Fl × En) := (sSeq (sFor (iL rng1 (fCons (fun _ => .ok (.int 12)) fNil)) (goName 2) (sSeq (sPar 3 4 (fCons (fL (fCons (gV 1) fNil) F__law_drawn) (fCons (fL (fCons (gV 1) fNil) F__law_drawn) fNil))) (sSeq (sIf (fNot (fTru (fL (fCons (gV 3) (fCons (gV 4) fNil)) F__law_pair_right))) (sRet (fun _ => .ok (.bl false))) sNil) (sSeq (sPar 5 6 (fCons (f2 subW (fL (fCons (gV 1) (fCons (fun _ => .ok (.int 201)) fNil)) F__law_draw) (fun _ => .ok (.int 100))) (fCons (f2 addW (fun _ => .ok (.int 1)) (fL (fCons (gV 1) (fCons (fun _ => .ok (.int 50)) fNil)) F__law_draw)) fNil))) (sIf (fOr (fBl (f2 neW (fL (fCons (gV 5) (fCons (gV 6) fNil)) F_ratio) (fL (fCons (gV 5) (fCons (gV 6) fNil)) F__law_ratio))) (fBl (f2 neW (fL (fCons (f2 subW (fun _ => .ok (.int 0)) (gV 5)) (fCons (f2 subW (fun _ => .ok (.int 0)) (gV 6)) fNil)) F_ratio) (fL (fCons (gV 5) (fCons (gV 6) fNil)) F__law_ratio)))) (sRet (fun _ => .ok (.bl false))) sNil))))) (sSeq (sSet 7 (fL (fCons (f2 addW (f2 powW (fun _ => .ok (.int 10)) (fun _ => .ok (.int 59))) (fun _ => .ok (.int 1))) (fCons (f2 addW (f2 powW (fun _ => .ok (.int 10)) (fun _ => .ok (.int 59))) (fun _ => .ok (.int 3))) fNil)) mkTup)) (sSeq (sFor (iL rng1 (fCons (fun _ => .ok (.int 2)) fNil)) (goName 2) (sSeq (sSet 7 (fL (fCons (gV 7) (fCons (gV 7) fNil)) F_times)) (sIf (fOr (fNot (fTru (fL (fCons (gV 7) (fCons (fL (fCons (f1 negW (fun _ => .ok (.int 1))) (fCons (fun _ => .ok (.int 2)) fNil)) mkTup) fNil)) F__law_pair_right))) (fNot (fTru (fL (fCons (fL (fCons (fun _ => .ok (.int 3)) (fCons (fun _ => .ok (.int 7)) fNil)) mkTup) (fCons (gV 7) fNil)) F__law_pair_right)))) (sRet (fun _ => .ok (.bl false))) sNil))) (sSeq (sIf (fOr (fBl (f2 neW (fL (fCons (fun _ => .ok (.int 0)) (fCons (f1 negW (fun _ => .ok (.int 7))) fNil)) F_ratio) (fL (fCons (fun _ => .ok (.int 0)) (fCons (fun _ => .ok (.int 1)) fNil)) mkTup))) (fOr (fBl (f2 neW (fL (fCons (fun _ => .ok (.int 6)) (fCons (f1 negW (fun _ => .ok (.int 4))) fNil)) F_ratio) (fL (fCons (f1 negW (fun _ => .ok (.int 3))) (fCons (fun _ => .ok (.int 2)) fNil)) mkTup))) (fBl (f2 neW (fL (fCons (fL (fCons (fun _ => .ok (.int 1)) (fCons (fun _ => .ok (.int 2)) fNil)) mkTup) (fCons (fL (fCons (f1 negW (fun _ => .ok (.int 1))) (fCons (fun _ => .ok (.int 3)) fNil)) mkTup) fNil)) F_over) (fL (fCons (f1 negW (fun _ => .ok (.int 3))) (fCons (fun _ => .ok (.int 2)) fNil)) mkTup))))) (sRet (fun _ => .ok (.bl false))) sNil) (sRet (fAndV (f2 isW (fL (fCons (fL (fCons (fun _ => .ok (.int 1)) (fCons (fun _ => .ok (.int 3)) fNil)) mkTup) (fCons (fL (fCons (fun _ => .ok (.int 1)) (fCons (fun _ => .ok (.int 2)) fNil)) mkTup) fNil)) F_is_less) (fun _ => .ok (.bl true))) (f2 isW (fL (fCons (fL (fCons (fun _ => .ok (.int 1)) (fCons (fun _ => .ok (.int 2)) fNil)) mkTup) (fCons (fL (fCons (fun _ => .ok (.int 1)) (fCons (fun _ => .ok (.int 2)) fNil)) mkTup) fNil)) F_is_less) (fun _ => .ok (.bl false)))))))))
end Lw
namespace Lw
open PySem PySem.Spec PyProof.Rows L2 PF
def top (i : Nat) : Stmt := PySem.Challenge.pw_nestletters_k01_whole_ratios.main.body.getD i (.Pass ⟨0, 0, 0, 0⟩)
abbrev FnP (K : PySem.W.Frag) (x : Str) (st : Stmt) (sc : Scope) (f : Addr) (fd : FuncData) : Prop := FunD K x x (defArgs st) (defBody st) sc [] [] f fd
def sc_is_integer : Scope := ⟨.function, [("thing", .local), ("isinstance", .globalImplicit), ("int", .globalImplicit), ("bool", .globalImplicit)], false, false, (defScope (top 6)).more⟩
def sc_common : Scope := ⟨.function, [("one", .local), ("other", .local), ("abs", .globalImplicit), ("int", .globalImplicit)], false, false, (defScope (top 7)).more⟩
def sc_made : Scope := ⟨.function, [("top", .local), ("bottom", .local), ("divisor", .local), ("common", .globalImplicit)], false, false, (defScope (top 8)).more⟩
def sc_is_fraction : Scope := ⟨.function, [("thing", .local), ("isinstance", .globalImplicit), ("tuple", .globalImplicit), ("len", .globalImplicit), ("all", .globalImplicit), ("common", .globalImplicit)], false, false, (defScope (top 9)).more⟩
def sc_add : Scope := ⟨.function, [("one", .local), ("other", .local), ("made", .globalImplicit)], false, false, (defScope (top 10)).more⟩
def sc_sub : Scope := ⟨.function, [("one", .local), ("other", .local), ("made", .globalImplicit)], false, false, (defScope (top 11)).more⟩
def sc_mul : Scope := ⟨.function, [("one", .local), ("other", .local), ("made", .globalImplicit)], false, false, (defScope (top 12)).more⟩
def sc_div : Scope := ⟨.function, [("one", .local), ("other", .local), ("made", .globalImplicit)], false, false, (defScope (top 13)).more⟩
def sc_is_under : Scope := ⟨.function, [("one", .local), ("other", .local)], false, false, (defScope (top 14)).more⟩
def sc_need_fraction : Scope := ⟨.function, [("thing", .local), ("is_fraction", .globalImplicit), ("BadFraction", .globalImplicit)], false, false, (defScope (top 15)).more⟩
def sc_ratio : Scope := ⟨.function, [("top", .local), ("bottom", .local), ("is_integer", .globalImplicit), ("BadNumber", .globalImplicit), ("made", .globalImplicit)], false, false, (defScope (top 16)).more⟩
def sc_plus : Scope := ⟨.function, [("one", .local), ("other", .local), ("add", .globalImplicit), ("need_fraction", .globalImplicit)], false, false, (defScope (top 17)).more⟩
def sc_less : Scope := ⟨.function, [("one", .local), ("other", .local), ("sub", .globalImplicit), ("need_fraction", .globalImplicit)], false, false, (defScope (top 18)).more⟩
def sc_times : Scope := ⟨.function, [("one", .local), ("other", .local), ("mul", .globalImplicit), ("need_fraction", .globalImplicit)], false, false, (defScope (top 19)).more⟩
def sc_over : Scope := ⟨.function, [("one", .local), ("other", .local), ("need_fraction", .globalImplicit), ("NOUGHT", .globalImplicit), ("BadFraction", .globalImplicit), ("div", .globalImplicit)], false, false, (defScope (top 20)).more⟩
def sc_is_less : Scope := ⟨.function, [("one", .local), ("other", .local), ("is_under", .globalImplicit), ("need_fraction", .globalImplicit)], false, false, (defScope (top 21)).more⟩
def sc__law_mixed : Scope := ⟨.function, [("_law_cell", .local), ("_law_k", .local), ("int", .globalImplicit)], false, false, (defScope (top 23)).more⟩
def sc__law_begin : Scope := ⟨.function, [("_law_script", .local), ("_law_cells", .local), ("list", .globalImplicit)], false, false, (defScope (top 24)).more⟩
def sc__law_draw : Scope := ⟨.function, [("_law_state", .local), ("_law_many", .local), ("_law_at", .local), ("_law_place", .local), ("_law_left", .local), ("_law_number", .local), ("int", .globalImplicit), ("len", .globalImplicit), ("_law_mixed", .globalImplicit)], false, false, (defScope (top 25)).more⟩
def sc__law_ratio : Scope := ⟨.function, [("_law_top", .local), ("_law_bottom", .local), ("_law_one", .local), ("_law_other", .local), ("abs", .globalImplicit), ("int", .globalImplicit)], false, false, (defScope (top 26)).more⟩
def sc__law_plus : Scope := ⟨.function, [("_law_one", .local), ("_law_other", .local), ("_law_ratio", .globalImplicit)], false, false, (defScope (top 27)).more⟩
def sc__law_less : Scope := ⟨.function, [("_law_one", .local), ("_law_other", .local), ("_law_ratio", .globalImplicit)], false, false, (defScope (top 28)).more⟩
def sc__law_times : Scope := ⟨.function, [("_law_one", .local), ("_law_other", .local), ("_law_ratio", .globalImplicit)], false, false, (defScope (top 29)).more⟩
def sc__law_over : Scope := ⟨.function, [("_law_one", .local), ("_law_other", .local), ("_law_ratio", .globalImplicit)], false, false, (defScope (top 30)).more⟩
def sc__law_under : Scope := ⟨.function, [("_law_one", .local), ("_law_other", .local)], false, false, (defScope (top 31)).more⟩
def sc__law_sum : Scope := ⟨.function, [("_law_some", .local), ("_law_found", .local), ("_law_one", .local), ("_law_plus", .globalImplicit)], false, false, (defScope (top 32)).more⟩
def sc__law_drawn : Scope := ⟨.function, [("_law_state", .local), ("_law_draw", .globalImplicit), ("_law_ratio", .globalImplicit)], false, false, (defScope (top 33)).more⟩
def sc__law_pair_right : Scope := ⟨.function, [("_law_one", .local), ("_law_other", .local), ("_law_due", .local), ("need_fraction", .globalImplicit), ("plus", .globalImplicit), ("_law_plus", .globalImplicit), ("less", .globalImplicit), ("_law_less", .globalImplicit), ("times", .globalImplicit), ("_law_times", .globalImplicit), ("is_less", .globalImplicit), ("_law_under", .globalImplicit), ("_law_ratio", .globalImplicit), ("abs", .globalImplicit), ("over", .globalImplicit)], false, false, (defScope (top 34)).more⟩
def sc_law : Scope := ⟨.function, [("_law_script", .local), ("_law_state", .local), ("_law_turn", .local), ("_law_one", .local), ("_law_other", .local), ("_law_top", .local), ("_law_bottom", .local), ("_law_great", .local), ("_law_begin", .globalImplicit), ("range", .globalImplicit), ("_law_drawn", .globalImplicit), ("_law_pair_right", .globalImplicit), ("_law_draw", .globalImplicit), ("ratio", .globalImplicit), ("_law_ratio", .globalImplicit), ("times", .globalImplicit), ("over", .globalImplicit), ("is_less", .globalImplicit)], false, false, (defScope (top 35)).more⟩
section
variable {P : Program} {w : World} {K : PySem.W.Frag} {mg : Str → Option Value} {base : Heap}
theorem ok_is_integer {f : Addr} {fd : FuncData} (F : FnP K "is_integer" (top 6) sc_is_integer f fd) (gl : mg "is_integer" = some (.ref f)) (m_isinstance : mg "isinstance" = none) (m_int : mg "int" = none) (m_bool : mg "bool" = none) : FnIs P w K mg base 1 "is_integer" ["thing"] F_is_integer := by
  have sc : FnScope ["thing"] ["thing"] sc_is_integer := ⟨rfl, rfl, rfl, by decide +kernel, rfl, by decide +kernel, by decide +kernel⟩
  refine ⟨f, fd, fn_tr (k := 0) F sc (fun cdv A outer s H E hr => ?_), gl, F.kp, F.bindsN fun _ _ _ _ _ _ us hl => match us, hl with | [_], _ => rfl⟩
  have tk : Takes (cxOf (L2.CX P w) P w K mg base ["thing"] "is_integer" sc_is_integer f cdv A outer s H E) (wOf E) := takes_of rfl rfl rfl rfl
  exact (trs_one (tr_ret (tr_and (tr_isi isi_int rfl m_isinstance rfl m_int boot_ty_int (tr_var 0)) (tr_one (tr_not (tr_isi isi_bool rfl m_isinstance rfl m_bool boot_ty_bool (tr_var 0)))))))
theorem ok_common {f : Addr} {fd : FuncData} (F : FnP K "common" (top 7) sc_common f fd) (gl : mg "common" = some (.ref f)) (m_abs : mg "abs" = none) (m_int : mg "int" = none) : FnIs P w K mg base 1 "common" ["one", "other"] F_common := by
  have sc : FnScope ["one", "other"] ["one", "other"] sc_common := ⟨rfl, rfl, rfl, by decide +kernel, rfl, by decide +kernel, by decide +kernel⟩
  refine ⟨f, fd, fn_tr (k := 0) F sc (fun cdv A outer s H E hr => ?_), gl, F.kp, F.bindsN fun _ _ _ _ _ _ us hl => match us, hl with | [_, _], _ => rfl⟩
  have tk : Takes (cxOf (L2.CX P w) P w K mg base ["one", "other"] "common" sc_common f cdv A outer s H E) (wOf E) := takes_of rfl rfl rfl rfl
  exact (trs_cons (tr_par (ps_par rfl sc.nd rfl rfl (by decide) rfl rfl (tra_cons (tr_callB call_abs sem_abs rfl m_abs bo_abs (tra_cons (tr_var 0) tra_nil)) (tra_cons (tr_callB call_abs sem_abs rfl m_abs bo_abs (tra_cons (tr_var 1) tra_nil)) tra_nil)) (by rfl))) (trs_cons (tr_while (fun ρ => wInt 1 ρ + 1) (passes_of rfl) (trb_cmp (op_neD hr.units) sem_ne (tr_var 1) tr_int (nomark _)) (trs_one (tr_par (ps_par rfl sc.nd rfl rfl (by decide) rfl rfl (tra_cons (tr_var 1) (tra_cons (tr_op op_mod sem_mod (tr_var 0) (tr_callTy call_int1 sem_int1 rfl m_int bo_int (tra_cons (tr_var 1) tra_nil))) tra_nil)) (by rfl))))) (trs_one (tr_ret (tr_var 0)))))
theorem ok_made {f : Addr} {fd : FuncData} (F : FnP K "made" (top 8) sc_made f fd) (gl : mg "made" = some (.ref f)) (h_common : FnIs P w K mg base 1 "common" ["one", "other"] F_common) : FnIs P w K mg base 2 "made" ["top", "bottom"] F_made := by
  have sc : FnScope ["top", "bottom", "divisor"] ["top", "bottom"] sc_made := ⟨rfl, rfl, rfl, by decide +kernel, rfl, by decide +kernel, by decide +kernel⟩
  refine ⟨f, fd, fn_tr (k := 1) F sc (fun cdv A outer s H E hr => ?_), gl, F.kp, F.bindsN fun _ _ _ _ _ _ us hl => match us, hl with | [_, _], _ => rfl⟩
  have tk : Takes (cxOf (L2.CX P w) P w K mg base ["top", "bottom", "divisor"] "made" sc_made f cdv A outer s H E) (wOf E) := takes_of rfl rfl rfl rfl
  exact (trs_cons (tr_ifs (trb_cmp op_lt sem_lt (tr_var 1) tr_int (nomark _)) (trs_one (tr_par (ps_par rfl sc.nd rfl rfl (by decide) rfl rfl (tra_cons (tr_op op_sub sem_sub tr_int (tr_var 0)) (tra_cons (tr_op op_sub sem_sub tr_int (tr_var 1)) tra_nil)) (by rfl)))) trs_nil) (trs_cons (tr_set (i := 2) sc.nd rfl (.inl rfl) (tr_callF h_common (hr.mono (by decide)) tk rfl (tra_cons (tr_var 0) (tra_cons (tr_var 1) tra_nil)))) (trs_one (tr_ret (tr_tup (tra_cons (tr_op op_fdivW sem_fdiv (tr_var 0) (tr_var 2)) (tra_cons (tr_op op_fdivW sem_fdiv (tr_var 1) (tr_var 2)) tra_nil)))))))
theorem ok_is_fraction {f : Addr} {fd : FuncData} (F : FnP K "is_fraction" (top 9) sc_is_fraction f fd) (gl : mg "is_fraction" = some (.ref f)) (m_isinstance : mg "isinstance" = none) (m_tuple : mg "tuple" = none) (m_len : mg "len" = none) (m_all : mg "all" = none) (h_is_integer : FnIs P w K mg base 1 "is_integer" ["thing"] F_is_integer) (h_common : FnIs P w K mg base 1 "common" ["one", "other"] F_common) : FnIs P w K mg base 2 "is_fraction" ["thing"] F_is_fraction := by
  have sc : FnScope ["thing", "one"] ["thing"] sc_is_fraction := ⟨rfl, rfl, rfl, by decide +kernel, rfl, by decide +kernel, by decide +kernel⟩
  refine ⟨f, fd, fn_tr (k := 1) F sc (fun cdv A outer s H E hr => ?_), gl, F.kp, F.bindsN fun _ _ _ _ _ _ us hl => match us, hl with | [_], _ => rfl⟩
  have tk : Takes (cxOf (L2.CX P w) P w K mg base ["thing", "one"] "is_fraction" sc_is_fraction f cdv A outer s H E) (wOf E) := takes_of rfl rfl rfl rfl
  exact (trs_cons (tr_ifs (TrW.toB (trw_or (trb_not (trb_tru (tr_isi isi_tuple rfl m_isinstance rfl m_tuple boot_ty_tuple (tr_var 0)))) (trw_or (trb_cmp (op_neD hr.units) sem_ne (tr_callB call_len sem_len rfl m_len bo_len (tra_cons (tr_var 0) tra_nil)) tr_int (nomark _)) (trw_or1 (trb_not (trb_tru (tr_callB (cr_all rfl) sem_all rfl m_all bo_all (tra_cons (tr_lc (own := [("one", 1)]) rfl sc.nd (tri_tup (tr_var 0)) (blkOk_by (N := ["thing", "one"]) (sc := sc_is_fraction) (by decide +kernel)) (by decide) (fun _ _ _ _ _ => (trg_name sc.nd rfl (by first | exact .inl rfl | exact .inr rfl))) (fun _ _ _ _ _ => trt_nil) (fun _ _ _ _ _ => (tr_callF h_is_integer (hr.mono (by decide)) takes0 rfl (tra_cons (tr_var 1) tra_nil)))) tra_nil)))))))) (trs_one (tr_ret tr_bl)) trs_nil) (trs_one (tr_ret (tr_and (tr_cmp op_ge sem_ge (tr_ix ix_seq sem_ix (tr_var 0) tr_int) tr_int (nomark _)) (tr_one (tr_cmp (op_eqD hr.units) sem_eq (tr_callF h_common (hr.mono (by decide)) tk rfl (tra_cons (tr_ix ix_seq sem_ix (tr_var 0) tr_int) (tra_cons (tr_ix ix_seq sem_ix (tr_var 0) tr_int) tra_nil))) tr_int (nomark _)))))))
theorem ok_add {f : Addr} {fd : FuncData} (F : FnP K "add" (top 10) sc_add f fd) (gl : mg "add" = some (.ref f)) (h_made : FnIs P w K mg base 2 "made" ["top", "bottom"] F_made) : FnIs P w K mg base 3 "add" ["one", "other"] F_add := by
  have sc : FnScope ["one", "other"] ["one", "other"] sc_add := ⟨rfl, rfl, rfl, by decide +kernel, rfl, by decide +kernel, by decide +kernel⟩
  refine ⟨f, fd, fn_tr (k := 2) F sc (fun cdv A outer s H E hr => ?_), gl, F.kp, F.bindsN fun _ _ _ _ _ _ us hl => match us, hl with | [_, _], _ => rfl⟩
  have tk : Takes (cxOf (L2.CX P w) P w K mg base ["one", "other"] "add" sc_add f cdv A outer s H E) (wOf E) := takes_of rfl rfl rfl rfl
  exact (trs_one (tr_ret (tr_callF h_made (hr.mono (by decide)) tk rfl (tra_cons (tr_op op_addW sem_add (tr_op op_mulW sem_mul (tr_ix ix_seq sem_ix (tr_var 0) tr_int) (tr_ix ix_seq sem_ix (tr_var 1) tr_int)) (tr_op op_mulW sem_mul (tr_ix ix_seq sem_ix (tr_var 1) tr_int) (tr_ix ix_seq sem_ix (tr_var 0) tr_int))) (tra_cons (tr_op op_mulW sem_mul (tr_ix ix_seq sem_ix (tr_var 0) tr_int) (tr_ix ix_seq sem_ix (tr_var 1) tr_int)) tra_nil)))))
theorem ok_sub {f : Addr} {fd : FuncData} (F : FnP K "sub" (top 11) sc_sub f fd) (gl : mg "sub" = some (.ref f)) (h_made : FnIs P w K mg base 2 "made" ["top", "bottom"] F_made) : FnIs P w K mg base 3 "sub" ["one", "other"] F_sub := by
  have sc : FnScope ["one", "other"] ["one", "other"] sc_sub := ⟨rfl, rfl, rfl, by decide +kernel, rfl, by decide +kernel, by decide +kernel⟩
  refine ⟨f, fd, fn_tr (k := 2) F sc (fun cdv A outer s H E hr => ?_), gl, F.kp, F.bindsN fun _ _ _ _ _ _ us hl => match us, hl with | [_, _], _ => rfl⟩
  have tk : Takes (cxOf (L2.CX P w) P w K mg base ["one", "other"] "sub" sc_sub f cdv A outer s H E) (wOf E) := takes_of rfl rfl rfl rfl
  exact (trs_one (tr_ret (tr_callF h_made (hr.mono (by decide)) tk rfl (tra_cons (tr_op op_sub sem_sub (tr_op op_mulW sem_mul (tr_ix ix_seq sem_ix (tr_var 0) tr_int) (tr_ix ix_seq sem_ix (tr_var 1) tr_int)) (tr_op op_mulW sem_mul (tr_ix ix_seq sem_ix (tr_var 1) tr_int) (tr_ix ix_seq sem_ix (tr_var 0) tr_int))) (tra_cons (tr_op op_mulW sem_mul (tr_ix ix_seq sem_ix (tr_var 0) tr_int) (tr_ix ix_seq sem_ix (tr_var 1) tr_int)) tra_nil)))))
theorem ok_mul {f : Addr} {fd : FuncData} (F : FnP K "mul" (top 12) sc_mul f fd) (gl : mg "mul" = some (.ref f)) (h_made : FnIs P w K mg base 2 "made" ["top", "bottom"] F_made) : FnIs P w K mg base 3 "mul" ["one", "other"] F_mul := by
  have sc : FnScope ["one", "other"] ["one", "other"] sc_mul := ⟨rfl, rfl, rfl, by decide +kernel, rfl, by decide +kernel, by decide +kernel⟩
  refine ⟨f, fd, fn_tr (k := 2) F sc (fun cdv A outer s H E hr => ?_), gl, F.kp, F.bindsN fun _ _ _ _ _ _ us hl => match us, hl with | [_, _], _ => rfl⟩
  have tk : Takes (cxOf (L2.CX P w) P w K mg base ["one", "other"] "mul" sc_mul f cdv A outer s H E) (wOf E) := takes_of rfl rfl rfl rfl
  exact (trs_one (tr_ret (tr_callF h_made (hr.mono (by decide)) tk rfl (tra_cons (tr_op op_mulW sem_mul (tr_ix ix_seq sem_ix (tr_var 0) tr_int) (tr_ix ix_seq sem_ix (tr_var 1) tr_int)) (tra_cons (tr_op op_mulW sem_mul (tr_ix ix_seq sem_ix (tr_var 0) tr_int) (tr_ix ix_seq sem_ix (tr_var 1) tr_int)) tra_nil)))))
theorem ok_div {f : Addr} {fd : FuncData} (F : FnP K "div" (top 13) sc_div f fd) (gl : mg "div" = some (.ref f)) (h_made : FnIs P w K mg base 2 "made" ["top", "bottom"] F_made) : FnIs P w K mg base 3 "div" ["one", "other"] F_div := by
  have sc : FnScope ["one", "other"] ["one", "other"] sc_div := ⟨rfl, rfl, rfl, by decide +kernel, rfl, by decide +kernel, by decide +kernel⟩
  refine ⟨f, fd, fn_tr (k := 2) F sc (fun cdv A outer s H E hr => ?_), gl, F.kp, F.bindsN fun _ _ _ _ _ _ us hl => match us, hl with | [_, _], _ => rfl⟩
  have tk : Takes (cxOf (L2.CX P w) P w K mg base ["one", "other"] "div" sc_div f cdv A outer s H E) (wOf E) := takes_of rfl rfl rfl rfl
  exact (trs_one (tr_ret (tr_callF h_made (hr.mono (by decide)) tk rfl (tra_cons (tr_op op_mulW sem_mul (tr_ix ix_seq sem_ix (tr_var 0) tr_int) (tr_ix ix_seq sem_ix (tr_var 1) tr_int)) (tra_cons (tr_op op_mulW sem_mul (tr_ix ix_seq sem_ix (tr_var 0) tr_int) (tr_ix ix_seq sem_ix (tr_var 1) tr_int)) tra_nil)))))
theorem ok_is_under {f : Addr} {fd : FuncData} (F : FnP K "is_under" (top 14) sc_is_under f fd) (gl : mg "is_under" = some (.ref f))  : FnIs P w K mg base 1 "is_under" ["one", "other"] F_is_under := by
  have sc : FnScope ["one", "other"] ["one", "other"] sc_is_under := ⟨rfl, rfl, rfl, by decide +kernel, rfl, by decide +kernel, by decide +kernel⟩
  refine ⟨f, fd, fn_tr (k := 0) F sc (fun cdv A outer s H E hr => ?_), gl, F.kp, F.bindsN fun _ _ _ _ _ _ us hl => match us, hl with | [_, _], _ => rfl⟩
  have tk : Takes (cxOf (L2.CX P w) P w K mg base ["one", "other"] "is_under" sc_is_under f cdv A outer s H E) (wOf E) := takes_of rfl rfl rfl rfl
  exact (trs_one (tr_ret (tr_cmp op_lt sem_lt (tr_op op_mulW sem_mul (tr_ix ix_seq sem_ix (tr_var 0) tr_int) (tr_ix ix_seq sem_ix (tr_var 1) tr_int)) (tr_op op_mulW sem_mul (tr_ix ix_seq sem_ix (tr_var 1) tr_int) (tr_ix ix_seq sem_ix (tr_var 0) tr_int)) (nomark _))))
theorem ok_need_fraction {f : Addr} {fd : FuncData} (F : FnP K "need_fraction" (top 15) sc_need_fraction f fd) (gl : mg "need_fraction" = some (.ref f)) (h_is_fraction : FnIs P w K mg base 2 "is_fraction" ["thing"] F_is_fraction) : FnIs P w K mg base 3 "need_fraction" ["thing"] F_need_fraction := by
  have sc : FnScope ["thing"] ["thing"] sc_need_fraction := ⟨rfl, rfl, rfl, by decide +kernel, rfl, by decide +kernel, by decide +kernel⟩
  refine ⟨f, fd, fn_tr (k := 2) F sc (fun cdv A outer s H E hr => ?_), gl, F.kp, F.bindsN fun _ _ _ _ _ _ us hl => match us, hl with | [_], _ => rfl⟩
  have tk : Takes (cxOf (L2.CX P w) P w K mg base ["thing"] "need_fraction" sc_need_fraction f cdv A outer s H E) (wOf E) := takes_of rfl rfl rfl rfl
  exact (trs_cons (tr_ifs (trb_not (trb_tru (tr_callF h_is_fraction (hr.mono (by decide)) tk rfl (tra_cons (tr_var 0) tra_nil)))) (trs_one tr_never) trs_nil) (trs_one (tr_ret (tr_var 0))))
theorem ok_ratio {f : Addr} {fd : FuncData} (F : FnP K "ratio" (top 16) sc_ratio f fd) (gl : mg "ratio" = some (.ref f)) (h_is_integer : FnIs P w K mg base 1 "is_integer" ["thing"] F_is_integer) (h_made : FnIs P w K mg base 2 "made" ["top", "bottom"] F_made) : FnIs P w K mg base 3 "ratio" ["top", "bottom"] F_ratio := by
  have sc : FnScope ["top", "bottom"] ["top", "bottom"] sc_ratio := ⟨rfl, rfl, rfl, by decide +kernel, rfl, by decide +kernel, by decide +kernel⟩
  refine ⟨f, fd, fn_tr (k := 2) F sc (fun cdv A outer s H E hr => ?_), gl, F.kp, F.bindsN fun _ _ _ _ _ _ us hl => match us, hl with | [_, _], _ => rfl⟩
  have tk : Takes (cxOf (L2.CX P w) P w K mg base ["top", "bottom"] "ratio" sc_ratio f cdv A outer s H E) (wOf E) := takes_of rfl rfl rfl rfl
  exact (trs_cons (tr_ifs (trb_not (trb_tru (tr_callF h_is_integer (hr.mono (by decide)) tk rfl (tra_cons (tr_var 0) tra_nil)))) (trs_one tr_never) trs_nil) (trs_cons (tr_ifs (TrW.toB (trw_or (trb_not (trb_tru (tr_callF h_is_integer (hr.mono (by decide)) tk rfl (tra_cons (tr_var 1) tra_nil)))) (trw_or1 (trb_cmp (op_eqD hr.units) sem_eq (tr_var 1) tr_int (nomark _))))) (trs_one tr_never) trs_nil) (trs_one (tr_ret (tr_callF h_made (hr.mono (by decide)) tk rfl (tra_cons (tr_var 0) (tra_cons (tr_var 1) tra_nil)))))))
theorem ok_plus {f : Addr} {fd : FuncData} (F : FnP K "plus" (top 17) sc_plus f fd) (gl : mg "plus" = some (.ref f)) (h_add : FnIs P w K mg base 3 "add" ["one", "other"] F_add) (h_need_fraction : FnIs P w K mg base 3 "need_fraction" ["thing"] F_need_fraction) : FnIs P w K mg base 4 "plus" ["one", "other"] F_plus := by
  have sc : FnScope ["one", "other"] ["one", "other"] sc_plus := ⟨rfl, rfl, rfl, by decide +kernel, rfl, by decide +kernel, by decide +kernel⟩
  refine ⟨f, fd, fn_tr (k := 3) F sc (fun cdv A outer s H E hr => ?_), gl, F.kp, F.bindsN fun _ _ _ _ _ _ us hl => match us, hl with | [_, _], _ => rfl⟩
  have tk : Takes (cxOf (L2.CX P w) P w K mg base ["one", "other"] "plus" sc_plus f cdv A outer s H E) (wOf E) := takes_of rfl rfl rfl rfl
  exact (trs_one (tr_ret (tr_callF h_add (hr.mono (by decide)) tk rfl (tra_cons (tr_callF h_need_fraction (hr.mono (by decide)) tk rfl (tra_cons (tr_var 0) tra_nil)) (tra_cons (tr_callF h_need_fraction (hr.mono (by decide)) tk rfl (tra_cons (tr_var 1) tra_nil)) tra_nil)))))
theorem ok_less {f : Addr} {fd : FuncData} (F : FnP K "less" (top 18) sc_less f fd) (gl : mg "less" = some (.ref f)) (h_sub : FnIs P w K mg base 3 "sub" ["one", "other"] F_sub) (h_need_fraction : FnIs P w K mg base 3 "need_fraction" ["thing"] F_need_fraction) : FnIs P w K mg base 4 "less" ["one", "other"] F_less := by
  have sc : FnScope ["one", "other"] ["one", "other"] sc_less := ⟨rfl, rfl, rfl, by decide +kernel, rfl, by decide +kernel, by decide +kernel⟩
  refine ⟨f, fd, fn_tr (k := 3) F sc (fun cdv A outer s H E hr => ?_), gl, F.kp, F.bindsN fun _ _ _ _ _ _ us hl => match us, hl with | [_, _], _ => rfl⟩
  have tk : Takes (cxOf (L2.CX P w) P w K mg base ["one", "other"] "less" sc_less f cdv A outer s H E) (wOf E) := takes_of rfl rfl rfl rfl
  exact (trs_one (tr_ret (tr_callF h_sub (hr.mono (by decide)) tk rfl (tra_cons (tr_callF h_need_fraction (hr.mono (by decide)) tk rfl (tra_cons (tr_var 0) tra_nil)) (tra_cons (tr_callF h_need_fraction (hr.mono (by decide)) tk rfl (tra_cons (tr_var 1) tra_nil)) tra_nil)))))
theorem ok_times {f : Addr} {fd : FuncData} (F : FnP K "times" (top 19) sc_times f fd) (gl : mg "times" = some (.ref f)) (h_mul : FnIs P w K mg base 3 "mul" ["one", "other"] F_mul) (h_need_fraction : FnIs P w K mg base 3 "need_fraction" ["thing"] F_need_fraction) : FnIs P w K mg base 4 "times" ["one", "other"] F_times := by
  have sc : FnScope ["one", "other"] ["one", "other"] sc_times := ⟨rfl, rfl, rfl, by decide +kernel, rfl, by decide +kernel, by decide +kernel⟩
  refine ⟨f, fd, fn_tr (k := 3) F sc (fun cdv A outer s H E hr => ?_), gl, F.kp, F.bindsN fun _ _ _ _ _ _ us hl => match us, hl with | [_, _], _ => rfl⟩
  have tk : Takes (cxOf (L2.CX P w) P w K mg base ["one", "other"] "times" sc_times f cdv A outer s H E) (wOf E) := takes_of rfl rfl rfl rfl
  exact (trs_one (tr_ret (tr_callF h_mul (hr.mono (by decide)) tk rfl (tra_cons (tr_callF h_need_fraction (hr.mono (by decide)) tk rfl (tra_cons (tr_var 0) tra_nil)) (tra_cons (tr_callF h_need_fraction (hr.mono (by decide)) tk rfl (tra_cons (tr_var 1) tra_nil)) tra_nil)))))
theorem ok_over {f : Addr} {fd : FuncData} (F : FnP K "over" (top 20) sc_over f fd) (gl : mg "over" = some (.ref f)) (c_NOUGHT : CsIs K mg "NOUGHT" k_NOUGHT) (h_need_fraction : FnIs P w K mg base 3 "need_fraction" ["thing"] F_need_fraction) (h_div : FnIs P w K mg base 3 "div" ["one", "other"] F_div) : FnIs P w K mg base 4 "over" ["one", "other"] F_over := by
  have sc : FnScope ["one", "other"] ["one", "other"] sc_over := ⟨rfl, rfl, rfl, by decide +kernel, rfl, by decide +kernel, by decide +kernel⟩
  refine ⟨f, fd, fn_tr (k := 3) F sc (fun cdv A outer s H E hr => ?_), gl, F.kp, F.bindsN fun _ _ _ _ _ _ us hl => match us, hl with | [_, _], _ => rfl⟩
  have tk : Takes (cxOf (L2.CX P w) P w K mg base ["one", "other"] "over" sc_over f cdv A outer s H E) (wOf E) := takes_of rfl rfl rfl rfl
  exact (trs_cons (tr_expr (tr_callF h_need_fraction (hr.mono (by decide)) tk rfl (tra_cons (tr_var 0) tra_nil))) (trs_cons (tr_ifs (trb_cmp (op_eqD hr.units) sem_eq (tr_callF h_need_fraction (hr.mono (by decide)) tk rfl (tra_cons (tr_var 1) tra_nil)) (tr_cs c_NOUGHT rfl) (nomark _)) (trs_one tr_never) trs_nil) (trs_one (tr_ret (tr_callF h_div (hr.mono (by decide)) tk rfl (tra_cons (tr_var 0) (tra_cons (tr_var 1) tra_nil)))))))
theorem ok_is_less {f : Addr} {fd : FuncData} (F : FnP K "is_less" (top 21) sc_is_less f fd) (gl : mg "is_less" = some (.ref f)) (h_is_under : FnIs P w K mg base 1 "is_under" ["one", "other"] F_is_under) (h_need_fraction : FnIs P w K mg base 3 "need_fraction" ["thing"] F_need_fraction) : FnIs P w K mg base 4 "is_less" ["one", "other"] F_is_less := by
  have sc : FnScope ["one", "other"] ["one", "other"] sc_is_less := ⟨rfl, rfl, rfl, by decide +kernel, rfl, by decide +kernel, by decide +kernel⟩
  refine ⟨f, fd, fn_tr (k := 3) F sc (fun cdv A outer s H E hr => ?_), gl, F.kp, F.bindsN fun _ _ _ _ _ _ us hl => match us, hl with | [_, _], _ => rfl⟩
  have tk : Takes (cxOf (L2.CX P w) P w K mg base ["one", "other"] "is_less" sc_is_less f cdv A outer s H E) (wOf E) := takes_of rfl rfl rfl rfl
  exact (trs_one (tr_ret (tr_callF h_is_under (hr.mono (by decide)) tk rfl (tra_cons (tr_callF h_need_fraction (hr.mono (by decide)) tk rfl (tra_cons (tr_var 0) tra_nil)) (tra_cons (tr_callF h_need_fraction (hr.mono (by decide)) tk rfl (tra_cons (tr_var 1) tra_nil)) tra_nil)))))
theorem ok__law_mixed {f : Addr} {fd : FuncData} (F : FnP K "_law_mixed" (top 23) sc__law_mixed f fd) (gl : mg "_law_mixed" = some (.ref f)) (m_int : mg "int" = none) : FnIs P w K mg base 1 "_law_mixed" ["_law_cell", "_law_k"] F__law_mixed := by
  have sc : FnScope ["_law_cell", "_law_k"] ["_law_cell", "_law_k"] sc__law_mixed := ⟨rfl, rfl, rfl, by decide +kernel, rfl, by decide +kernel, by decide +kernel⟩
  refine ⟨f, fd, fn_tr (k := 0) F sc (fun cdv A outer s H E hr => ?_), gl, F.kp, F.bindsN fun _ _ _ _ _ _ us hl => match us, hl with | [_, _], _ => rfl⟩
  have tk : Takes (cxOf (L2.CX P w) P w K mg base ["_law_cell", "_law_k"] "_law_mixed" sc__law_mixed f cdv A outer s H E) (wOf E) := takes_of rfl rfl rfl rfl
  exact (trs_cons (tr_set (i := 0) sc.nd rfl (.inl rfl) (tr_op op_mod sem_mod (tr_callTy call_int1 sem_int1 rfl m_int bo_int (tra_cons (tr_var 0) tra_nil)) tr_int)) (trs_one (tr_ret (tr_op op_mod sem_mod (tr_op op_mulW sem_mul (tr_op op_mod sem_mod (tr_op op_addW sem_add (tr_op op_addW sem_add (tr_op op_mulW sem_mul (tr_var 0) (tr_op op_addW sem_add tr_int (tr_op op_mulW sem_mul (tr_op op_mulW sem_mul tr_int (tr_var 1)) (tr_var 1)))) (tr_op op_mulW sem_mul tr_int (tr_var 1))) tr_int) tr_int) tr_int) tr_int))))
/-- a call of _law_mixed, by its reading -/
theorem mix_sp {c : Cc} {d : Nat} {H : Hp} {x k : Int} {Q : VK} {E : XK} (wd : Wd c d H) (h0 : 0 ≤ k) (h1 : k ≤ 2 ^ 61) (h : ∀ H', Step c H H' → StOk c d H' → Q (.int (mixv x k)) H') : SpF K F__law_mixed [.int x, .int k] H Q E := by
  refine ⟨c, d, [.int x, .int k], wd, .cons (.int x) (.cons (.int k) .nil), ?_⟩
  rw [mix_run h0 h1]
  intro v H' st so r
  cases r
  exact h H' st so
theorem ok__law_begin {f : Addr} {fd : FuncData} (F : FnP K "_law_begin" (top 24) sc__law_begin f fd) (m_list : mg "list" = none) : FnOk P w K mg base (L2.CX P w) 1 f fd ["_law_script"] (spBegin K) := by
  have sc : FnScope ["_law_script", "_law_cells", "_law_cell"] ["_law_script"] sc__law_begin := ⟨rfl, rfl, rfl, by decide +kernel, rfl, by decide +kernel, by decide +kernel⟩
  refine F.ok (k := 0) sc (fun vs H Q E h => ?_) (fun cdv A outer s H vs Q E hr h => ?_)
  · obtain ⟨a, ns, rfl, _⟩ := h
    rfl
  refine ⟨_, pss_cons (ps_set (i := 1) sc.nd rfl (.inl rfl) (pe_ifExp (pt_cmpR (op_neD hr.units) (pv 0) (pe_lst pa_nil) (nomark _)) (pe_callTy call_list_of rfl m_list bo_list (pa_cons (pv 0) pa_nil)) (pe_lst (pa_cons pe_int pa_nil))))
    (pss_one (ps_ret (pe_disp (pps_cons pe_str (pv 1) (pps_cons pe_str (pe_lc (own := [("_law_cell", 2)]) (g := gName 2) (tt := tYes) rfl sc.nd (pi_list (pv 1)) (blkOk_by (N := ["_law_script", "_law_cells", "_law_cell"]) (sc := sc__law_begin) (by decide +kernel))
        (fun _ _ _ _ _ => pg_name (i := 2) sc.nd rfl (.inl rfl)) (fun _ _ _ _ _ => pts_nil) (fun _ _ _ _ _ => pe_ifExp (pt_cmpR op_ge (pv 2) (pe_op op_pow pe_int pe_int) (nomark _)) (pv 2) pe_int))
      (pps_cons pe_str pe_int (pps_cons pe_str pe_int pps_nil)))) (by rfl) (by rfl) (fun z => by cases z) (by decide)))), ?_⟩
  obtain ⟨a, ns, rfl, hS, hz, q⟩ := h
  exact begin_read hS hz q
theorem ok__law_draw {f : Addr} {fd : FuncData} (F : FnP K "_law_draw" (top 25) sc__law_draw f fd) (gl : mg "_law_draw" = some (.ref f)) (m_int : mg "int" = none) (m_len : mg "len" = none) (h__law_mixed : FnIs P w K mg base 1 "_law_mixed" ["_law_cell", "_law_k"] F__law_mixed) : FnIs P w K mg base 2 "_law_draw" ["_law_state", "_law_many"] F__law_draw := by
  have sc : FnScope ["_law_state", "_law_many", "_law_at", "_law_place", "_law_left", "_law_number"] ["_law_state", "_law_many"] sc__law_draw := ⟨rfl, rfl, rfl, by decide +kernel, rfl, by decide +kernel, by decide +kernel⟩
  obtain ⟨fM, fdM, GM, gM, kM, bM⟩ := h__law_mixed
  refine ⟨f, fd, F.ok (k := 1) sc (SpF.len fun ws h => ?_) (fun cdv A outer s H vs Q E hr h => ?_), gl, F.kp, F.bindsN fun _ _ _ _ _ _ us hl => match us, hl with | [_, _], _ => rfl⟩
  · exact F_draw_bad fun n z => h (by rw [z]; rfl)
  have tk : Takes (cxOf (L2.CX P w) P w K mg base ["_law_state", "_law_many", "_law_at", "_law_place", "_law_left", "_law_number"] "_law_draw" sc__law_draw f cdv A outer s H E) (wOf E) := takes_of rfl rfl rfl rfl
  have hu := hu_of hr
  refine ⟨_, pss_cons (ps_set (i := 2) sc.nd rfl (.inl rfl) (pe_dget hu (pv 0) pe_str (fun _ _ => rfl)))
    (pss_cons (ps_dput hu (pv 0) pe_str (pe_op op_add (pv 2) pe_int) rfl)
    (pss_cons (ps_set (i := 3) sc.nd rfl (.inl rfl) (pe_op op_mod (pe_callTy call_int1 rfl m_int bo_int (pa_cons (pv 2) pa_nil)) (pe_callB call_len rfl m_len bo_len (pa_cons (pe_dget hu (pv 0) pe_str (fun _ _ => rfl)) pa_nil))))
    (pss_cons (ps_set (i := 4) sc.nd rfl (.inl rfl) (pe_ix ix_list (pe_dget hu (pv 0) pe_str (fun _ _ => rfl)) (pv 3) (fun _ _ => rfl)))
    (pss_cons (ps_if (pt_cmpR op_gt (pv 4) pe_int (nomark _))
      (pss_cons (ps_asg (pe_op op_fdivW (pv 4) (pv 1)) (pg_sub (pe_dget hu (pv 0) pe_str (fun _ _ => rfl)) (pv 3) set_list))
        (pss_one (ps_ret (pe_op op_mod (pe_callTy call_int1 rfl m_int bo_int (pa_cons (pv 4) pa_nil)) (pv 1))))) pss_nil)
    (pss_cons (ps_set (i := 5) sc.nd rfl (.inl rfl) (pe_callSD (E := fun σ => WE (wOf E) σ) GM hr rfl gM kM bM .nil (fun σ => passAt tk σ) (pa_cons (pe_callSD (E := fun σ => WE (wOf E) σ) GM hr rfl gM kM bM .nil (fun σ => passAt tk σ) (pa_cons (pe_ix ix_list (pe_dget hu (pv 0) pe_str (fun _ _ => rfl)) (pv 3) (fun _ _ => rfl)) (pa_cons (pv 2) pa_nil))) (pa_cons (pe_op op_add pe_int (pv 2)) pa_nil))))
    (pss_one (ps_ret (pe_op op_mod (pe_op op_fdiv (pe_callTy call_int1 rfl m_int bo_int (pa_cons (pe_op op_add (pe_op op_mulW (pv 5) pe_int) (pe_callSD (E := fun σ => WE (wOf E) σ) GM hr rfl gM kM bM .nil (fun σ => passAt tk σ) (pa_cons (pv 5) (pa_cons (pe_op op_add pe_int (pv 2)) pa_nil)))) pa_nil)) pe_int) (pv 1))))))))), ?_⟩
  obtain ⟨c, d, ws, wd, r, h⟩ := h
  by_cases hw : ∃ n, ws = [.stt, .int n]
  case neg =>
    rw [F_draw_bad fun n z => hw ⟨n, z⟩] at h
    exact h.elim
  obtain ⟨n, rfl⟩ := hw
  cases r with
  | cons r1 r2 =>
  cases r2 with
  | cons r2 r3 =>
  cases r3
  cases r2
  cases r1
  obtain ⟨⟨hn0, hn1⟩, e, rfl, hq⟩ := draw_all h
  obtain ⟨cells, lefts, k, rr, hS, hca, hla, hlen, hpos, hk0, hkb, hne⟩ := wd.st
  have nS : c.ca ≠ c.S := ne_of hca hS (by intro z; cases z)
  have nS2 : c.la ≠ c.S := ne_of hla hS (by intro z; cases z)
  -- at
  refine ⟨.ref c.S, rfl, c.S, .int k, rfl, DGet.st (x := .inr kAt) hS st_at, ?_⟩
  refine ⟨.int k, rfl, k, 1, rfl, rfl, .ref c.S, rfl, c.S, _, rfl, DPut.k (k := .inr kAt) hS (by show 4 < sizeLine; decide), ?_⟩
  generalize hH1 : upd H c.S _ = H1
  have hS1 : H1 c.S = some (.dK (stK c.ca c.la (k + 1) rr)) := by rw [← hH1, upd_same, st_put]
  have o1 : ∀ b, b ≠ c.S → H1 b = H b := fun b hb => by rw [← hH1, upd_ne hb]
  have hca1 : H1 c.ca = some (.lst (cells.map V.int)) := by rw [o1 _ nS]; exact hca
  have hla1 : H1 c.la = some (.lst (lefts.map V.int)) := by rw [o1 _ nS2]; exact hla
  have st1 : Step c H H1 := fun b o hb h1 h2 => by rw [o1 b h1]; exact hb
  have so1 : StOk c e H1 := StOk.drawn hk0 hkb hne hlen hpos hS1 hca1 hla1
  have wd1 : Wd c e H1 := wd.step st1 so1
  -- place
  refine ⟨.int k, rfl, .inl ⟨k, rfl, ?_⟩⟩
  refine ⟨.ref c.S, rfl, c.S, .ref c.ca, rfl, DGet.st (x := .inr kCells) hS1 st_cells, _, cells.length, rfl, .inl ⟨_, SqL.of hca1, by rw [List.length_map]⟩, k, _, rfl, rfl, by omega, ?_⟩
  have p0 : 0 ≤ k % (cells.length : Int) := Int.emod_nonneg _ (by omega)
  have p1 : k % (cells.length : Int) < cells.length := Int.emod_lt_of_pos _ (by omega)
  obtain ⟨j, hpj⟩ : ∃ j : Nat, k % (cells.length : Int) = j := ⟨(k % (cells.length : Int)).toNat, by omega⟩
  have hj : j < cells.length := by omega
  have hjl : j < lefts.length := by omega
  -- left
  refine ⟨.ref c.S, rfl, c.S, .ref c.la, rfl, DGet.st (x := .inr kLefts) hS1 st_lefts, .int (k % (cells.length : Int)), rfl, c.la, _, k % (cells.length : Int), .int lefts[j], rfl, rfl, SqL.of hla1, (by rw [hpj]; exact atI_nat (by rw [List.getElem?_map, List.getElem?_eq_getElem hjl]; rfl)), ?_⟩
  refine ⟨.int lefts[j], rfl, lefts[j], 0, rfl, rfl, _, rfl, ite2 (fun hl => ?_) (fun hl => ?_)⟩
  · -- by the digits
    refine ⟨.int lefts[j], rfl, .int n, rfl, lefts[j], n, rfl, rfl, ⟨hn0, hn1⟩, ?_⟩
    refine ⟨.ref c.S, rfl, c.S, .ref c.la, rfl, DGet.st (x := .inr kLefts) hS1 st_lefts, .int (k % (cells.length : Int)), rfl, c.la, _, k % (cells.length : Int), j, rfl, rfl, hla1, ?_, ?_⟩
    · unfold ixN
      rw [if_pos p0, if_pos (by rw [List.length_map]; omega), hpj]
      rfl
    refine ⟨.int lefts[j], rfl, .inl ⟨lefts[j], rfl, .int n, rfl, lefts[j], n, rfl, rfl, hn0, ?_⟩⟩
    refine hq _ _ (Int.emod_nonneg _ (by omega)) (Int.emod_lt_of_pos _ hn0) (fun b o hb h1 h2 => ?_) (StOk.drawn (r := rr) (lefts' := lefts.set j (lefts[j] / n)) hk0 hkb hne (by rw [List.length_set]; exact hlen) hpos ?_ ?_ ?_)
    · rw [upd_ne h2]
      exact st1 b o hb h1 h2
    · rw [upd_ne (Ne.symm nS2)]
      exact hS1
    · rw [upd_ne hne]
      exact hca1
    · rw [upd_same, List.map_set]
  · -- mixed
    refine ⟨.ref c.S, rfl, c.S, .ref c.ca, rfl, DGet.st (x := .inr kCells) hS1 st_cells, .int (k % (cells.length : Int)), rfl, c.ca, _, k % (cells.length : Int), .int cells[j], rfl, rfl, SqL.of hca1, (by rw [hpj]; exact atI_nat (by rw [List.getElem?_map, List.getElem?_eq_getElem hj]; rfl)), ?_⟩
    refine ⟨.int k, rfl, mix_sp wd1 hk0 (by omega) fun H2 st2 so2 => ?_⟩
    have wd2 := wd1.step st2 so2
    refine ⟨.int k, rfl, 40, k, rfl, rfl, mix_sp wd2 (by omega) (by omega) fun H3 st3 so3 => ?_⟩
    have wd3 := wd2.step st3 so3
    refine ⟨_, rfl, _, 2147483647, rfl, rfl, wide_mul (a := 32) (b := 32) ?_ (by decide) (by decide) (by decide) (by decide), ?_⟩
    · have := mixv_lt (mixv cells[j] k) (40 + k)
      omega
    refine ⟨_, rfl, .int k, rfl, 7, k, rfl, rfl, mix_sp wd3 (by omega) (by omega) fun H4 st4 so4 => ?_⟩
    refine ⟨_, _, rfl, rfl, .inl ⟨_, rfl, _, 64, rfl, rfl, ⟨by decide, by decide⟩, .int n, rfl, _, n, rfl, rfl, hn0, ?_⟩⟩
    exact hq _ _ (Int.emod_nonneg _ (by omega)) (Int.emod_lt_of_pos _ hn0) (st1.trans (st2.trans (st3.trans st4))) so4
theorem ok__law_ratio {f : Addr} {fd : FuncData} (F : FnP K "_law_ratio" (top 26) sc__law_ratio f fd) (gl : mg "_law_ratio" = some (.ref f)) (m_abs : mg "abs" = none) (m_int : mg "int" = none) : FnIs P w K mg base 1 "_law_ratio" ["_law_top", "_law_bottom"] F__law_ratio := by
  have sc : FnScope ["_law_top", "_law_bottom", "_law_one", "_law_other"] ["_law_top", "_law_bottom"] sc__law_ratio := ⟨rfl, rfl, rfl, by decide +kernel, rfl, by decide +kernel, by decide +kernel⟩
  refine ⟨f, fd, fn_tr (k := 0) F sc (fun cdv A outer s H E hr => ?_), gl, F.kp, F.bindsN fun _ _ _ _ _ _ us hl => match us, hl with | [_, _], _ => rfl⟩
  have tk : Takes (cxOf (L2.CX P w) P w K mg base ["_law_top", "_law_bottom", "_law_one", "_law_other"] "_law_ratio" sc__law_ratio f cdv A outer s H E) (wOf E) := takes_of rfl rfl rfl rfl
  exact (trs_cons (tr_par (ps_par rfl sc.nd rfl rfl (by decide) rfl rfl (tra_cons (tr_callB call_abs sem_abs rfl m_abs bo_abs (tra_cons (tr_var 0) tra_nil)) (tra_cons (tr_var 1) tra_nil)) (by rfl))) (trs_cons (tr_while (fun ρ => wInt 3 ρ + 1) (passes_of rfl) (trb_cmp (op_neD hr.units) sem_ne (tr_var 3) tr_int (nomark _)) (trs_one (tr_par (ps_par rfl sc.nd rfl rfl (by decide) rfl rfl (tra_cons (tr_var 3) (tra_cons (tr_op op_mod sem_mod (tr_callTy call_int1 sem_int1 rfl m_int bo_int (tra_cons (tr_var 2) tra_nil)) (tr_var 3)) tra_nil)) (by rfl))))) (trs_one (tr_ret (tr_tup (tra_cons (tr_op op_fdivW sem_fdiv (tr_var 0) (tr_var 2)) (tra_cons (tr_op op_fdivW sem_fdiv (tr_var 1) (tr_var 2)) tra_nil)))))))
theorem ok__law_plus {f : Addr} {fd : FuncData} (F : FnP K "_law_plus" (top 27) sc__law_plus f fd) (gl : mg "_law_plus" = some (.ref f)) (h__law_ratio : FnIs P w K mg base 1 "_law_ratio" ["_law_top", "_law_bottom"] F__law_ratio) : FnIs P w K mg base 2 "_law_plus" ["_law_one", "_law_other"] F__law_plus := by
  have sc : FnScope ["_law_one", "_law_other"] ["_law_one", "_law_other"] sc__law_plus := ⟨rfl, rfl, rfl, by decide +kernel, rfl, by decide +kernel, by decide +kernel⟩
  refine ⟨f, fd, fn_tr (k := 1) F sc (fun cdv A outer s H E hr => ?_), gl, F.kp, F.bindsN fun _ _ _ _ _ _ us hl => match us, hl with | [_, _], _ => rfl⟩
  have tk : Takes (cxOf (L2.CX P w) P w K mg base ["_law_one", "_law_other"] "_law_plus" sc__law_plus f cdv A outer s H E) (wOf E) := takes_of rfl rfl rfl rfl
  exact (trs_one (tr_ret (tr_callF h__law_ratio (hr.mono (by decide)) tk rfl (tra_cons (tr_op op_addW sem_add (tr_op op_mulW sem_mul (tr_ix ix_seq sem_ix (tr_var 0) tr_int) (tr_ix ix_seq sem_ix (tr_var 1) tr_int)) (tr_op op_mulW sem_mul (tr_ix ix_seq sem_ix (tr_var 1) tr_int) (tr_ix ix_seq sem_ix (tr_var 0) tr_int))) (tra_cons (tr_op op_mulW sem_mul (tr_ix ix_seq sem_ix (tr_var 0) tr_int) (tr_ix ix_seq sem_ix (tr_var 1) tr_int)) tra_nil)))))
theorem ok__law_less {f : Addr} {fd : FuncData} (F : FnP K "_law_less" (top 28) sc__law_less f fd) (gl : mg "_law_less" = some (.ref f)) (h__law_ratio : FnIs P w K mg base 1 "_law_ratio" ["_law_top", "_law_bottom"] F__law_ratio) : FnIs P w K mg base 2 "_law_less" ["_law_one", "_law_other"] F__law_less := by
  have sc : FnScope ["_law_one", "_law_other"] ["_law_one", "_law_other"] sc__law_less := ⟨rfl, rfl, rfl, by decide +kernel, rfl, by decide +kernel, by decide +kernel⟩
  refine ⟨f, fd, fn_tr (k := 1) F sc (fun cdv A outer s H E hr => ?_), gl, F.kp, F.bindsN fun _ _ _ _ _ _ us hl => match us, hl with | [_, _], _ => rfl⟩
  have tk : Takes (cxOf (L2.CX P w) P w K mg base ["_law_one", "_law_other"] "_law_less" sc__law_less f cdv A outer s H E) (wOf E) := takes_of rfl rfl rfl rfl
  exact (trs_one (tr_ret (tr_callF h__law_ratio (hr.mono (by decide)) tk rfl (tra_cons (tr_op op_sub sem_sub (tr_op op_mulW sem_mul (tr_ix ix_seq sem_ix (tr_var 0) tr_int) (tr_ix ix_seq sem_ix (tr_var 1) tr_int)) (tr_op op_mulW sem_mul (tr_ix ix_seq sem_ix (tr_var 1) tr_int) (tr_ix ix_seq sem_ix (tr_var 0) tr_int))) (tra_cons (tr_op op_mulW sem_mul (tr_ix ix_seq sem_ix (tr_var 0) tr_int) (tr_ix ix_seq sem_ix (tr_var 1) tr_int)) tra_nil)))))
theorem ok__law_times {f : Addr} {fd : FuncData} (F : FnP K "_law_times" (top 29) sc__law_times f fd) (gl : mg "_law_times" = some (.ref f)) (h__law_ratio : FnIs P w K mg base 1 "_law_ratio" ["_law_top", "_law_bottom"] F__law_ratio) : FnIs P w K mg base 2 "_law_times" ["_law_one", "_law_other"] F__law_times := by
  have sc : FnScope ["_law_one", "_law_other"] ["_law_one", "_law_other"] sc__law_times := ⟨rfl, rfl, rfl, by decide +kernel, rfl, by decide +kernel, by decide +kernel⟩
  refine ⟨f, fd, fn_tr (k := 1) F sc (fun cdv A outer s H E hr => ?_), gl, F.kp, F.bindsN fun _ _ _ _ _ _ us hl => match us, hl with | [_, _], _ => rfl⟩
  have tk : Takes (cxOf (L2.CX P w) P w K mg base ["_law_one", "_law_other"] "_law_times" sc__law_times f cdv A outer s H E) (wOf E) := takes_of rfl rfl rfl rfl
  exact (trs_one (tr_ret (tr_callF h__law_ratio (hr.mono (by decide)) tk rfl (tra_cons (tr_op op_mulW sem_mul (tr_ix ix_seq sem_ix (tr_var 0) tr_int) (tr_ix ix_seq sem_ix (tr_var 1) tr_int)) (tra_cons (tr_op op_mulW sem_mul (tr_ix ix_seq sem_ix (tr_var 0) tr_int) (tr_ix ix_seq sem_ix (tr_var 1) tr_int)) tra_nil)))))
theorem ok__law_over {f : Addr} {fd : FuncData} (F : FnP K "_law_over" (top 30) sc__law_over f fd) (gl : mg "_law_over" = some (.ref f)) (h__law_ratio : FnIs P w K mg base 1 "_law_ratio" ["_law_top", "_law_bottom"] F__law_ratio) : FnIs P w K mg base 2 "_law_over" ["_law_one", "_law_other"] F__law_over := by
  have sc : FnScope ["_law_one", "_law_other"] ["_law_one", "_law_other"] sc__law_over := ⟨rfl, rfl, rfl, by decide +kernel, rfl, by decide +kernel, by decide +kernel⟩
  refine ⟨f, fd, fn_tr (k := 1) F sc (fun cdv A outer s H E hr => ?_), gl, F.kp, F.bindsN fun _ _ _ _ _ _ us hl => match us, hl with | [_, _], _ => rfl⟩
  have tk : Takes (cxOf (L2.CX P w) P w K mg base ["_law_one", "_law_other"] "_law_over" sc__law_over f cdv A outer s H E) (wOf E) := takes_of rfl rfl rfl rfl
  exact (trs_one (tr_ret (tr_callF h__law_ratio (hr.mono (by decide)) tk rfl (tra_cons (tr_op op_mulW sem_mul (tr_ix ix_seq sem_ix (tr_var 0) tr_int) (tr_ix ix_seq sem_ix (tr_var 1) tr_int)) (tra_cons (tr_op op_mulW sem_mul (tr_ix ix_seq sem_ix (tr_var 0) tr_int) (tr_ix ix_seq sem_ix (tr_var 1) tr_int)) tra_nil)))))
theorem ok__law_under {f : Addr} {fd : FuncData} (F : FnP K "_law_under" (top 31) sc__law_under f fd) (gl : mg "_law_under" = some (.ref f))  : FnIs P w K mg base 1 "_law_under" ["_law_one", "_law_other"] F__law_under := by
  have sc : FnScope ["_law_one", "_law_other"] ["_law_one", "_law_other"] sc__law_under := ⟨rfl, rfl, rfl, by decide +kernel, rfl, by decide +kernel, by decide +kernel⟩
  refine ⟨f, fd, fn_tr (k := 0) F sc (fun cdv A outer s H E hr => ?_), gl, F.kp, F.bindsN fun _ _ _ _ _ _ us hl => match us, hl with | [_, _], _ => rfl⟩
  have tk : Takes (cxOf (L2.CX P w) P w K mg base ["_law_one", "_law_other"] "_law_under" sc__law_under f cdv A outer s H E) (wOf E) := takes_of rfl rfl rfl rfl
  exact (trs_one (tr_ret (tr_cmp op_lt sem_lt (tr_op op_mulW sem_mul (tr_ix ix_seq sem_ix (tr_var 0) tr_int) (tr_ix ix_seq sem_ix (tr_var 1) tr_int)) (tr_op op_mulW sem_mul (tr_ix ix_seq sem_ix (tr_var 1) tr_int) (tr_ix ix_seq sem_ix (tr_var 0) tr_int)) (nomark _))))
theorem ok__law_sum {f : Addr} {fd : FuncData} (F : FnP K "_law_sum" (top 32) sc__law_sum f fd) (gl : mg "_law_sum" = some (.ref f)) (h__law_plus : FnIs P w K mg base 2 "_law_plus" ["_law_one", "_law_other"] F__law_plus) : FnIs P w K mg base 3 "_law_sum" ["_law_some"] F__law_sum := by
  have sc : FnScope ["_law_some", "_law_found", "_law_one"] ["_law_some"] sc__law_sum := ⟨rfl, rfl, rfl, by decide +kernel, rfl, by decide +kernel, by decide +kernel⟩
  refine ⟨f, fd, fn_tr (k := 2) F sc (fun cdv A outer s H E hr => ?_), gl, F.kp, F.bindsN fun _ _ _ _ _ _ us hl => match us, hl with | [_], _ => rfl⟩
  have tk : Takes (cxOf (L2.CX P w) P w K mg base ["_law_some", "_law_found", "_law_one"] "_law_sum" sc__law_sum f cdv A outer s H E) (wOf E) := takes_of rfl rfl rfl rfl
  exact (trs_cons (tr_set (i := 1) sc.nd rfl (.inl rfl) (tr_tup (tra_cons tr_int (tra_cons tr_int tra_nil)))) (trs_cons (tr_for (passes_of rfl) rfl (tri_tup (tr_var 0)) (trg_name sc.nd rfl (.inl rfl)) (trs_one (tr_set (i := 1) sc.nd rfl (.inl rfl) (tr_callF h__law_plus (hr.mono (by decide)) tk rfl (tra_cons (tr_var 1) (tra_cons (tr_var 2) tra_nil)))))) (trs_one (tr_ret (tr_var 1)))))
theorem ok__law_drawn {f : Addr} {fd : FuncData} (F : FnP K "_law_drawn" (top 33) sc__law_drawn f fd) (gl : mg "_law_drawn" = some (.ref f)) (h__law_draw : FnIs P w K mg base 2 "_law_draw" ["_law_state", "_law_many"] F__law_draw) (h__law_ratio : FnIs P w K mg base 1 "_law_ratio" ["_law_top", "_law_bottom"] F__law_ratio) : FnIs P w K mg base 3 "_law_drawn" ["_law_state"] F__law_drawn := by
  have sc : FnScope ["_law_state"] ["_law_state"] sc__law_drawn := ⟨rfl, rfl, rfl, by decide +kernel, rfl, by decide +kernel, by decide +kernel⟩
  refine ⟨f, fd, fn_tr (k := 2) F sc (fun cdv A outer s H E hr => ?_), gl, F.kp, F.bindsN fun _ _ _ _ _ _ us hl => match us, hl with | [_], _ => rfl⟩
  have tk : Takes (cxOf (L2.CX P w) P w K mg base ["_law_state"] "_law_drawn" sc__law_drawn f cdv A outer s H E) (wOf E) := takes_of rfl rfl rfl rfl
  exact (trs_cons (tr_ifs (trb_cmp op_gt sem_gt (tr_callF h__law_draw (hr.mono (by decide)) tk rfl (tra_cons (tr_var 0) (tra_cons tr_int tra_nil))) tr_int (nomark _)) (trs_one (tr_ret (tr_callF h__law_ratio (hr.mono (by decide)) tk rfl (tra_cons (tr_op op_sub sem_sub (tr_callF h__law_draw (hr.mono (by decide)) tk rfl (tra_cons (tr_var 0) (tra_cons tr_int tra_nil))) tr_int) (tra_cons (tr_op op_addW sem_add tr_int (tr_callF h__law_draw (hr.mono (by decide)) tk rfl (tra_cons (tr_var 0) (tra_cons tr_int tra_nil)))) tra_nil))))) trs_nil) (trs_one (tr_ret (tr_callF h__law_ratio (hr.mono (by decide)) tk rfl (tra_cons (tr_op op_sub sem_sub (tr_callF h__law_draw (hr.mono (by decide)) tk rfl (tra_cons (tr_var 0) (tra_cons (tr_op op_pow sem_pow tr_int tr_int) tra_nil))) (tr_op op_pow sem_pow tr_int tr_int)) (tra_cons (tr_op op_addW sem_add tr_int (tr_callF h__law_draw (hr.mono (by decide)) tk rfl (tra_cons (tr_var 0) (tra_cons (tr_op op_pow sem_pow tr_int tr_int) tra_nil)))) tra_nil))))))
theorem ok__law_pair_right {f : Addr} {fd : FuncData} (F : FnP K "_law_pair_right" (top 34) sc__law_pair_right f fd) (gl : mg "_law_pair_right" = some (.ref f)) (m_abs : mg "abs" = none) (h_need_fraction : FnIs P w K mg base 3 "need_fraction" ["thing"] F_need_fraction) (h_plus : FnIs P w K mg base 4 "plus" ["one", "other"] F_plus) (h__law_plus : FnIs P w K mg base 2 "_law_plus" ["_law_one", "_law_other"] F__law_plus) (h_less : FnIs P w K mg base 4 "less" ["one", "other"] F_less) (h__law_less : FnIs P w K mg base 2 "_law_less" ["_law_one", "_law_other"] F__law_less) (h_times : FnIs P w K mg base 4 "times" ["one", "other"] F_times) (h__law_times : FnIs P w K mg base 2 "_law_times" ["_law_one", "_law_other"] F__law_times) (h_is_less : FnIs P w K mg base 4 "is_less" ["one", "other"] F_is_less) (h__law_under : FnIs P w K mg base 1 "_law_under" ["_law_one", "_law_other"] F__law_under) (h__law_ratio : FnIs P w K mg base 1 "_law_ratio" ["_law_top", "_law_bottom"] F__law_ratio) (h_over : FnIs P w K mg base 4 "over" ["one", "other"] F_over) : FnIs P w K mg base 5 "_law_pair_right" ["_law_one", "_law_other"] F__law_pair_right := by
  have sc : FnScope ["_law_one", "_law_other", "_law_due"] ["_law_one", "_law_other"] sc__law_pair_right := ⟨rfl, rfl, rfl, by decide +kernel, rfl, by decide +kernel, by decide +kernel⟩
  refine ⟨f, fd, fn_tr (k := 4) F sc (fun cdv A outer s H E hr => ?_), gl, F.kp, F.bindsN fun _ _ _ _ _ _ us hl => match us, hl with | [_, _], _ => rfl⟩
  have tk : Takes (cxOf (L2.CX P w) P w K mg base ["_law_one", "_law_other", "_law_due"] "_law_pair_right" sc__law_pair_right f cdv A outer s H E) (wOf E) := takes_of rfl rfl rfl rfl
  exact (trs_cons (tr_ifs (TrW.toB (trw_or (trb_cmp (op_neD hr.units) sem_ne (tr_callF h_need_fraction (hr.mono (by decide)) tk rfl (tra_cons (tr_var 0) tra_nil)) (tr_var 0) (nomark _)) (trw_or (trb_cmp (op_neD hr.units) sem_ne (tr_callF h_plus (hr.mono (by decide)) tk rfl (tra_cons (tr_var 0) (tra_cons (tr_var 1) tra_nil))) (tr_callF h__law_plus (hr.mono (by decide)) tk rfl (tra_cons (tr_var 0) (tra_cons (tr_var 1) tra_nil))) (nomark _)) (trw_or1 (trb_cmp (op_neD hr.units) sem_ne (tr_callF h_plus (hr.mono (by decide)) tk rfl (tra_cons (tr_var 0) (tra_cons (tr_var 1) tra_nil))) (tr_callF h_plus (hr.mono (by decide)) tk rfl (tra_cons (tr_var 1) (tra_cons (tr_var 0) tra_nil))) (nomark _)))))) (trs_one (tr_ret tr_bl)) trs_nil) (trs_cons (tr_ifs (TrW.toB (trw_or (trb_cmp (op_neD hr.units) sem_ne (tr_callF h_less (hr.mono (by decide)) tk rfl (tra_cons (tr_var 0) (tra_cons (tr_var 1) tra_nil))) (tr_callF h__law_less (hr.mono (by decide)) tk rfl (tra_cons (tr_var 0) (tra_cons (tr_var 1) tra_nil))) (nomark _)) (trw_or1 (trb_cmp (op_neD hr.units) sem_ne (tr_callF h_less (hr.mono (by decide)) tk rfl (tra_cons (tr_callF h_plus (hr.mono (by decide)) tk rfl (tra_cons (tr_var 0) (tra_cons (tr_var 1) tra_nil))) (tra_cons (tr_var 1) tra_nil))) (tr_var 0) (nomark _))))) (trs_one (tr_ret tr_bl)) trs_nil) (trs_cons (tr_ifs (TrW.toB (trw_or (trb_cmp (op_neD hr.units) sem_ne (tr_callF h_times (hr.mono (by decide)) tk rfl (tra_cons (tr_var 0) (tra_cons (tr_var 1) tra_nil))) (tr_callF h__law_times (hr.mono (by decide)) tk rfl (tra_cons (tr_var 0) (tra_cons (tr_var 1) tra_nil))) (nomark _)) (trw_or1 (trb_cmp (op_neD hr.units) sem_ne (tr_callF h_is_less (hr.mono (by decide)) tk rfl (tra_cons (tr_var 0) (tra_cons (tr_var 1) tra_nil))) (tr_callF h__law_under (hr.mono (by decide)) tk rfl (tra_cons (tr_var 0) (tra_cons (tr_var 1) tra_nil))) (nomark _))))) (trs_one (tr_ret tr_bl)) trs_nil) (trs_cons (tr_ifs (trb_cmp (op_neD hr.units) sem_ne (tr_ix ix_seq sem_ix (tr_var 1) tr_int) tr_int (nomark _)) (trs_cons (tr_set (i := 2) sc.nd rfl (.inl rfl) (tr_callF h__law_ratio (hr.mono (by decide)) tk rfl (tra_cons (tr_op op_mulW sem_mul (tr_op op_mulW sem_mul (tr_ix ix_seq sem_ix (tr_var 0) tr_int) (tr_ix ix_seq sem_ix (tr_var 1) tr_int)) (tr_if (trb_cmp op_gt sem_gt (tr_ix ix_seq sem_ix (tr_var 1) tr_int) tr_int (nomark _)) tr_int (tr_un un_neg sem_neg tr_int))) (tra_cons (tr_op op_mulW sem_mul (tr_ix ix_seq sem_ix (tr_var 0) tr_int) (tr_callB call_abs sem_abs rfl m_abs bo_abs (tra_cons (tr_ix ix_seq sem_ix (tr_var 1) tr_int) tra_nil))) tra_nil)))) (trs_one (tr_ifs (TrW.toB (trw_or (trb_cmp (op_neD hr.units) sem_ne (tr_callF h_over (hr.mono (by decide)) tk rfl (tra_cons (tr_var 0) (tra_cons (tr_var 1) tra_nil))) (tr_var 2) (nomark _)) (trw_or (trb_cmp (op_neD hr.units) sem_ne (tr_callF h_over (hr.mono (by decide)) tk rfl (tra_cons (tr_var 0) (tra_cons (tr_var 1) tra_nil))) (tr_var 2) (nomark _)) (trw_or1 (trb_cmp (op_neD hr.units) sem_ne (tr_callF h_times (hr.mono (by decide)) tk rfl (tra_cons (tr_callF h_over (hr.mono (by decide)) tk rfl (tra_cons (tr_var 0) (tra_cons (tr_var 1) tra_nil))) (tra_cons (tr_var 1) tra_nil))) (tr_var 0) (nomark _)))))) (trs_one (tr_ret tr_bl)) trs_nil))) trs_nil) (trs_one (tr_ret (tr_and (tr_cmp (op_eqD hr.units) sem_eq (tr_callF h_is_less (hr.mono (by decide)) tk rfl (tra_cons (tr_var 0) (tra_cons (tr_var 1) tra_nil))) (tr_callF h_is_less (hr.mono (by decide)) tk rfl (tra_cons (tr_callF h_less (hr.mono (by decide)) tk rfl (tra_cons (tr_var 0) (tra_cons (tr_var 1) tra_nil))) (tra_cons (tr_tup (tra_cons tr_int (tra_cons tr_int tra_nil))) tra_nil))) (nomark _)) (tr_one (tr_cmp (op_eqD hr.units) sem_eq (tr_callF h_plus (hr.mono (by decide)) tk rfl (tra_cons (tr_var 0) (tra_cons (tr_tup (tra_cons tr_int (tra_cons tr_int tra_nil))) tra_nil))) (tr_var 0) (nomark _))))))))))
theorem ok_law {f fB : Addr} {fd fdB : FuncData} (F : FnP K "law" (top 35) sc_law f fd) (FB : FnP K "_law_begin" (top 24) sc__law_begin fB fdB) (gB : mg "_law_begin" = some (.ref fB)) (m_list0 : mg "list" = none) (en : LawEnds g_law 6) (m_range : mg "range" = none) (h__law_drawn : FnIs P w K mg base 3 "_law_drawn" ["_law_state"] F__law_drawn) (h__law_pair_right : FnIs P w K mg base 5 "_law_pair_right" ["_law_one", "_law_other"] F__law_pair_right) (h__law_draw : FnIs P w K mg base 2 "_law_draw" ["_law_state", "_law_many"] F__law_draw) (h_ratio : FnIs P w K mg base 3 "ratio" ["top", "bottom"] F_ratio) (h__law_ratio : FnIs P w K mg base 1 "_law_ratio" ["_law_top", "_law_bottom"] F__law_ratio) (h_times : FnIs P w K mg base 4 "times" ["one", "other"] F_times) (h_over : FnIs P w K mg base 4 "over" ["one", "other"] F_over) (h_is_less : FnIs P w K mg base 4 "is_less" ["one", "other"] F_is_less) : FnOk P w K mg base (L2.CX P w) 6 f fd ["_law_script"] (spLaw K) := by
  have sc : FnScope ["_law_script", "_law_state", "_law_turn", "_law_one", "_law_other", "_law_top", "_law_bottom", "_law_great"] ["_law_script"] sc_law := ⟨rfl, rfl, rfl, by decide +kernel, rfl, by decide +kernel, by decide +kernel⟩
  have GB : FnOk P w K mg base (L2.CX P w) 1 fB fdB ["_law_script"] (spBegin K) := ok__law_begin FB m_list0
  have bB : Binds K fdB ["_law_script"] [] := FB.bindsN fun _ _ _ _ _ _ us hl => match us, hl with | [_], _ => rfl
  refine F.ok (k := 5) sc (fun vs H Q E h => ?_) (fun cdv A outer s H vs Q E hr h => ?_)
  · obtain ⟨a, ns, rfl, _⟩ := h
    rfl
  have tk : Takes (cxOf (L2.CX P w) P w K mg base ["_law_script", "_law_state", "_law_turn", "_law_one", "_law_other", "_law_top", "_law_bottom", "_law_great"] "law" sc_law f cdv A outer s H E) (wOf E) := takes_of rfl rfl rfl rfl
  have rest : TrSs (cxOf (L2.CX P w) P w K mg base ["_law_script", "_law_state", "_law_turn", "_law_one", "_law_other", "_law_top", "_law_bottom", "_law_great"] "law" sc_law f cdv A outer s H E) E (defBody (top 35)).tail g_law :=
    (trs_cons (tr_for (passes_of rfl) rfl (tri_rng1 rfl m_range (tra_cons tr_int tra_nil)) (trg_name sc.nd rfl (.inl rfl)) (trs_cons (tr_par (ps_par rfl sc.nd rfl rfl (by decide) rfl rfl (tra_cons (tr_callF h__law_drawn (hr.mono (by decide)) tk rfl (tra_cons (tr_var 1) tra_nil)) (tra_cons (tr_callF h__law_drawn (hr.mono (by decide)) tk rfl (tra_cons (tr_var 1) tra_nil)) tra_nil)) (by rfl))) (trs_cons (tr_ifs (trb_not (trb_tru (tr_callF h__law_pair_right (hr.mono (by decide)) tk rfl (tra_cons (tr_var 3) (tra_cons (tr_var 4) tra_nil))))) (trs_one (tr_ret tr_bl)) trs_nil) (trs_cons (tr_par (ps_par rfl sc.nd rfl rfl (by decide) rfl rfl (tra_cons (tr_op op_sub sem_sub (tr_callF h__law_draw (hr.mono (by decide)) tk rfl (tra_cons (tr_var 1) (tra_cons tr_int tra_nil))) tr_int) (tra_cons (tr_op op_addW sem_add tr_int (tr_callF h__law_draw (hr.mono (by decide)) tk rfl (tra_cons (tr_var 1) (tra_cons tr_int tra_nil)))) tra_nil)) (by rfl))) (trs_one (tr_ifs (TrW.toB (trw_or (trb_cmp (op_neD hr.units) sem_ne (tr_callF h_ratio (hr.mono (by decide)) tk rfl (tra_cons (tr_var 5) (tra_cons (tr_var 6) tra_nil))) (tr_callF h__law_ratio (hr.mono (by decide)) tk rfl (tra_cons (tr_var 5) (tra_cons (tr_var 6) tra_nil))) (nomark _)) (trw_or1 (trb_cmp (op_neD hr.units) sem_ne (tr_callF h_ratio (hr.mono (by decide)) tk rfl (tra_cons (tr_op op_sub sem_sub tr_int (tr_var 5)) (tra_cons (tr_op op_sub sem_sub tr_int (tr_var 6)) tra_nil))) (tr_callF h__law_ratio (hr.mono (by decide)) tk rfl (tra_cons (tr_var 5) (tra_cons (tr_var 6) tra_nil))) (nomark _))))) (trs_one (tr_ret tr_bl)) trs_nil)))))) (trs_cons (tr_set (i := 7) sc.nd rfl (.inl rfl) (tr_tup (tra_cons (tr_op op_addW sem_add (tr_op op_pow sem_pow tr_int tr_int) tr_int) (tra_cons (tr_op op_addW sem_add (tr_op op_pow sem_pow tr_int tr_int) tr_int) tra_nil)))) (trs_cons (tr_for (passes_of rfl) rfl (tri_rng1 rfl m_range (tra_cons tr_int tra_nil)) (trg_name sc.nd rfl (.inl rfl)) (trs_cons (tr_set (i := 7) sc.nd rfl (.inl rfl) (tr_callF h_times (hr.mono (by decide)) tk rfl (tra_cons (tr_var 7) (tra_cons (tr_var 7) tra_nil)))) (trs_one (tr_ifs (TrW.toB (trw_or (trb_not (trb_tru (tr_callF h__law_pair_right (hr.mono (by decide)) tk rfl (tra_cons (tr_var 7) (tra_cons (tr_tup (tra_cons (tr_un un_neg sem_neg tr_int) (tra_cons tr_int tra_nil))) tra_nil))))) (trw_or1 (trb_not (trb_tru (tr_callF h__law_pair_right (hr.mono (by decide)) tk rfl (tra_cons (tr_tup (tra_cons tr_int (tra_cons tr_int tra_nil))) (tra_cons (tr_var 7) tra_nil)))))))) (trs_one (tr_ret tr_bl)) trs_nil)))) (trs_cons (tr_ifs (TrW.toB (trw_or (trb_cmp (op_neD hr.units) sem_ne (tr_callF h_ratio (hr.mono (by decide)) tk rfl (tra_cons tr_int (tra_cons (tr_un un_neg sem_neg tr_int) tra_nil))) (tr_tup (tra_cons tr_int (tra_cons tr_int tra_nil))) (nomark _)) (trw_or (trb_cmp (op_neD hr.units) sem_ne (tr_callF h_ratio (hr.mono (by decide)) tk rfl (tra_cons tr_int (tra_cons (tr_un un_neg sem_neg tr_int) tra_nil))) (tr_tup (tra_cons (tr_un un_neg sem_neg tr_int) (tra_cons tr_int tra_nil))) (nomark _)) (trw_or1 (trb_cmp (op_neD hr.units) sem_ne (tr_callF h_over (hr.mono (by decide)) tk rfl (tra_cons (tr_tup (tra_cons tr_int (tra_cons tr_int tra_nil))) (tra_cons (tr_tup (tra_cons (tr_un un_neg sem_neg tr_int) (tra_cons tr_int tra_nil))) tra_nil))) (tr_tup (tra_cons (tr_un un_neg sem_neg tr_int) (tra_cons tr_int tra_nil))) (nomark _)))))) (trs_one (tr_ret tr_bl)) trs_nil) (trs_one (tr_ret (tr_and (tr_cmp op_isW sem_is (tr_callF h_is_less (hr.mono (by decide)) tk rfl (tra_cons (tr_tup (tra_cons tr_int (tra_cons tr_int tra_nil))) (tra_cons (tr_tup (tra_cons tr_int (tra_cons tr_int tra_nil))) tra_nil))) tr_bl (nomark _)) (tr_one (tr_cmp op_isW sem_is (tr_callF h_is_less (hr.mono (by decide)) tk rfl (tra_cons (tr_tup (tra_cons tr_int (tra_cons tr_int tra_nil))) (tra_cons (tr_tup (tra_cons tr_int (tra_cons tr_int tra_nil))) tra_nil))) tr_bl (nomark _))))))))))
  refine ⟨_, pss_cons (ps_set (i := 1) sc.nd rfl (.inl rfl) (pe_callSD (E := fun σ => WE (wOf E) σ) GB (hr.mono (by decide)) rfl gB FB.kp bB .nil (fun σ => passAt tk σ) (pa_cons (pv 0) pa_nil))) rest, ?_⟩
  obtain ⟨a, ns, rfl, hS, hz, q⟩ := h
  exact ⟨.ref a, rfl, a, ns, rfl, hS, hz, fun S ca la H' cells lefts sm nS nca nla h1 h2 h3 hl h0 hne => law_rest en hz q hS sm nS nca nla h1 h2 h3 hl h0 hne⟩
end
end Lw
namespace Lw
open PySem L2 PF Rt
@[simp] theorem eqO_int (i j : Int) : eqO (.int i) (.int j) = some (i == j) := rfl
@[simp] theorem eqW_int (i j : Int) : eqW (.int i) (.int j) = .ok (.bl (i == j)) := rfl
@[simp] theorem neW_int (i j : Int) : neW (.int i) (.int j) = .ok (.bl !(i == j)) := rfl
@[simp] theorem eqW_p2 (a b c d : Int) : eqW (.tup [.int a, .int b]) (.tup [.int c, .int d]) = .ok (.bl ((a == c) && ((b == d) && true))) := rfl
@[simp] theorem neW_p2 (a b c d : Int) : neW (.tup [.int a, .int b]) (.tup [.int c, .int d]) = .ok (.bl !((a == c) && ((b == d) && true))) := rfl
@[simp] theorem eqW_bl (a b : Bool) : eqW (.bl a) (.bl b) = .ok (.bl (a == b)) := rfl
@[simp] theorem neW_bl (a b : Bool) : neW (.bl a) (.bl b) = .ok (.bl !(a == b)) := rfl
def S (k : Nat) (a : Int) : Prop := a.natAbs < 2 ^ k
theorem S.mul {k l : Nat} {a b : Int} (h : S k a) (g : S l b) : S (k + l) (a * b) := wide_lt h g
theorem S.mono {k l : Nat} {a : Int} (h : S k a) (g : k ≤ l) : S l a := Nat.lt_of_lt_of_le h (Nat.pow_le_pow_right (by decide) g)
theorem S.add {k : Nat} {a b : Int} (h : S k a) (g : S k b) : S (k + 1) (a + b) := by
  unfold S at *
  rw [Nat.pow_succ]
  have : (a + b).natAbs ≤ a.natAbs + b.natAbs := Int.natAbs_add_le a b
  omega
theorem S.neg {k : Nat} {a : Int} (h : S k a) : S k (0 - a) := by
  unfold S at *
  have : (0 - a).natAbs = a.natAbs := by omega
  rw [this]
  exact h
theorem S.sub {k : Nat} {a b : Int} (h : S k a) (g : S k b) : S (k + 1) (a - b) := by
  unfold S at *
  rw [Nat.pow_succ]
  have : (a - b).natAbs ≤ a.natAbs + b.natAbs := by omega
  omega
theorem S.ok {k l : Nat} {a b : Int} (h : S k a) (g : S l b) (e : k + l ≤ 999998) : mulOk a b = true := mulOk_of (a := k + 1) (b := l + 1) (h.mono (Nat.le_succ k)) (g.mono (Nat.le_succ l)) (by omega) (by omega) (by omega)
theorem S.num {k : Nat} {t b : Int} (h : S k t) : S k (num t b) := Nat.lt_of_le_of_lt (Int.natAbs_ediv_le_natAbs _ _) h
theorem S.den {k : Nat} {t b : Int} (h : S k b) : S k (den t b) := Nat.lt_of_le_of_lt (Int.natAbs_ediv_le_natAbs _ _) h
theorem S.gcd {k : Nat} {t b : Int} (hb : b ≠ 0) (h : S k b) : S k (Int.gcd t b) := by
  unfold S at *
  rw [Int.natAbs_natCast]
  exact Nat.lt_of_le_of_lt (Int.gcd_le_natAbs_right t hb) h
theorem com_loop : ∀ (n x y : Nat), y < n → whileL (fBl (f2 neW (gV 1) (fun _ => .ok (.int 0)))) (sPar 0 1 (fCons (gV 1) (fCons (f2 modW (gV 0) (fL (fCons (gV 1) fNil) intW)) fNil))) n [.val (.int x), .val (.int y)] = .ok (.nx, [.val (.int (Nat.gcd x y)), .val (.int 0)])
  | 0, x, y, h => by omega
  | n + 1, x, y, h => by
    unfold whileL
    by_cases hy : y = 0
    · subst hy
      simp
    · have hp : 0 < y := by omega
      have ih := com_loop n y (x % y) (by have := Nat.mod_lt x (show y > 0 by omega); omega)
      have e : ((x : Int) % (y : Int)) = ((x % y : Nat) : Int) := by simp
      have eg : Nat.gcd y (x % y) = Nat.gcd x y := by rw [Nat.gcd_comm y, ← Nat.gcd_rec, Nat.gcd_comm]
      simp [hp, hy]
      rw [e, ih, eg]
theorem abs_is (t : Int) : (if t < 0 then -t else t) = ((t.natAbs : Nat) : Int) := by
  split <;> omega
theorem com_run (t b : Int) : F_common [.int t, .int b] = .ok (.int (Int.gcd t b)) := by
  simp [F_common, defF, startE, endOf, sWhile, wInt, abs_is, com_loop]
  rfl
theorem lrat_loop (t b : Int) : ∀ (n x y : Nat), y < n → whileL (fBl (f2 neW (gV 3) (fun _ => .ok (.int 0)))) (sPar 2 3 (fCons (gV 3) (fCons (f2 modW (fL (fCons (gV 2) fNil) intW) (gV 3)) fNil))) n [.val (.int t), .val (.int b), .val (.int x), .val (.int y)] = .ok (.nx, [.val (.int t), .val (.int b), .val (.int (Nat.gcd x y)), .val (.int 0)])
  | 0, x, y, h => by omega
  | n + 1, x, y, h => by
    unfold whileL
    by_cases hy : y = 0
    · subst hy
      simp
    · have hp : 0 < y := by omega
      have ih := lrat_loop t b n y (x % y) (by have := Nat.mod_lt x (show y > 0 by omega); omega)
      have e : ((x : Int) % (y : Int)) = ((x % y : Nat) : Int) := by simp
      have eg : Nat.gcd y (x % y) = Nat.gcd x y := by rw [Nat.gcd_comm y, ← Nat.gcd_rec, Nat.gcd_comm]
      simp [hp, hy]
      rw [e, ih, eg]
theorem lrat_run {t b : Int} (hb : 0 < b) (hs : S 8000 b) : F__law_ratio [.int t, .int b] = .ok (.tup [.int (num t b), .int (den t b)]) := by
  have hd : divOk (Int.gcd t b : Int) = true := divOk_of (b := 8000) (g_pos hb) (S.gcd (by omega) hs) (by decide) (by decide)
  have el : whileL (fBl (f2 neW (gV 3) (fun _ => .ok (.int 0)))) (sPar 2 3 (fCons (gV 3) (fCons (f2 modW (fL (fCons (gV 2) fNil) intW) (gV 3)) fNil))) (b.natAbs + 1) [.val (.int t), .val (.int b), .val (.int (t.natAbs : Nat)), .val (.int b)] = .ok (.nx, [.val (.int t), .val (.int b), .val (.int (Int.gcd t b)), .val (.int 0)]) := by
    have := lrat_loop t b (b.natAbs + 1) t.natAbs b.natAbs (by omega)
    have e : ((b.natAbs : Nat) : Int) = b := by omega
    rw [e] at this
    exact this
  simp [F__law_ratio, defF, startE, endOf, sWhile, wInt, abs_is, el, hd, num, den]
theorem made_pos {t b : Int} (hb : 0 < b) (hs : S 8000 b) : F_made [.int t, .int b] = .ok (.tup [.int (num t b), .int (den t b)]) := by
  have hd : divOk (Int.gcd t b : Int) = true := divOk_of (b := 8000) (g_pos hb) (S.gcd (by omega) hs) (by decide) (by decide)
  have h0 : ¬ b < 0 := by omega
  simp [F_made, defF, startE, endOf, com_run, hd, num, den, h0]
theorem made_neg {t b : Int} (hb : b < 0) (hs : S 8000 b) : F_made [.int t, .int b] = .ok (.tup [.int (num (0 - t) (0 - b)), .int (den (0 - t) (0 - b))]) := by
  have hd : divOk (Int.gcd (0 - t) (0 - b) : Int) = true := divOk_of (b := 8000) (g_pos (by omega)) (S.gcd (by omega) hs.neg) (by decide) (by decide)
  simp [F_made, defF, startE, endOf, com_run, num, den, hb] at hd ⊢
  simp [hd]
  rfl
abbrev fr (a b : Int) : W := .tup [.int a, .int b]
theorem isint_run (a : Int) : F_is_integer [.int a] = .ok (.bl true) := by
  simp [F_is_integer, defF, startE, endOf]
  rfl
theorem allW_2 : allW [.lst [.bl true, .bl true]] = .ok (.bl true) := rfl
theorem ix0 (a b : W) : ixW (.tup [a, b]) (.int 0) = .ok a := rfl
theorem ix1 (a b : W) : ixW (.tup [a, b]) (.int 1) = .ok b := rfl
theorem isfrac_run {a b : Int} (h : Fr a b) : F_is_fraction [fr a b] = .ok (.bl true) := by
  have h1 : (1 : Int) ≤ b := h.1
  have e1 : isiW (isOnly "tuple") (fr a b) = .ok (.bl true) := rfl
  simp [F_is_fraction, defF, startE, endOf, fComp, compL, wipeE, noX, isint_run, allW_2, ix0, ix1, com_run, h.2, h1, e1, tupW]
theorem need_run {a b : Int} (h : Fr a b) : F_need_fraction [fr a b] = .ok (fr a b) := by
  simp [F_need_fraction, defF, startE, endOf, isfrac_run h]
structure Ok4 (k : Nat) (a b c d : Int) : Prop where
  p : Fr a b
  q : Fr c d
  sa : S k a
  sb : S k b
  sc : S k c
  sd : S k d
theorem bd_pos {a b c d : Int} (h1 : Fr a b) (h2 : Fr c d) : 0 < b * d := Int.mul_pos h1.1 h2.1
section
variable {a b c d : Int} (h : Ok4 3500 a b c d)
theorem plus_run (h : Ok4 3500 a b c d) : F_plus [fr a b, fr c d] = .ok (fr (num (a * d + c * b) (b * d)) (den (a * d + c * b) (b * d))) := by
  simp [F_plus, F_add, defF, startE, endOf, need_run h.p, need_run h.q, ix0, ix1, h.sa.ok h.sd, h.sc.ok h.sb, h.sb.ok h.sd, made_pos (bd_pos h.p h.q) ((h.sb.mul h.sd).mono (by decide))]
theorem less_run (h : Ok4 3500 a b c d) : F_less [fr a b, fr c d] = .ok (fr (num (a * d - c * b) (b * d)) (den (a * d - c * b) (b * d))) := by
  simp [F_less, F_sub, defF, startE, endOf, need_run h.p, need_run h.q, ix0, ix1, h.sa.ok h.sd, h.sc.ok h.sb, h.sb.ok h.sd, made_pos (bd_pos h.p h.q) ((h.sb.mul h.sd).mono (by decide))]
theorem times_run (h : Ok4 3500 a b c d) : F_times [fr a b, fr c d] = .ok (fr (num (a * c) (b * d)) (den (a * c) (b * d))) := by
  simp [F_times, F_mul, defF, startE, endOf, need_run h.p, need_run h.q, ix0, ix1, h.sa.ok h.sc, h.sb.ok h.sd, made_pos (bd_pos h.p h.q) ((h.sb.mul h.sd).mono (by decide))]
theorem isless_run (h : Ok4 3500 a b c d) : F_is_less [fr a b, fr c d] = .ok (.bl (decide (a * d < c * b))) := by
  simp [F_is_less, F_is_under, defF, startE, endOf, need_run h.p, need_run h.q, ix0, ix1, h.sa.ok h.sd, h.sc.ok h.sb]
theorem over_pos (h : Ok4 3500 a b c d) (hc : 0 < c) : F_over [fr a b, fr c d] = .ok (fr (num (a * d) (b * c)) (den (a * d) (b * c))) := by
  have h0 : c ≠ 0 := by omega
  simp [F_over, F_div, defF, startE, endOf, need_run h.p, need_run h.q, ix0, ix1, h.sa.ok h.sd, h.sb.ok h.sc, k_NOUGHT, h0, made_pos (Int.mul_pos h.p.1 hc) ((h.sb.mul h.sc).mono (by decide))]
theorem over_neg (h : Ok4 3500 a b c d) (hc : c < 0) : F_over [fr a b, fr c d] = .ok (fr (num (0 - a * d) (0 - b * c)) (den (0 - a * d) (0 - b * c))) := by
  have h0 : c ≠ 0 := by omega
  simp [F_over, F_div, defF, startE, endOf, k_NOUGHT, need_run h.p, need_run h.q, ix0, ix1, h.sa.ok h.sd, h.sb.ok h.sc, h0, -Int.zero_sub, made_neg (Int.mul_neg_of_pos_of_neg h.p.1 hc) ((h.sb.mul h.sc).mono (by decide))]
theorem lplus_run (h : Ok4 3500 a b c d) : F__law_plus [fr a b, fr c d] = .ok (fr (num (a * d + c * b) (b * d)) (den (a * d + c * b) (b * d))) := by
  simp [F__law_plus, defF, startE, endOf, ix0, ix1, h.sa.ok h.sd, h.sc.ok h.sb, h.sb.ok h.sd, lrat_run (bd_pos h.p h.q) ((h.sb.mul h.sd).mono (by decide))]
theorem lless_run (h : Ok4 3500 a b c d) : F__law_less [fr a b, fr c d] = .ok (fr (num (a * d - c * b) (b * d)) (den (a * d - c * b) (b * d))) := by
  simp [F__law_less, defF, startE, endOf, ix0, ix1, h.sa.ok h.sd, h.sc.ok h.sb, h.sb.ok h.sd, lrat_run (bd_pos h.p h.q) ((h.sb.mul h.sd).mono (by decide))]
theorem ltimes_run (h : Ok4 3500 a b c d) : F__law_times [fr a b, fr c d] = .ok (fr (num (a * c) (b * d)) (den (a * c) (b * d))) := by
  simp [F__law_times, defF, startE, endOf, ix0, ix1, h.sa.ok h.sc, h.sb.ok h.sd, lrat_run (bd_pos h.p h.q) ((h.sb.mul h.sd).mono (by decide))]
theorem lunder_run (h : Ok4 3500 a b c d) : F__law_under [fr a b, fr c d] = .ok (.bl (decide (a * d < c * b))) := by
  simp [F__law_under, defF, startE, endOf, ix0, ix1, h.sa.ok h.sd, h.sc.ok h.sb]
end
theorem S.one {k : Nat} (h : 0 < k) : S k 1 := by
  unfold S
  exact Nat.one_lt_two_pow (by omega)
theorem S.zero {k : Nat} : S k 0 := by
  unfold S
  exact Nat.pow_pos (by decide)
theorem Ok4.more {k l : Nat} {a b c d : Int} (h : Ok4 k a b c d) (g : k ≤ l) : Ok4 l a b c d := ⟨h.p, h.q, h.sa.mono g, h.sb.mono g, h.sc.mono g, h.sd.mono g⟩
theorem Ok4.swap {k : Nat} {a b c d : Int} (h : Ok4 k a b c d) : Ok4 k c d a b := ⟨h.q, h.p, h.sc, h.sd, h.sa, h.sb⟩
theorem fr01 : Fr 0 1 := ⟨by decide, by decide⟩
theorem Ok4.nil {k : Nat} {a b c d : Int} (h : Ok4 k a b c d) (hk : 0 < k) : Ok4 k a b 0 1 := ⟨h.p, fr01, h.sa, h.sb, .zero, .one hk⟩
theorem lt_sign {n m t b : Int} (hb : 0 < b) (hm : 0 < m) (e : n * b = t * m) : n < 0 ↔ t < 0 := by
  constructor
  · intro h
    have h1 : n * b < 0 := Int.mul_neg_of_neg_of_pos h hb
    rw [e] at h1
    rcases Int.lt_or_le t 0 with h2 | h2
    · exact h2
    · have := Int.mul_nonneg h2 (Int.le_of_lt hm)
      omega
  · intro h
    have h1 : t * m < 0 := Int.mul_neg_of_neg_of_pos h hm
    rw [← e] at h1
    rcases Int.lt_or_le n 0 with h2 | h2
    · exact h2
    · have := Int.mul_nonneg h2 (Int.le_of_lt hb)
      omega
theorem pair_run {a b c d : Int} (h : Ok4 1000 a b c d) : F__law_pair_right [fr a b, fr c d] = .ok (.bl true) := by
  have hw := h.more (l := 3500) (by decide)
  have bp := bd_pos h.p h.q
  have e1 := need_run h.p
  have e2 := plus_run hw
  have e3 := lplus_run hw
  have e4 := plus_run hw.swap
  rw [show c * b + a * d = a * d + c * b from Int.add_comm _ _, show d * b = b * d from Int.mul_comm _ _] at e4
  have e5 := less_run hw
  have e6 := lless_run hw
  have x2 := cross (t := a * d + c * b) (b := b * d)
  have x5 := cross (t := a * d - c * b) (b := b * d)
  have f2 := fr_nrm (t := a * d + c * b) bp
  have f5 := fr_nrm (t := a * d - c * b) bp
  have s2n : S 2001 (num (a * d + c * b) (b * d)) := ((h.sa.mul h.sd).add (h.sc.mul h.sb)).num
  have s2d : S 2000 (den (a * d + c * b) (b * d)) := (h.sb.mul h.sd).den
  have s5n : S 2001 (num (a * d - c * b) (b * d)) := ((h.sa.mul h.sd).sub (h.sc.mul h.sb)).num
  have s5d : S 2000 (den (a * d - c * b) (b * d)) := (h.sb.mul h.sd).den
  generalize num (a * d + c * b) (b * d) = n2 at *
  generalize den (a * d + c * b) (b * d) = m2 at *
  generalize num (a * d - c * b) (b * d) = n5 at *
  generalize den (a * d - c * b) (b * d) = m5 at *
  have o7 : Ok4 3500 n2 m2 c d := ⟨f2, h.q, s2n.mono (by decide), s2d.mono (by decide), hw.sc, hw.sd⟩
  have e7 := less_run o7
  obtain ⟨i7, j7⟩ := nrm_is (t := n2 * d - c * m2) (b := m2 * d) (bd_pos f2 h.q) h.p (by grind)
  rw [i7, j7] at e7
  have e8 := times_run hw
  have e9 := ltimes_run hw
  have e10 := isless_run hw
  have e11 := lunder_run hw
  have o12 : Ok4 3500 n5 m5 0 1 := ⟨f5, fr01, s5n.mono (by decide), s5d.mono (by decide), .zero, .one (by decide)⟩
  have e12 := isless_run o12
  have i12 : decide (n5 * 1 < 0 * m5) = decide (a * d < c * b) := by
    have := lt_sign bp f5.1 x5
    rw [decide_eq_decide]
    omega
  rw [i12] at e12
  have e13 := plus_run (hw.nil (by decide))
  obtain ⟨i13, j13⟩ := nrm_is (t := a * 1 + 0 * b) (b := b * 1) (by have := h.p.1; omega) h.p (by grind)
  rw [i13, j13] at e13
  generalize num (a * c) (b * d) = n8 at *
  generalize den (a * c) (b * d) = m8 at *
  rcases Int.lt_trichotomy c 0 with hc | hc | hc
  · have c0 : c ≠ 0 := by omega
    have c1 : ¬ 0 < c := by omega
    have bc : 0 < 0 - b * c := by have := Int.mul_neg_of_pos_of_neg h.p.1 hc; omega
    have e14 := over_neg hw hc
    have x14 := cross (t := 0 - a * d) (b := 0 - b * c)
    have f14 := fr_nrm (t := 0 - a * d) bc
    have sn : S 2000 (num (0 - a * d) (0 - b * c)) := ((h.sa.mul h.sd).neg).num
    have sd : S 2000 (den (0 - a * d) (0 - b * c)) := ((h.sb.mul h.sc).neg).den
    have e15 := lrat_run (t := a * d * (-1)) (b := b * ((c.natAbs : Nat) : Int)) (by have : ((c.natAbs : Nat) : Int) = 0 - c := by omega
                                                                                     rw [this]; grind) (by have : b * ((c.natAbs : Nat) : Int) = 0 - b * c := by
                                                                                                                     have : ((c.natAbs : Nat) : Int) = 0 - c := by omega
                                                                                                                     rw [this]; grind
                                                                                                           rw [this]; exact ((h.sb.mul h.sc).neg).mono (by decide))
    rw [show a * d * (-1) = 0 - a * d by omega, show b * ((c.natAbs : Nat) : Int) = 0 - b * c by
      have : ((c.natAbs : Nat) : Int) = 0 - c := by omega
      rw [this]; grind] at e15
    generalize num (0 - a * d) (0 - b * c) = n14 at *
    generalize den (0 - a * d) (0 - b * c) = m14 at *
    have o16 : Ok4 3500 n14 m14 c d := ⟨f14, h.q, sn.mono (by decide), sd.mono (by decide), hw.sc, hw.sd⟩
    have e16 := times_run o16
    obtain ⟨i16, j16⟩ := nrm_is (t := n14 * c) (b := m14 * d) (bd_pos f14 h.q) h.p (by grind)
    rw [i16, j16] at e16
    have g1 : mulOk (a * d) (-1) = true := (h.sa.mul h.sd).ok (l := 1) (by unfold S; decide) (by decide)
    have g2 : mulOk b ((c.natAbs : Nat) : Int) = true := h.sb.ok (l := 1000) (by have := h.sc; unfold S at *; rw [Int.natAbs_natCast]; exact this) (by decide)
    have g15 : F__law_ratio [.int (-(a * d)), .int (b * ((c.natAbs : Nat) : Int))] = .ok (fr n14 m14) := by
      rw [show -(a * d) = 0 - a * d by omega, show b * ((c.natAbs : Nat) : Int) = 0 - b * c by
        have : ((c.natAbs : Nat) : Int) = 0 - c := by omega
        rw [this]; grind]
      exact e15
    simp [F__law_pair_right, defF, startE, e1, e2, e3, e4, e5, e6, e7, e8, e9, e10, e11, e12, e13, e14, e16, c0, c1, ix0, ix1, negW, abs_is, hw.sa.ok hw.sd, g1, g2, g15, endOf]
  · subst hc
    simp [F__law_pair_right, defF, startE, e1, e2, e3, e4, e5, e6, e7, e8, e9, e10, e11, e12, e13, ix0, ix1, endOf]
  · have c0 : c ≠ 0 := by omega
    have bc : 0 < b * c := Int.mul_pos h.p.1 hc
    have e14 := over_pos hw hc
    have x14 := cross (t := a * d) (b := b * c)
    have f14 := fr_nrm (t := a * d) bc
    have sn : S 2000 (num (a * d) (b * c)) := (h.sa.mul h.sd).num
    have sd : S 2000 (den (a * d) (b * c)) := (h.sb.mul h.sc).den
    have e15 := lrat_run (t := a * d) (b := b * c) bc ((h.sb.mul h.sc).mono (by decide))
    generalize num (a * d) (b * c) = n14 at *
    generalize den (a * d) (b * c) = m14 at *
    have o16 : Ok4 3500 n14 m14 c d := ⟨f14, h.q, sn.mono (by decide), sd.mono (by decide), hw.sc, hw.sd⟩
    have e16 := times_run o16
    obtain ⟨i16, j16⟩ := nrm_is (t := n14 * c) (b := m14 * d) (bd_pos f14 h.q) h.p (by grind)
    rw [i16, j16] at e16
    have g1 : mulOk (a * d) 1 = true := (h.sa.mul h.sd).ok (l := 1) (by unfold S; decide) (by decide)
    have g2 : mulOk b ((c.natAbs : Nat) : Int) = true := h.sb.ok (l := 1000) (by have := h.sc; unfold S at *; rw [Int.natAbs_natCast]; exact this) (by decide)
    have g15 : F__law_ratio [.int (a * d), .int (b * ((c.natAbs : Nat) : Int))] = .ok (fr n14 m14) := by
      rw [show ((c.natAbs : Nat) : Int) = c by omega]
      exact e15
    simp [F__law_pair_right, defF, startE, e1, e2, e3, e4, e5, e6, e7, e8, e9, e10, e11, e12, e13, e14, e16, c0, hc, ix0, ix1, negW, abs_is, hw.sa.ok hw.sd, g1, g2, g15, endOf]
theorem ask_all {α : Type} {P : Nat → α → Prop} {E : Nat → Nat → List PF.W → Prop} {n d : Nat} {k : Nat → T α} (h : 0 < d) (g : ∀ i, i < n → (k i).AllB P E (d - 1)) : (T.ask n k).AllB P E d := ⟨d - 1, by omega, g⟩
theorem draw_run {n : Int} {b : Nat} (h : 0 < n) (hb : n.natAbs < 2 ^ b) (h0 : 0 < b) (h9 : b ≤ 9000) : F__law_draw [.stt, .int n] = .ask n.toNat fun i => .ok (.int i) := by
  simp [F__law_draw, manyOk_is h hb h0 h9]
theorem forL_all {G : PF.W → En → Option En} {gb : En → T (Fl × En)} {E : Nat → Nat → List PF.W → Prop} (I : List PF.W → Nat → En → Prop) (step : ∀ w ws d ρ, I (w :: ws) d ρ → ∃ ρ1, G w ρ = some ρ1 ∧ (gb ρ1).AllB (fun d x => ∃ ρ2, x = (.nx, ρ2) ∧ I ws d ρ2) E d) :
    ∀ (ws : List PF.W) (d : Nat) (ρ : En), I ws d ρ → (forL G gb ws ρ).AllB (fun d x => ∃ ρ2, x = (.nx, ρ2) ∧ I [] d ρ2) E d
  | [], d, ρ, h => ⟨ρ, rfl, h⟩
  | w :: ws, d, ρ, h => by
    obtain ⟨ρ1, e, s⟩ := step w ws d ρ h
    unfold forL
    rw [e]
    refine T.allB_bind.mpr (T.AllB.imp (fun d1 x hx => ?_) (fun _ _ _ y => y) s)
    obtain ⟨ρ2, rfl, h2⟩ := hx
    exact forL_all I step ws d1 ρ2 h2
theorem drawn_all {P : Nat → PF.W → Prop} {E : Nat → Nat → List PF.W → Prop} {d : Nat} (hd : 3 ≤ d) (h : ∀ d' a b, d ≤ d' + 3 → Fr a b → S 100 a → S 100 b → P d' (fr a b)) : (F__law_drawn [.stt]).AllB P E d := by
  have p1 : powOk 10 20 = true := by unfold powOk; decide
  have p2 : powOk 10 19 = true := by unfold powOk; decide
  simp [F__law_drawn, defF, startE, powW, p1, p2, draw_run (n := 3) (b := 2) (by decide) (by decide) (by decide) (by decide), draw_run (n := 25) (b := 5) (by decide) (by decide) (by decide) (by decide), draw_run (n := 12) (b := 5) (by decide) (by decide) (by decide) (by decide), draw_run (n := 100000000000000000000) (b := 100) (by decide) (by decide) (by decide) (by decide)]
  refine ask_all (by omega) fun i hi => ?_
  by_cases h0 : 0 < i
  · simp [h0]
    refine ask_all (by omega) fun j hj => ask_all (by omega) fun l hl => ?_
    simp [lrat_run (t := (j : Int) - 12) (b := 1 + (l : Int)) (by omega) (by unfold S; exact Nat.lt_of_lt_of_le (show (1 + (l : Int)).natAbs < 2 ^ 5 by omega) (Nat.pow_le_pow_right (by decide) (by decide))), endOf]
    refine h _ _ _ (by omega) (fr_nrm (by omega)) (S.num ?_) (S.den ?_)
    · unfold S
      omega
    · unfold S
      omega
  · simp [h0, draw_run (n := 100000000000000000000) (b := 100) (by decide) (by decide) (by decide) (by decide)]
    refine ask_all (by omega) fun j hj => ask_all (by omega) fun l hl => ?_
    simp [lrat_run (t := (j : Int) - 10000000000000000000) (b := 1 + (l : Int)) (by omega) (by unfold S; exact Nat.lt_of_lt_of_le (show (1 + (l : Int)).natAbs < 2 ^ 100 by omega) (Nat.pow_le_pow_right (by decide) (by decide))), endOf]
    refine h _ _ _ (by omega) (fr_nrm (by omega)) (S.num ?_) (S.den ?_)
    · unfold S
      omega
    · unfold S
      omega
theorem ratio_pos {t b : Int} (hb : 0 < b) (hs : S 8000 b) : F_ratio [.int t, .int b] = .ok (fr (num t b) (den t b)) := by
  have h0 : b ≠ 0 := by omega
  simp [F_ratio, defF, startE, isint_run, h0, made_pos hb hs, endOf]
theorem ratio_neg {t b : Int} (hb : b < 0) (hs : S 8000 b) : F_ratio [.int t, .int b] = .ok (fr (num (0 - t) (0 - b)) (den (0 - t) (0 - b))) := by
  have h0 : b ≠ 0 := by omega
  simp [F_ratio, defF, startE, isint_run, h0, made_neg hb hs, endOf, -Int.zero_sub]
def loopE (n : Nat) (ws : List PF.W) (d : Nat) (ρ : En) : Prop := (∃ x2 x3 x4 x5 x6 x7, ρ = [.val (.scr n), .val .stt, x2, x3, x4, x5, x6, x7]) ∧ 20 * ws.length + 100 ≤ d
theorem loop_step {n : Nat} {E : Nat → Nat → List PF.W → Prop} (w : PF.W) (ws : List PF.W) (d : Nat) (ρ : En) (h : loopE n (w :: ws) d ρ) : ∃ ρ1, goName 2 w ρ = some ρ1 ∧ ((sSeq (sPar 3 4 (fCons (fL (fCons (gV 1) fNil) F__law_drawn) (fCons (fL (fCons (gV 1) fNil) F__law_drawn) fNil))) (sSeq (sIf (fNot (fTru (fL (fCons (gV 3) (fCons (gV 4) fNil)) F__law_pair_right))) (sRet (fun _ => .ok (.bl false))) sNil) (sSeq (sPar 5 6 (fCons (f2 subW (fL (fCons (gV 1) (fCons (fun _ => .ok (.int 201)) fNil)) F__law_draw) (fun _ => .ok (.int 100))) (fCons (f2 addW (fun _ => .ok (.int 1)) (fL (fCons (gV 1) (fCons (fun _ => .ok (.int 50)) fNil)) F__law_draw)) fNil))) (sIf (fOr (fBl (f2 neW (fL (fCons (gV 5) (fCons (gV 6) fNil)) F_ratio) (fL (fCons (gV 5) (fCons (gV 6) fNil)) F__law_ratio))) (fBl (f2 neW (fL (fCons (f2 subW (fun _ => .ok (.int 0)) (gV 5)) (fCons (f2 subW (fun _ => .ok (.int 0)) (gV 6)) fNil)) F_ratio) (fL (fCons (gV 5) (fCons (gV 6) fNil)) F__law_ratio)))) (sRet (fun _ => .ok (.bl false))) sNil)))) ρ1).AllB (fun d x => ∃ ρ2, x = (.nx, ρ2) ∧ loopE n ws d ρ2) E d := by
  obtain ⟨⟨x2, x3, x4, x5, x6, x7, rfl⟩, hd⟩ := h
  rw [List.length_cons] at hd
  refine ⟨_, rfl, ?_⟩
  simp only [sSeq_eq, sPar_eq, fCons_eq, fL_eq, fNil_eq, gV_eq, T.bind_ok, List.getElem?_cons_succ, List.getElem?_cons_zero, List.set_cons_succ, List.set_cons_zero, T.allB_bind]
  refine drawn_all (by omega) fun d1 a b h1 f1 sa sb => ?_
  refine drawn_all (by omega) fun d2 a' b' h2 f2 sc sd => ?_
  have pr := pair_run (⟨f1, f2, sa.mono (by decide), sb.mono (by decide), sc.mono (by decide), sd.mono (by decide)⟩ : Ok4 1000 a b a' b')
  simp only [T.AllB, T.bind_ok, List.getElem?_cons_succ, List.getElem?_cons_zero, List.set_cons_succ, List.set_cons_zero]
  simp [pr, draw_run (n := 201) (b := 8) (by decide) (by decide) (by decide) (by decide), draw_run (n := 50) (b := 8) (by decide) (by decide) (by decide) (by decide), -Int.zero_sub]
  refine ask_all (by omega) fun i hi => ask_all (by omega) fun j hj => ?_
  have sj : S 8000 (1 + (j : Int)) := by
    unfold S
    exact Nat.lt_of_lt_of_le (show (1 + (j : Int)).natAbs < 2 ^ 8 by omega) (Nat.pow_le_pow_right (by decide) (by decide))
  have r1 := ratio_pos (t := (i : Int) - 100) (b := 1 + (j : Int)) (by omega) sj
  have r2 := lrat_run (t := (i : Int) - 100) (b := 1 + (j : Int)) (by omega) sj
  have r3 := ratio_neg (t := 0 - ((i : Int) - 100)) (b := 0 - (1 + (j : Int))) (by omega) sj.neg
  rw [show (0 : Int) - (0 - ((i : Int) - 100)) = (i : Int) - 100 by omega, show (0 : Int) - (0 - (1 + (j : Int))) = 1 + (j : Int) by omega] at r3
  simp [r1, r2, r3, -Int.zero_sub]
  exact ⟨_, rfl, ⟨_, _, _, _, _, _, rfl⟩, by omega⟩
theorem fr_sq {g h : Int} (f : Fr g h) : 0 < h * h := Int.mul_pos f.1 f.1
theorem tail_run (n : Nat) (x2 x3 x4 x5 x6 x7 : Sl) : ∃ ρ, ((sSeq (sSet 7 (fL (fCons (f2 addW (f2 powW (fun _ => .ok (.int 10)) (fun _ => .ok (.int 59))) (fun _ => .ok (.int 1))) (fCons (f2 addW (f2 powW (fun _ => .ok (.int 10)) (fun _ => .ok (.int 59))) (fun _ => .ok (.int 3))) fNil)) mkTup)) (sSeq (sFor (iL rng1 (fCons (fun _ => .ok (.int 2)) fNil)) (goName 2) (sSeq (sSet 7 (fL (fCons (gV 7) (fCons (gV 7) fNil)) F_times)) (sIf (fOr (fNot (fTru (fL (fCons (gV 7) (fCons (fL (fCons (f1 negW (fun _ => .ok (.int 1))) (fCons (fun _ => .ok (.int 2)) fNil)) mkTup) fNil)) F__law_pair_right))) (fNot (fTru (fL (fCons (fL (fCons (fun _ => .ok (.int 3)) (fCons (fun _ => .ok (.int 7)) fNil)) mkTup) (fCons (gV 7) fNil)) F__law_pair_right)))) (sRet (fun _ => .ok (.bl false))) sNil))) (sSeq (sIf (fOr (fBl (f2 neW (fL (fCons (fun _ => .ok (.int 0)) (fCons (f1 negW (fun _ => .ok (.int 7))) fNil)) F_ratio) (fL (fCons (fun _ => .ok (.int 0)) (fCons (fun _ => .ok (.int 1)) fNil)) mkTup))) (fOr (fBl (f2 neW (fL (fCons (fun _ => .ok (.int 6)) (fCons (f1 negW (fun _ => .ok (.int 4))) fNil)) F_ratio) (fL (fCons (f1 negW (fun _ => .ok (.int 3))) (fCons (fun _ => .ok (.int 2)) fNil)) mkTup))) (fBl (f2 neW (fL (fCons (fL (fCons (fun _ => .ok (.int 1)) (fCons (fun _ => .ok (.int 2)) fNil)) mkTup) (fCons (fL (fCons (f1 negW (fun _ => .ok (.int 1))) (fCons (fun _ => .ok (.int 3)) fNil)) mkTup) fNil)) F_over) (fL (fCons (f1 negW (fun _ => .ok (.int 3))) (fCons (fun _ => .ok (.int 2)) fNil)) mkTup))))) (sRet (fun _ => .ok (.bl false))) sNil) (sRet (fAndV (f2 isW (fL (fCons (fL (fCons (fun _ => .ok (.int 1)) (fCons (fun _ => .ok (.int 3)) fNil)) mkTup) (fCons (fL (fCons (fun _ => .ok (.int 1)) (fCons (fun _ => .ok (.int 2)) fNil)) mkTup) fNil)) F_is_less) (fun _ => .ok (.bl true))) (f2 isW (fL (fCons (fL (fCons (fun _ => .ok (.int 1)) (fCons (fun _ => .ok (.int 2)) fNil)) mkTup) (fCons (fL (fCons (fun _ => .ok (.int 1)) (fCons (fun _ => .ok (.int 2)) fNil)) mkTup) fNil)) F_is_less) (fun _ => .ok (.bl false))))))))) [.val (.scr n), .val .stt, x2, x3, x4, x5, x6, x7] = .ok (.rt (.bl true), ρ) := by
  have p1 : powOk 10 59 = true := by unfold powOk; decide
  have f0 : Fr (10 ^ 59 + 1) (10 ^ 59 + 3) := ⟨by decide, by decide +kernel⟩
  have a0 : S 200 (10 ^ 59 + 1) := by unfold S; decide
  have b0 : S 200 (10 ^ 59 + 3) := by unfold S; decide
  have t1 := times_run (⟨f0, f0, a0.mono (by decide), b0.mono (by decide), a0.mono (by decide), b0.mono (by decide)⟩ : Ok4 3500 _ _ _ _)
  have f1 := fr_nrm (t := (10 ^ 59 + 1) * (10 ^ 59 + 1)) (fr_sq f0)
  have a1 : S 400 _ := S.num (b := (10 ^ 59 + 3) * (10 ^ 59 + 3)) (a0.mul a0)
  have b1 : S 400 _ := S.den (t := (10 ^ 59 + 1) * (10 ^ 59 + 1)) (b0.mul b0)
  simp only [sSeq_eq, sSet_eq, sFor, iL_eq, fCons_eq, fNil_eq, fL_eq, f2_eq, T.bind_ok, powW, p1, if_true, addW_int, mkTup_eq, sizeOk_2, List.set_cons_succ, List.set_cons_zero]
  rw [show rng1 [.int 2] = .ok [.int 0, .int 1] from rfl]
  simp only [T.bind_ok, forL, goName_eq, sSeq_eq, sSet_eq, fL_eq, fCons_eq, fNil_eq, gV_eq, List.set_cons_succ, List.set_cons_zero, List.getElem?_cons_succ, List.getElem?_cons_zero]
  rw [show (10 : Int) ^ (59 : Int).toNat = 10 ^ 59 from rfl, t1]
  generalize num ((10 ^ 59 + 1) * (10 ^ 59 + 1)) ((10 ^ 59 + 3) * (10 ^ 59 + 3)) = g1 at *
  generalize den ((10 ^ 59 + 1) * (10 ^ 59 + 1)) ((10 ^ 59 + 3) * (10 ^ 59 + 3)) = h1 at *
  have t2 := times_run (⟨f1, f1, a1.mono (by decide), b1.mono (by decide), a1.mono (by decide), b1.mono (by decide)⟩ : Ok4 3500 _ _ _ _)
  have f2 := fr_nrm (t := g1 * g1) (fr_sq f1)
  have a2 : S 800 _ := S.num (b := h1 * h1) (a1.mul a1)
  have b2 : S 800 _ := S.den (t := g1 * g1) (b1.mul b1)
  generalize num (g1 * g1) (h1 * h1) = g2 at *
  generalize den (g1 * g1) (h1 * h1) = h2 at *
  have f12 : Fr (-1) 2 := ⟨by decide, by decide⟩
  have f37 : Fr 3 7 := ⟨by decide, by decide⟩
  have s3 : ∀ i : Int, i.natAbs < 2 ^ 3 → S 1000 i := fun i hi => by
    unfold S
    exact Nat.lt_of_lt_of_le hi (Nat.pow_le_pow_right (by decide) (by decide))
  have u1 := pair_run (⟨f1, f12, a1.mono (by decide), b1.mono (by decide), s3 _ (by decide), s3 _ (by decide)⟩ : Ok4 1000 _ _ _ _)
  have u2 := pair_run (⟨f37, f1, s3 _ (by decide), s3 _ (by decide), a1.mono (by decide), b1.mono (by decide)⟩ : Ok4 1000 _ _ _ _)
  have u3 := pair_run (⟨f2, f12, a2.mono (by decide), b2.mono (by decide), s3 _ (by decide), s3 _ (by decide)⟩ : Ok4 1000 _ _ _ _)
  have u4 := pair_run (⟨f37, f2, s3 _ (by decide), s3 _ (by decide), a2.mono (by decide), b2.mono (by decide)⟩ : Ok4 1000 _ _ _ _)
  have w1 : F_ratio [.int 0, .int (-7)] = .ok (fr 0 1) := by
    rw [ratio_neg (by decide) ((s3 _ (by decide)).mono (by decide))]
    rfl
  have w2 : F_ratio [.int 6, .int (-4)] = .ok (fr (-3) 2) := by
    rw [ratio_neg (by decide) ((s3 _ (by decide)).mono (by decide))]
    rfl
  have f11 : Fr 1 2 := ⟨by decide, by decide⟩
  have f13 : Fr (-1) 3 := ⟨by decide, by decide⟩
  have f14 : Fr 1 3 := ⟨by decide, by decide⟩
  have w3 : F_over [fr 1 2, fr (-1) 3] = .ok (fr (-3) 2) := by
    rw [over_neg (⟨f11, f13, (s3 _ (by decide)).mono (by decide), (s3 _ (by decide)).mono (by decide), (s3 _ (by decide)).mono (by decide), (s3 _ (by decide)).mono (by decide)⟩ : Ok4 3500 _ _ _ _) (by decide)]
    rfl
  have w4 : F_is_less [fr 1 3, fr 1 2] = .ok (.bl true) := by
    rw [isless_run (⟨f14, f11, (s3 _ (by decide)).mono (by decide), (s3 _ (by decide)).mono (by decide), (s3 _ (by decide)).mono (by decide), (s3 _ (by decide)).mono (by decide)⟩ : Ok4 3500 _ _ _ _)]
    rfl
  have w5 : F_is_less [fr 1 2, fr 1 2] = .ok (.bl false) := by
    rw [isless_run (⟨f11, f11, (s3 _ (by decide)).mono (by decide), (s3 _ (by decide)).mono (by decide), (s3 _ (by decide)).mono (by decide), (s3 _ (by decide)).mono (by decide)⟩ : Ok4 3500 _ _ _ _)]
    rfl
  simp [u1, u2, u3, u4, t2, negW, w1, w2, w3, w4, w5, isW]
theorem law_ends : LawEnds g_law 6 := fun n hn => by
  unfold g_law
  rw [sSeq_eq]
  refine T.allB_bind.mpr ?_
  rw [sFor, iL_eq, fCons_eq, fNil_eq]
  simp only [T.bind_ok]
  rw [show rng1 [.int 12] = .ok (intsFrom 0 12) from rfl, T.bind_ok]
  refine T.AllB.imp (fun d x hx => ?_) (fun _ _ _ y => y) (forL_all (loopE n) loop_step (intsFrom 0 12) (2 ^ 60) (lawE n 6) ⟨⟨_, _, _, _, _, _, rfl⟩, by decide⟩)
  obtain ⟨ρ2, rfl, ⟨x2, x3, x4, x5, x6, x7, rfl⟩, _⟩ := hx
  obtain ⟨ρ, e⟩ := tail_run n x2 x3 x4 x5 x6 x7
  have k2 : T.AllB (fun _ x => ∃ ρ, x = (Fl.rt (.bl true), ρ)) (fun _ _ _ => False) d (T.ok (Fl.rt (.bl true), ρ)) := ⟨ρ, rfl⟩
  rw [← e] at k2
  exact k2
end Lw
namespace Lw
open PySem PySem.Spec PyProof.Rows L2 PF
open He in
def fa : List Fa := [.glo "is_integer", .glo "common", .glo "made", .glo "is_fraction", .glo "add", .glo "sub", .glo "mul", .glo "div", .glo "is_under", .glo "need_fraction", .glo "ratio", .glo "plus", .glo "less", .glo "times", .glo "over", .glo "is_less", .glo "_law_mixed", .glo "_law_begin", .glo "_law_draw", .glo "_law_ratio", .glo "_law_plus", .glo "_law_less", .glo "_law_times", .glo "_law_over", .glo "_law_under", .glo "_law_sum", .glo "_law_drawn", .glo "_law_pair_right", .glo "law", .glo "NOUGHT", .free "list", .free "isinstance", .free "int", .free "bool", .free "abs", .free "tuple", .free "len", .free "all", .free "range"]
def d_is_integer : He.DefD := ⟨("is_integer", none), "is_integer", "is_integer", defArgs (top 6), defBody (top 6), sc_is_integer, [], []⟩
def d_common : He.DefD := ⟨("common", none), "common", "common", defArgs (top 7), defBody (top 7), sc_common, [], []⟩
def d_made : He.DefD := ⟨("made", none), "made", "made", defArgs (top 8), defBody (top 8), sc_made, [], []⟩
def d_is_fraction : He.DefD := ⟨("is_fraction", none), "is_fraction", "is_fraction", defArgs (top 9), defBody (top 9), sc_is_fraction, [], []⟩
def d_add : He.DefD := ⟨("add", none), "add", "add", defArgs (top 10), defBody (top 10), sc_add, [], []⟩
def d_sub : He.DefD := ⟨("sub", none), "sub", "sub", defArgs (top 11), defBody (top 11), sc_sub, [], []⟩
def d_mul : He.DefD := ⟨("mul", none), "mul", "mul", defArgs (top 12), defBody (top 12), sc_mul, [], []⟩
def d_div : He.DefD := ⟨("div", none), "div", "div", defArgs (top 13), defBody (top 13), sc_div, [], []⟩
def d_is_under : He.DefD := ⟨("is_under", none), "is_under", "is_under", defArgs (top 14), defBody (top 14), sc_is_under, [], []⟩
def d_need_fraction : He.DefD := ⟨("need_fraction", none), "need_fraction", "need_fraction", defArgs (top 15), defBody (top 15), sc_need_fraction, [], []⟩
def d_ratio : He.DefD := ⟨("ratio", none), "ratio", "ratio", defArgs (top 16), defBody (top 16), sc_ratio, [], []⟩
def d_plus : He.DefD := ⟨("plus", none), "plus", "plus", defArgs (top 17), defBody (top 17), sc_plus, [], []⟩
def d_less : He.DefD := ⟨("less", none), "less", "less", defArgs (top 18), defBody (top 18), sc_less, [], []⟩
def d_times : He.DefD := ⟨("times", none), "times", "times", defArgs (top 19), defBody (top 19), sc_times, [], []⟩
def d_over : He.DefD := ⟨("over", none), "over", "over", defArgs (top 20), defBody (top 20), sc_over, [], []⟩
def d_is_less : He.DefD := ⟨("is_less", none), "is_less", "is_less", defArgs (top 21), defBody (top 21), sc_is_less, [], []⟩
def d__law_mixed : He.DefD := ⟨("_law_mixed", none), "_law_mixed", "_law_mixed", defArgs (top 23), defBody (top 23), sc__law_mixed, [], []⟩
def d__law_begin : He.DefD := ⟨("_law_begin", none), "_law_begin", "_law_begin", defArgs (top 24), defBody (top 24), sc__law_begin, [], []⟩
def d__law_draw : He.DefD := ⟨("_law_draw", none), "_law_draw", "_law_draw", defArgs (top 25), defBody (top 25), sc__law_draw, [], []⟩
def d__law_ratio : He.DefD := ⟨("_law_ratio", none), "_law_ratio", "_law_ratio", defArgs (top 26), defBody (top 26), sc__law_ratio, [], []⟩
def d__law_plus : He.DefD := ⟨("_law_plus", none), "_law_plus", "_law_plus", defArgs (top 27), defBody (top 27), sc__law_plus, [], []⟩
def d__law_less : He.DefD := ⟨("_law_less", none), "_law_less", "_law_less", defArgs (top 28), defBody (top 28), sc__law_less, [], []⟩
def d__law_times : He.DefD := ⟨("_law_times", none), "_law_times", "_law_times", defArgs (top 29), defBody (top 29), sc__law_times, [], []⟩
def d__law_over : He.DefD := ⟨("_law_over", none), "_law_over", "_law_over", defArgs (top 30), defBody (top 30), sc__law_over, [], []⟩
def d__law_under : He.DefD := ⟨("_law_under", none), "_law_under", "_law_under", defArgs (top 31), defBody (top 31), sc__law_under, [], []⟩
def d__law_sum : He.DefD := ⟨("_law_sum", none), "_law_sum", "_law_sum", defArgs (top 32), defBody (top 32), sc__law_sum, [], []⟩
def d__law_drawn : He.DefD := ⟨("_law_drawn", none), "_law_drawn", "_law_drawn", defArgs (top 33), defBody (top 33), sc__law_drawn, [], []⟩
def d__law_pair_right : He.DefD := ⟨("_law_pair_right", none), "_law_pair_right", "_law_pair_right", defArgs (top 34), defBody (top 34), sc__law_pair_right, [], []⟩
def d_law : He.DefD := ⟨("law", none), "law", "law", defArgs (top 35), defBody (top 35), sc_law, [], []⟩
def fn : List He.DefD := [d_is_integer, d_common, d_made, d_is_fraction, d_add, d_sub, d_mul, d_div, d_is_under, d_need_fraction, d_ratio, d_plus, d_less, d_times, d_over, d_is_less, d__law_mixed, d__law_begin, d__law_draw, d__law_ratio, d__law_plus, d__law_less, d__law_times, d__law_over, d__law_under, d__law_sum, d__law_drawn, d__law_pair_right, d_law]
open He in
def ex : PySem.W.Frag → Bool := fun K => (tupB K "NOUGHT" [(.int 0), (.int 1)]) && (true)
def names0 : List Str := ["NestError", "BadFraction", "BadNumber", "NOUGHT", "is_integer", "common", "made", "is_fraction", "add", "sub", "mul", "div", "is_under", "need_fraction", "ratio", "plus", "less", "times", "over", "is_less", "_law_mixed", "_law_begin", "_law_draw", "_law_ratio", "_law_plus", "_law_less", "_law_times", "_law_over", "_law_under", "_law_sum", "_law_drawn", "_law_pair_right"]
def names : List Str := names0
abbrev R : PySem.W.OpenRow := PySem.W.OpenLaw.row PySem.Challenge.rw_nestletters_k01_whole_ratios
abbrev hk : PySem.W.Hook := hookF 4 fa fn ex
def ob (s : PySem.W.SharedT) : AlF := obsF 4 fa fn ex (HandSHeadRun.getT s)
theorem ob_eq (s : PySem.W.SharedT) : ob s = hk.obs s.abs := obsF_eq (HandSHeadRun.getT_eq s)
set_option maxHeartbeats 0 in
theorem run (w : World) : HandSHeadRun.RunEq R (PySem.W.view R.prog [35]) hk ob 8000 names w := by
  intro os
  kernel_rfl
theorem facts {P : Program} {w : World} {K : PySem.W.Frag} {h : Heap} {mg : Str → Option Value} {f : Addr} (en : LawEnds g_law 6) (X : K.In h) (G : h.Ns mainGlobals mg) (hfa : mg ("law" : Str) = some (.ref f)) (c : SaysF fa fn ex K) :
    ∃ fd : FuncData, (∀ (s : Shared) (v : Value), BindsTo s fd ⟨[v], []⟩ [("_law_script", v)]) ∧ ∀ base : Heap, K.In base → base.Ns mainGlobals mg → FnOk P w K mg base (L2.CX P w) 6 f fd ["_law_script"] (spLaw K) := by
  obtain ⟨fd_is_integer, D_is_integer⟩ := c.d.def_ 0 (d := d_is_integer) rfl
  have gl_is_integer := He.glo_ok X G (c.fact 0 (f := .glo "is_integer") rfl)
  obtain ⟨fd_common, D_common⟩ := c.d.def_ 1 (d := d_common) rfl
  have gl_common := He.glo_ok X G (c.fact 1 (f := .glo "common") rfl)
  obtain ⟨fd_made, D_made⟩ := c.d.def_ 2 (d := d_made) rfl
  have gl_made := He.glo_ok X G (c.fact 2 (f := .glo "made") rfl)
  obtain ⟨fd_is_fraction, D_is_fraction⟩ := c.d.def_ 3 (d := d_is_fraction) rfl
  have gl_is_fraction := He.glo_ok X G (c.fact 3 (f := .glo "is_fraction") rfl)
  obtain ⟨fd_add, D_add⟩ := c.d.def_ 4 (d := d_add) rfl
  have gl_add := He.glo_ok X G (c.fact 4 (f := .glo "add") rfl)
  obtain ⟨fd_sub, D_sub⟩ := c.d.def_ 5 (d := d_sub) rfl
  have gl_sub := He.glo_ok X G (c.fact 5 (f := .glo "sub") rfl)
  obtain ⟨fd_mul, D_mul⟩ := c.d.def_ 6 (d := d_mul) rfl
  have gl_mul := He.glo_ok X G (c.fact 6 (f := .glo "mul") rfl)
  obtain ⟨fd_div, D_div⟩ := c.d.def_ 7 (d := d_div) rfl
  have gl_div := He.glo_ok X G (c.fact 7 (f := .glo "div") rfl)
  obtain ⟨fd_is_under, D_is_under⟩ := c.d.def_ 8 (d := d_is_under) rfl
  have gl_is_under := He.glo_ok X G (c.fact 8 (f := .glo "is_under") rfl)
  obtain ⟨fd_need_fraction, D_need_fraction⟩ := c.d.def_ 9 (d := d_need_fraction) rfl
  have gl_need_fraction := He.glo_ok X G (c.fact 9 (f := .glo "need_fraction") rfl)
  obtain ⟨fd_ratio, D_ratio⟩ := c.d.def_ 10 (d := d_ratio) rfl
  have gl_ratio := He.glo_ok X G (c.fact 10 (f := .glo "ratio") rfl)
  obtain ⟨fd_plus, D_plus⟩ := c.d.def_ 11 (d := d_plus) rfl
  have gl_plus := He.glo_ok X G (c.fact 11 (f := .glo "plus") rfl)
  obtain ⟨fd_less, D_less⟩ := c.d.def_ 12 (d := d_less) rfl
  have gl_less := He.glo_ok X G (c.fact 12 (f := .glo "less") rfl)
  obtain ⟨fd_times, D_times⟩ := c.d.def_ 13 (d := d_times) rfl
  have gl_times := He.glo_ok X G (c.fact 13 (f := .glo "times") rfl)
  obtain ⟨fd_over, D_over⟩ := c.d.def_ 14 (d := d_over) rfl
  have gl_over := He.glo_ok X G (c.fact 14 (f := .glo "over") rfl)
  obtain ⟨fd_is_less, D_is_less⟩ := c.d.def_ 15 (d := d_is_less) rfl
  have gl_is_less := He.glo_ok X G (c.fact 15 (f := .glo "is_less") rfl)
  obtain ⟨fd__law_mixed, D__law_mixed⟩ := c.d.def_ 16 (d := d__law_mixed) rfl
  have gl__law_mixed := He.glo_ok X G (c.fact 16 (f := .glo "_law_mixed") rfl)
  obtain ⟨fd__law_begin, D__law_begin⟩ := c.d.def_ 17 (d := d__law_begin) rfl
  have gl__law_begin := He.glo_ok X G (c.fact 17 (f := .glo "_law_begin") rfl)
  obtain ⟨fd__law_draw, D__law_draw⟩ := c.d.def_ 18 (d := d__law_draw) rfl
  have gl__law_draw := He.glo_ok X G (c.fact 18 (f := .glo "_law_draw") rfl)
  obtain ⟨fd__law_ratio, D__law_ratio⟩ := c.d.def_ 19 (d := d__law_ratio) rfl
  have gl__law_ratio := He.glo_ok X G (c.fact 19 (f := .glo "_law_ratio") rfl)
  obtain ⟨fd__law_plus, D__law_plus⟩ := c.d.def_ 20 (d := d__law_plus) rfl
  have gl__law_plus := He.glo_ok X G (c.fact 20 (f := .glo "_law_plus") rfl)
  obtain ⟨fd__law_less, D__law_less⟩ := c.d.def_ 21 (d := d__law_less) rfl
  have gl__law_less := He.glo_ok X G (c.fact 21 (f := .glo "_law_less") rfl)
  obtain ⟨fd__law_times, D__law_times⟩ := c.d.def_ 22 (d := d__law_times) rfl
  have gl__law_times := He.glo_ok X G (c.fact 22 (f := .glo "_law_times") rfl)
  obtain ⟨fd__law_over, D__law_over⟩ := c.d.def_ 23 (d := d__law_over) rfl
  have gl__law_over := He.glo_ok X G (c.fact 23 (f := .glo "_law_over") rfl)
  obtain ⟨fd__law_under, D__law_under⟩ := c.d.def_ 24 (d := d__law_under) rfl
  have gl__law_under := He.glo_ok X G (c.fact 24 (f := .glo "_law_under") rfl)
  obtain ⟨fd__law_sum, D__law_sum⟩ := c.d.def_ 25 (d := d__law_sum) rfl
  have gl__law_sum := He.glo_ok X G (c.fact 25 (f := .glo "_law_sum") rfl)
  obtain ⟨fd__law_drawn, D__law_drawn⟩ := c.d.def_ 26 (d := d__law_drawn) rfl
  have gl__law_drawn := He.glo_ok X G (c.fact 26 (f := .glo "_law_drawn") rfl)
  obtain ⟨fd__law_pair_right, D__law_pair_right⟩ := c.d.def_ 27 (d := d__law_pair_right) rfl
  have gl__law_pair_right := He.glo_ok X G (c.fact 27 (f := .glo "_law_pair_right") rfl)
  obtain ⟨fd_law, D_law⟩ := c.d.def_ 28 (d := d_law) rfl
  have gl_law := He.glo_ok X G (c.fact 28 (f := .glo "law") rfl)
  have m_list := He.free_ok X G (c.fact 30 (f := .free "list") rfl)
  have m_isinstance := He.free_ok X G (c.fact 31 (f := .free "isinstance") rfl)
  have m_int := He.free_ok X G (c.fact 32 (f := .free "int") rfl)
  have m_bool := He.free_ok X G (c.fact 33 (f := .free "bool") rfl)
  have m_abs := He.free_ok X G (c.fact 34 (f := .free "abs") rfl)
  have m_tuple := He.free_ok X G (c.fact 35 (f := .free "tuple") rfl)
  have m_len := He.free_ok X G (c.fact 36 (f := .free "len") rfl)
  have m_all := He.free_ok X G (c.fact 37 (f := .free "all") rfl)
  have m_range := He.free_ok X G (c.fact 38 (f := .free "range") rfl)
  have hex := c.more
  unfold ex at hex
  simp only [Bool.and_eq_true] at hex
  have c_NOUGHT : CsIs K mg "NOUGHT" k_NOUGHT := cs_tup X G (c.fact 29 (f := .glo "NOUGHT") rfl) hex.1 rfl
  have e := hfa.symm.trans gl_law
  cases e
  have b := FunD.bindsA (ps := ["_law_script"]) D_law fun _ _ _ _ _ _ us hl => match us, hl with | [_], _ => rfl
  refine ⟨fd_law, fun s v => b s [v] rfl, fun base _ _ => ?_⟩
  have h_is_integer := ok_is_integer (P := P) (w := w) (base := base) D_is_integer gl_is_integer m_isinstance m_int m_bool
  have h_common := ok_common (P := P) (w := w) (base := base) D_common gl_common m_abs m_int
  have h_made := ok_made (P := P) (w := w) (base := base) D_made gl_made h_common
  have h_is_fraction := ok_is_fraction (P := P) (w := w) (base := base) D_is_fraction gl_is_fraction m_isinstance m_tuple m_len m_all h_is_integer h_common
  have h_add := ok_add (P := P) (w := w) (base := base) D_add gl_add h_made
  have h_sub := ok_sub (P := P) (w := w) (base := base) D_sub gl_sub h_made
  have h_mul := ok_mul (P := P) (w := w) (base := base) D_mul gl_mul h_made
  have h_div := ok_div (P := P) (w := w) (base := base) D_div gl_div h_made
  have h_is_under := ok_is_under (P := P) (w := w) (base := base) D_is_under gl_is_under 
  have h_need_fraction := ok_need_fraction (P := P) (w := w) (base := base) D_need_fraction gl_need_fraction h_is_fraction
  have h_ratio := ok_ratio (P := P) (w := w) (base := base) D_ratio gl_ratio h_is_integer h_made
  have h_plus := ok_plus (P := P) (w := w) (base := base) D_plus gl_plus h_add h_need_fraction
  have h_less := ok_less (P := P) (w := w) (base := base) D_less gl_less h_sub h_need_fraction
  have h_times := ok_times (P := P) (w := w) (base := base) D_times gl_times h_mul h_need_fraction
  have h_over := ok_over (P := P) (w := w) (base := base) D_over gl_over c_NOUGHT h_need_fraction h_div
  have h_is_less := ok_is_less (P := P) (w := w) (base := base) D_is_less gl_is_less h_is_under h_need_fraction
  have h__law_mixed := ok__law_mixed (P := P) (w := w) (base := base) D__law_mixed gl__law_mixed m_int
  have h__law_draw := ok__law_draw (P := P) (w := w) (base := base) D__law_draw gl__law_draw m_int m_len h__law_mixed
  have h__law_ratio := ok__law_ratio (P := P) (w := w) (base := base) D__law_ratio gl__law_ratio m_abs m_int
  have h__law_plus := ok__law_plus (P := P) (w := w) (base := base) D__law_plus gl__law_plus h__law_ratio
  have h__law_less := ok__law_less (P := P) (w := w) (base := base) D__law_less gl__law_less h__law_ratio
  have h__law_times := ok__law_times (P := P) (w := w) (base := base) D__law_times gl__law_times h__law_ratio
  have h__law_over := ok__law_over (P := P) (w := w) (base := base) D__law_over gl__law_over h__law_ratio
  have h__law_under := ok__law_under (P := P) (w := w) (base := base) D__law_under gl__law_under 
  have h__law_sum := ok__law_sum (P := P) (w := w) (base := base) D__law_sum gl__law_sum h__law_plus
  have h__law_drawn := ok__law_drawn (P := P) (w := w) (base := base) D__law_drawn gl__law_drawn h__law_draw h__law_ratio
  have h__law_pair_right := ok__law_pair_right (P := P) (w := w) (base := base) D__law_pair_right gl__law_pair_right m_abs h_need_fraction h_plus h__law_plus h_less h__law_less h_times h__law_times h_is_less h__law_under h__law_ratio h_over
  exact ok_law D_law D__law_begin gl__law_begin m_list en m_range h__law_drawn h__law_pair_right h__law_draw h_ratio h__law_ratio h_times h_over h_is_less
end Lw
open PySem PySem.W PySem.Calls PyProof.Rows
set_option maxRecDepth 100000 in
set_option maxHeartbeats 0 in
theorem PySem.Challenge.cw_nestletters_k01_whole_ratios_holds : PySem.Challenge.rw_nestletters_k01_whole_ratios.Holds := by
  w_on; o_law
  refine HandSHeadRun.head_any (r := OpenLaw.row PySem.Challenge.rw_nestletters_k01_whole_ratios) (q := view (OpenLaw.row PySem.Challenge.rw_nestletters_k01_whole_ratios).prog [35]) (H := Lw.hk) (ob := Lw.ob) (M := 8000) (loose := Lw.names) (d := HandSHeadRun.topDef (OpenLaw.row PySem.Challenge.rw_nestletters_k01_whole_ratios).prog 35) (kwd := []) Lw.ob_eq
    (by kernel_rfl) (fun s => by kernel_rfl) Lw.run (by kernel_rfl) (by kernel_rfl) (by kernel_rfl) (by rfl) (by first | assumption | decide +kernel) (by decide +kernel) ⟨rfl, rfl, rfl, rfl, rfl, by decide +kernel⟩ ?hw ?hc
  case hw => w_witness2
  case hc =>
    refine PF.walk_w (l := PySem.Challenge.rw_nestletters_k01_whole_ratios) (n := 63) (k := 6) (x := "_law_script") (CX := fun w => L2.CX (PySem.Challenge.rw_nestletters_k01_whole_ratios).prog w) rfl (by decide) (by kernel_rfl) ⟨rfl, by decide, by decide⟩ ?F (fun w H s e s' h => PF.cx_none h)
    intro w mg fa h Y G hmg0
    obtain ⟨K, KX, c⟩ := Y
    have hmg : mg ("law" : PySem.Str) = some (.ref fa) := by
      have e : (HandSHeadRun.topDef (OpenLaw.row PySem.Challenge.rw_nestletters_k01_whole_ratios).prog 35).name = ("law" : PySem.Str) := by kernel_rfl
      rw [← e]
      exact hmg0
    obtain ⟨fd, hb, hF⟩ := Lw.facts (P := (PySem.Challenge.rw_nestletters_k01_whole_ratios).prog) (w := w) Lw.law_ends KX G hmg c
    exact ⟨K, fd, PF.spLaw K, KX, hb, fun H a ns hl _ hS => ⟨a, ns, rfl, hS, hl, fun _ => rfl⟩, hF⟩
