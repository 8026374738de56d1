import PyProof.Rows.All
import Wide.All
import OpenK.AllK
import Wide.FinOn
import HandS.ForMost
import HandS.ForExc
import HandS.Wide
import HandS.CallSlots
import HandS.IsInst
import HandS.HeadWalk
import HandS.HeadHook4
import HandS.HeadEnd
import HandS.TupAny
import HandS.TupLe
import HandS.TupMul
import KE.KStateDown
import HandS.Iter
import HandS.Zip
import KE.GoesEnum
import KE.KTupSum
import KE.KEqDeep
import PyProof.P3Eq
import HandS.Head0
import HandS.Head1
import HandS.Head2
import HandS.HeadHook2
import PyProof.ReprRoads
import HandS.Star
import HandS.RaiseMore
import HandS.Deep
import HandS.Style
import PyProof.P3In
import HandS.SortRule
import HandS.SortInts
import KE.GoesZip
import PySem.Challenge.RW_nestletters_k17_whole_chances
set_option Elab.async false
set_option linter.all false
set_option maxRecDepth 100000
set_option maxHeartbeats 4000000
namespace PF
open PySem PySem.Spec PyProof.Rows L2
abbrev St := L2.St
inductive W where
  | non | bl (b : Bool) | int (i : Int) | str (x : Str)
  | tup (ws : List W) | lst (ws : List W)
  | dct (ks : List Key) (ws : List W)
  | scr (n : Nat) | stt
  | clo (i : Nat) (ws : List W) | exo (c : Nat) (fs : List W) | ref (n : Nat)
inductive T (α : Type) where
  | ok (a : α) | exc (c : Nat) (fs : List W) | bad | ask (n : Nat) (k : Nat → T α)
def T.bind {α β : Type} : T α → (α → T β) → T β
  | .ok a, f => f a
  | .exc c fs, _ => .exc c fs
  | .bad, _ => .bad
  | .ask n k, f => .ask n fun i => (k i).bind f
/-- d: how many draws may come -/
def T.AllB {α : Type} (P : Nat → α → Prop) (E : Nat → Nat → List W → Prop) : Nat → T α → Prop
  | d, .ok a => P d a
  | d, .exc c fs => E d c fs
  | _, .bad => False
  | d, .ask n k => ∃ e, d = e + 1 ∧ ∀ i, i < n → T.AllB P E e (k i)
theorem T.AllB.imp {α : Type} {P P' : Nat → α → Prop} {E E' : Nat → Nat → List W → Prop} (h : ∀ d a, P d a → P' d a) (g : ∀ d c fs, E d c fs → E' d c fs) : ∀ {t : T α} {d : Nat}, t.AllB P E d → t.AllB P' E' d
  | .ok a, d, x => h d a x
  | .exc c fs, d, x => g d c fs x
  | .bad, _, x => x
  | .ask n k, d, x => by
    obtain ⟨e, he, x⟩ := x
    exact ⟨e, he, fun i hi => T.AllB.imp h g (x i hi)⟩
theorem T.allB_bind {α β : Type} {P : Nat → β → Prop} {E : Nat → Nat → List W → Prop} {f : α → T β} : ∀ {t : T α} {d : Nat}, (t.bind f).AllB P E d ↔ t.AllB (fun d a => (f a).AllB P E d) E d
  | .ok a, d => Iff.rfl
  | .exc c fs, d => Iff.rfl
  | .bad, _ => Iff.rfl
  | .ask n k, d => by
    constructor
    · rintro ⟨e, he, x⟩
      exact ⟨e, he, fun i hi => T.allB_bind.mp (x i hi)⟩
    · rintro ⟨e, he, x⟩
      exact ⟨e, he, fun i hi => T.allB_bind.mpr (x i hi)⟩
structure Cc where
  S : Addr
  ca : Addr
  la : Addr
  A : List Addr
  M : List Addr
def kCells : Str := "cells"
def kLefts : Str := "lefts"
def kAt : Str := "at"
def kRoom : Str := "room"
/-- the state stands; so many draws may come -/
def StOk (c : Cc) (d : Nat) (H : Hp) : Prop :=
  ∃ (cells lefts : List Int) (k r : Int), H c.S = some (.dK [(.inr kCells, .ref c.ca), (.inr kLefts, .ref c.la), (.inr kAt, .int k), (.inr kRoom, .int r)]) ∧
    H c.ca = some (.lst (cells.map V.int)) ∧ H c.la = some (.lst (lefts.map V.int)) ∧ lefts.length = cells.length ∧ 0 < cells.length ∧ 0 ≤ k ∧ k + d ≤ 2 ^ 60 ∧ c.ca ≠ c.la
/-- all but the state's own two objects is kept -/
def Step (c : Cc) (H H' : Hp) : Prop := ∀ b o, H b = some o → b ≠ c.S → b ≠ c.la → H' b = some o
theorem Step.refl (c : Cc) (H : Hp) : Step c H H := fun _ _ e _ _ => e
theorem Step.trans {c : Cc} {H H1 H2 : Hp} (a : Step c H H1) (b : Step c H1 H2) : Step c H H2 := fun x o e h1 h2 => b x o (a x o e h1 h2) h1 h2
theorem Step.new {c : Cc} {H : Hp} {p : Addr} {o : HO} (n : H p = none) : Step c H (upd H p o) := fun b u e _ _ => by
  rw [upd_ne (ne_of_none e n)]
  exact e
theorem StOk.new {c : Cc} {d : Nat} {H : Hp} {p : Addr} {o : HO} (s : StOk c d H) (n : H p = none) : StOk c d (upd H p o) := by
  obtain ⟨cells, lefts, k, r, h1, h2, h3, h⟩ := s
  exact ⟨cells, lefts, k, r, by rw [upd_ne (ne_of_none h1 n)]; exact h1, by rw [upd_ne (ne_of_none h2 n)]; exact h2, by rw [upd_ne (ne_of_none h3 n)]; exact h3, h⟩
theorem StOk.S {c : Cc} {d : Nat} {H : Hp} (s : StOk c d H) : ∃ kvs, H c.S = some (.dK kvs) := by
  obtain ⟨_, _, _, _, h1, _⟩ := s
  exact ⟨_, h1⟩
theorem StOk.la {c : Cc} {d : Nat} {H : Hp} (s : StOk c d H) : ∃ xs, H c.la = some (.lst xs) := by
  obtain ⟨_, _, _, _, _, _, h3, _⟩ := s
  exact ⟨_, h3⟩
mutual
inductive Rep (K : PySem.W.Frag) (c : Cc) (H : Hp) : W → V → Prop
  | non : Rep K c H .non .non
  | bl (b : Bool) : Rep K c H (.bl b) (.bl b)
  | int (i : Int) : Rep K c H (.int i) (.int i)
  | str (x : Str) : Rep K c H (.str x) (.str x)
  | tup {a : Addr} {vs : List V} {ws : List W} : SqT K H a vs → RepL K c H ws vs → Rep K c H (.tup ws) (.ref a)
  | lst {a : Addr} {vs : List V} {ws : List W} : a ∉ c.A → H a = some (.lst vs) → RepL K c H ws vs → Rep K c H (.lst ws) (.ref a)
  | dct {a : Addr} {kvs : List (Key × V)} {ws : List W} : a ∉ c.A → H a = some (.dK kvs) → RepL K c H ws (kvs.map (·.2)) → Rep K c H (.dct (kvs.map (·.1)) ws) (.ref a)
  | scr {a : Addr} {ns : List Int} : (a ∉ c.A ∧ Rd H a (.lst (ns.map V.int))) ∨ SqL K (fun _ => none) a (ns.map V.int) → Rep K c H (.scr ns.length) (.ref a)
  | stt : Rep K c H .stt (.ref c.S)
inductive RepL (K : PySem.W.Frag) (c : Cc) (H : Hp) : List W → List V → Prop
  | nil : RepL K c H [] []
  | cons {w : W} {v : V} {ws : List W} {vs : List V} : Rep K c H w v → RepL K c H ws vs → RepL K c H (w :: ws) (v :: vs)
end
theorem Step.sqT {K : PySem.W.Frag} {c : Cc} {d : Nat} {H H' : Hp} {a : Addr} {vs : List V} (st : Step c H H') (s : StOk c d H) (h : SqT K H a vs) : SqT K H' a vs := by
  obtain ⟨kvs, hS⟩ := s.S
  obtain ⟨xs, hl⟩ := s.la
  rcases h with (h | ⟨o, h⟩) | h
  · exact .inl (.inl (st _ _ h (ne_of h hS (by intro z; cases z)) (ne_of h hl (by intro z; cases z))))
  · exact .inl (.inr ⟨o, st _ _ h (ne_of h hS (by intro z; cases z)) (ne_of h hl (by intro z; cases z))⟩)
  · exact .inr h
/-- what is fixed through a run -/
structure CcOk (c : Cc) : Prop where
  inS : c.S ∈ c.A
  inla : c.la ∈ c.A
  inca : c.ca ∈ c.A
theorem CcOk.neS {c : Cc} (h : CcOk c) {a : Addr} (n : a ∉ c.A) : a ≠ c.S := fun e => n (e ▸ h.inS)
theorem CcOk.nela {c : Cc} (h : CcOk c) {a : Addr} (n : a ∉ c.A) : a ≠ c.la := fun e => n (e ▸ h.inla)
theorem sqL_split {K : PySem.W.Frag} {H : Hp} {a : Addr} {vs : List V} (h : SqL K H a vs) : Rd H a (.lst vs) ∨ SqL K (fun _ => none) a vs := by
  rcases h with h | h
  · exact .inl h
  · exact .inr (.inr h)
theorem sqL_of_none {K : PySem.W.Frag} {H : Hp} {a : Addr} {vs : List V} (h : SqL K (fun _ => none) a vs) : SqL K H a vs := by
  rcases h with (h | ⟨_, h⟩) | h
  · cases h
  · cases h
  · exact .inr h
section
variable {K : PySem.W.Frag} {c : Cc} {d : Nat} {H H' : Hp}
theorem Step.lst {a : Addr} {o : HO} (st : Step c H H') (ok : CcOk c) (n : a ∉ c.A) (h : H a = some o) : H' a = some o := st a o h (ok.neS n) (ok.nela n)
mutual
theorem Rep.step (st : Step c H H') (s : StOk c d H) (ok : CcOk c) : ∀ {w : W} {v : V}, Rep K c H w v → Rep K c H' w v
  | _, _, .non => .non
  | _, _, .bl b => .bl b
  | _, _, .int i => .int i
  | _, _, .str x => .str x
  | _, _, .tup h r => .tup (st.sqT s h) (RepL.step st s ok r)
  | _, _, .lst n h r => .lst n (st.lst ok n h) (RepL.step st s ok r)
  | _, _, .dct n h r => .dct n (st.lst ok n h) (RepL.step st s ok r)
  | _, _, .scr h => .scr (h.imp (fun ⟨n, r⟩ => ⟨n, r.imp (fun e => st.lst ok n e) fun ⟨o, e⟩ => ⟨o, st.lst ok n e⟩⟩) id)
  | _, _, .stt => .stt
theorem RepL.step (st : Step c H H') (s : StOk c d H) (ok : CcOk c) : ∀ {ws : List W} {vs : List V}, RepL K c H ws vs → RepL K c H' ws vs
  | _, _, .nil => .nil
  | _, _, .cons h r => .cons (Rep.step st s ok h) (RepL.step st s ok r)
end
theorem RepL.length : ∀ {ws : List W} {vs : List V}, RepL K c H ws vs → ws.length = vs.length
  | _, _, .nil => rfl
  | _, _, .cons _ r => congrArg (· + 1) (RepL.length r)
theorem RepL.get : ∀ {ws : List W} {vs : List V}, RepL K c H ws vs → ∀ {i : Nat} {w : W}, ws[i]? = some w → ∃ v, vs[i]? = some v ∧ Rep K c H w v
  | _, _, .nil, i, w, e => by simp at e
  | _, _, .cons h r, 0, w, e => by
    simp at e
    subst e
    exact ⟨_, rfl, h⟩
  | _, _, .cons h r, i + 1, w, e => by
    obtain ⟨v, e1, e2⟩ := RepL.get r (i := i) (w := w) (by simpa using e)
    exact ⟨v, by simpa using e1, e2⟩
theorem RepL.append : ∀ {ws ws' : List W} {vs vs' : List V}, RepL K c H ws vs → RepL K c H ws' vs' → RepL K c H (ws ++ ws') (vs ++ vs')
  | _, _, _, _, .nil, h => h
  | _, _, _, _, .cons h r, h' => .cons h (RepL.append r h')
theorem RepL.take : ∀ {ws : List W} {vs : List V} (n : Nat), RepL K c H ws vs → RepL K c H (ws.take n) (vs.take n)
  | _, _, 0, _ => .nil
  | _, _, _ + 1, .nil => .nil
  | _, _, n + 1, .cons h r => .cons h (RepL.take n r)
theorem RepL.drop : ∀ {ws : List W} {vs : List V} (n : Nat), RepL K c H ws vs → RepL K c H (ws.drop n) (vs.drop n)
  | _, _, 0, r => r
  | _, _, _ + 1, .nil => .nil
  | _, _, n + 1, .cons _ r => RepL.drop n r
theorem RepL.set : ∀ {ws : List W} {vs : List V} {w : W} {v : V} (n : Nat), RepL K c H ws vs → Rep K c H w v → RepL K c H (ws.set n w) (vs.set n v)
  | _, _, _, _, _, .nil, _ => .nil
  | _, _, _, _, 0, .cons _ r, h => .cons h r
  | _, _, _, _, n + 1, .cons q r, h => .cons q (RepL.set n r h)
theorem RepL.reverse : ∀ {ws : List W} {vs : List V}, RepL K c H ws vs → RepL K c H ws.reverse vs.reverse
  | _, _, .nil => .nil
  | _, _, .cons h r => by
    rw [List.reverse_cons, List.reverse_cons]
    exact (RepL.reverse r).append (.cons h .nil)
/-- a list of ints, of bools, of texts: the values are told -/
theorem RepL.ints : ∀ {ns : List Int} {vs : List V}, RepL K c H (ns.map W.int) vs → vs = ns.map V.int
  | [], _, .nil => rfl
  | n :: ns, _, .cons h r => by
    cases h
    rw [RepL.ints r]
    rfl
theorem RepL.bls : ∀ {ns : List Bool} {vs : List V}, RepL K c H (ns.map W.bl) vs → vs = ns.map V.bl
  | [], _, .nil => rfl
  | n :: ns, _, .cons h r => by
    cases h
    rw [RepL.bls r]
    rfl
theorem RepL.strs : ∀ {ns : List Str} {vs : List V}, RepL K c H (ns.map W.str) vs → vs = ns.map V.str
  | [], _, .nil => rfl
  | n :: ns, _, .cons h r => by
    cases h
    rw [RepL.strs r]
    rfl
theorem RepL.ofInts : ∀ (ns : List Int), RepL K c H (ns.map W.int) (ns.map V.int)
  | [] => .nil
  | n :: ns => .cons (.int n) (RepL.ofInts ns)
end
/-- the world stands -/
structure Wd (c : Cc) (d : Nat) (H : Hp) : Prop where
  ok : CcOk c
  st : StOk c d H
  av : ∀ b ∈ c.A, ∃ o, H b = some o
theorem Wd.fresh {c : Cc} {d : Nat} {H : Hp} {p : Addr} (w : Wd c d H) (n : H p = none) : p ∉ c.A := fun h => by
  obtain ⟨o, e⟩ := w.av p h
  rw [n] at e
  cases e
theorem Wd.step {c : Cc} {d d' : Nat} {H H' : Hp} (w : Wd c d H) (st : Step c H H') (s' : StOk c d' H') : Wd c d' H' := ⟨w.ok, s', fun b hb => by
    obtain ⟨o, h⟩ := w.av b hb
    by_cases h1 : b = c.S
    · obtain ⟨kvs, h2⟩ := s'.S
      exact ⟨_, h1 ▸ h2⟩
    · by_cases h2 : b = c.la
      · obtain ⟨xs, h3⟩ := s'.la
        exact ⟨_, h2 ▸ h3⟩
      · exact ⟨o, st b o h h1 h2⟩⟩
theorem Wd.new {c : Cc} {d : Nat} {H : Hp} {p : Addr} {o : HO} (w : Wd c d H) (n : H p = none) : Wd c d (upd H p o) := w.step (.new n) (w.st.new n)
inductive Sl where
  | un | val (w : W) | own (ws : List W)
abbrev En := List Sl
/-- the frame's own lists -/
structure MOk (c : Cc) (H : Hp) : Prop where
  inA : ∀ b ∈ c.M, b ∈ c.A
  nst : ∀ b ∈ c.M, b ∉ [c.S, c.ca, c.la]
  ls : ∀ b ∈ c.M, ∃ xs, H b = some (.lst xs)
theorem MOk.step {c : Cc} {H H' : Hp} (m : MOk c H) (st : Step c H H') : MOk c H' := ⟨m.inA, m.nst, fun b hb => by
  obtain ⟨xs, h⟩ := m.ls b hb
  have n := m.nst b hb
  simp only [List.mem_cons, not_or] at n
  exact ⟨xs, st b _ h n.1 n.2.2.1⟩⟩
/-- oa: the addresses of the lists that the frame's own slots hold -/
structure EnvOk (K : PySem.W.Frag) (c : Cc) (d : Nat) (oa : Nat → Addr) (ρ : En) (σ : St) (H : Hp) : Prop where
  ok : CcOk c
  st : StOk c d H
  av : ∀ b ∈ c.A, ∃ o, H b = some o
  len : ρ.length = σ.length
  val : ∀ (i : Nat) (w : W), ρ[i]? = some (.val w) → ∃ v, σ[i]? = some (some v) ∧ Rep K c H w v
  m : MOk c H
  own : ∀ (i : Nat) (ws : List W), ρ[i]? = some (.own ws) → oa i ∈ c.M ∧ σ[i]? = some (some (.ref (oa i))) ∧ ∃ vs, H (oa i) = some (.lst vs) ∧ RepL K c H ws vs
  inj : ∀ (i j : Nat) (ws us : List W), ρ[i]? = some (.own ws) → ρ[j]? = some (.own us) → oa i = oa j → i = j
section
variable {K : PySem.W.Frag} {c : Cc} {d d' : Nat} {oa : Nat → Addr} {ρ : En} {σ : St} {H H' : Hp}
theorem EnvOk.wd (e : EnvOk K c d oa ρ σ H) : Wd c d H := ⟨e.ok, e.st, e.av⟩
theorem EnvOk.step (e : EnvOk K c d oa ρ σ H) (st : Step c H H') (s' : StOk c d' H') : EnvOk K c d' oa ρ σ H' where
  ok := e.ok
  st := s'
  av := (e.wd.step st s').av
  len := e.len
  val := fun i w h => by
    obtain ⟨v, h1, h2⟩ := e.val i w h
    exact ⟨v, h1, h2.step st e.st e.ok⟩
  m := e.m.step st
  own := fun i ws h => by
    obtain ⟨h1, h3, vs, h4, h5⟩ := e.own i ws h
    have h2 := e.m.nst _ h1
    refine ⟨h1, h3, vs, st _ _ h4 ?_ ?_, h5.step st e.st e.ok⟩
    · intro z
      exact h2 (by rw [z]; simp)
    · intro z
      exact h2 (by rw [z]; simp)
  inj := e.inj
end
/-- an error's class is the module's name at n of cs; its dict holds the fields -/
def RepX (K : PySem.W.Frag) (c : Cc) (H : Hp) (n : Nat) (fs : List W) (cls : Value) (dx : Option Addr) : Prop := False
/-- what is wanted of an expression's run -/
def PQ (K : PySem.W.Frag) (c : Cc) (H : Hp) (Q : VK) : Nat → W → Prop := fun d w => ∀ v H', Step c H H' → StOk c d H' → Rep K c H' w v → Q v H'
def PQL (K : PySem.W.Frag) (c : Cc) (H : Hp) (Q : List V → Hp → Prop) : Nat → List W → Prop := fun d ws => ∀ vs H', Step c H H' → StOk c d H' → RepL K c H' ws vs → Q vs H'
def PB (c : Cc) (H : Hp) (Q : Bool → Hp → Prop) : Nat → Bool → Prop := fun d b => ∀ H', Step c H H' → StOk c d H' → Q b H'
theorem PB.later {c : Cc} {H H1 : Hp} {Q : Bool → Hp → Prop} {d : Nat} {b : Bool} (s : Step c H H1) (h : PB c H Q d b) : PB c H1 Q d b := fun H' st so => h H' (s.trans st) so
def PX (K : PySem.W.Frag) (c : Cc) (H : Hp) (E : XK) : Nat → Nat → List W → Prop := fun d n fs => ∀ cls dx H', Step c H H' → StOk c d H' → RepX K c H' n fs cls dx → E cls dx H'
theorem PQ.later {K : PySem.W.Frag} {c : Cc} {H H1 : Hp} {Q : VK} {d : Nat} {w : W} (s : Step c H H1) (h : PQ K c H Q d w) : PQ K c H1 Q d w := fun v H' st so r => h v H' (s.trans st) so r
theorem PQL.later {K : PySem.W.Frag} {c : Cc} {H H1 : Hp} {Q : List V → Hp → Prop} {d : Nat} {w : List W} (s : Step c H H1) (h : PQL K c H Q d w) : PQL K c H1 Q d w := fun v H' st so r => h v H' (s.trans st) so r
theorem PX.later {K : PySem.W.Frag} {c : Cc} {H H1 : Hp} {E : XK} {d n : Nat} {fs : List W} (s : Step c H H1) (h : PX K c H E d n fs) : PX K c H1 E d n fs := fun v dx H' st so r => h v dx H' (s.trans st) so r
def liftE (K : PySem.W.Frag) (E : WX) (f : En → T W) : TE := fun σ H Q => ∃ c d oa ρ, EnvOk K c d oa ρ σ H ∧ (f ρ).AllB (PQ K c H Q) (PX K c H fun cls dx H' => E cls dx σ H') d
def liftA (K : PySem.W.Frag) (E : WX) (f : En → T (List W)) : TA := fun σ H Q => ∃ c d oa ρ, EnvOk K c d oa ρ σ H ∧ (f ρ).AllB (PQL K c H Q) (PX K c H fun cls dx H' => E cls dx σ H') d
def liftB (K : PySem.W.Frag) (E : WX) (f : En → T Bool) : TT := fun σ H Q => ∃ c d oa ρ, EnvOk K c d oa ρ σ H ∧ (f ρ).AllB (PB c H Q) (PX K c H fun cls dx H' => E cls dx σ H') d
def TrE (X : Cx) (E : WX) (e : Expr) (f : En → T W) : Prop := PE X e (liftE X.K E f)
def TrA (X : Cx) (E : WX) (es : List Expr) (f : En → T (List W)) : Prop := PA X es (liftA X.K E f)
def TrB (X : Cx) (E : WX) (e : Expr) (f : En → T Bool) : Prop := PT X e (liftB X.K E f)
theorem pe_imp {X : Cx} {e : Expr} {t t' : TE} (h : PE X e t) (i : ∀ σ H Q, t' σ H Q → t σ H Q) : PE X e t' := ⟨fun pins s σ H Q I q => h.run pins s σ H Q I (i σ H Q q)⟩
theorem pa_imp {X : Cx} {e : List Expr} {t t' : TA} (h : PA X e t) (i : ∀ σ H Q, t' σ H Q → t σ H Q) : PA X e t' := ⟨fun pos pins s σ H Q I q => h.run pos pins s σ H Q I (i σ H Q q)⟩
theorem pt_imp {X : Cx} {e : Expr} {t t' : TT} (h : PT X e t) (i : ∀ σ H Q, t' σ H Q → t σ H Q) : PT X e t' := ⟨fun pins s σ H Q I q => h.run pins s σ H Q I (i σ H Q q)⟩
theorem pw_imp {X : Cx} {e : Expr} {t t' : TT} (h : PW X e t) (i : ∀ σ H Q, t' σ H Q → t σ H Q) : PW X e t' := ⟨fun wh pins s σ H Q I q => h.run wh pins s σ H Q I (i σ H Q q)⟩
theorem ps_imp {X : Cx} {e : Stmt} {t t' : TS} (h : PS X e t) (i : ∀ D σ H, t' D σ H → t D σ H) : PS X e t' := ⟨fun pins s σ H D I q => h.run pins s σ H D I (i D σ H q)⟩
theorem pss_imp {X : Cx} {e : List Stmt} {t t' : TS} (h : PSs X e t) (i : ∀ D σ H, t' D σ H → t D σ H) : PSs X e t' := ⟨fun pins s σ H D I q => h.run pins s σ H D I (i D σ H q)⟩
section
variable {K : PySem.W.Frag} {E : WX} {f : En → T W} {g : W → T W} {c : Cc} {d : Nat} {oa : Nat → Addr} {ρ : En} {σ : St} {H : Hp} {Q : VK}
/-- a run, then something of its value -/
theorem lift_then {β : Type} {P : Cc → Hp → Nat → β → Prop} {G : W → T β} {R : V → Hp → Prop} (e : EnvOk K c d oa ρ σ H) (h : ((f ρ).bind G).AllB (P c H) (PX K c H fun cls dx H' => E cls dx σ H') d)
    (lt : ∀ {H1 d' b}, Step c H H1 → P c H d' b → P c H1 d' b)
    (go : ∀ w v H1 d1, Step c H H1 → Rep K c H1 w v → EnvOk K c d1 oa ρ σ H1 → (G w).AllB (P c H1) (PX K c H1 fun cls dx H' => E cls dx σ H') d1 → R v H1) : liftE K E f σ H R := by
  refine ⟨c, d, oa, ρ, e, T.AllB.imp (fun d1 w x => ?_) (fun _ _ _ x => x) (T.allB_bind.mp h)⟩
  intro v H1 st so r
  exact go w v H1 d1 st r (e.step st so) (T.AllB.imp (fun _ _ y => lt st y) (fun _ _ _ y => y.later st) x)
theorem liftB_then {β : Type} {fb : En → T Bool} {P : Cc → Hp → Nat → β → Prop} {G : Bool → T β} {R : Bool → Hp → Prop} (e : EnvOk K c d oa ρ σ H) (h : ((fb ρ).bind G).AllB (P c H) (PX K c H fun cls dx H' => E cls dx σ H') d)
    (lt : ∀ {H1 d' b}, Step c H H1 → P c H d' b → P c H1 d' b)
    (go : ∀ b H1 d1, Step c H H1 → EnvOk K c d1 oa ρ σ H1 → (G b).AllB (P c H1) (PX K c H1 fun cls dx H' => E cls dx σ H') d1 → R b H1) : liftB K E fb σ H R := by
  refine ⟨c, d, oa, ρ, e, T.AllB.imp (fun d1 w x => ?_) (fun _ _ _ x => x) (T.allB_bind.mp h)⟩
  intro H1 st so
  exact go w H1 d1 st (e.step st so) (T.AllB.imp (fun _ _ y => lt st y) (fun _ _ _ y => y.later st) x)
theorem liftA_then {β : Type} {fs : En → T (List W)} {P : Cc → Hp → Nat → β → Prop} {G : List W → T β} {R : List V → Hp → Prop} (e : EnvOk K c d oa ρ σ H) (h : ((fs ρ).bind G).AllB (P c H) (PX K c H fun cls dx H' => E cls dx σ H') d)
    (lt : ∀ {H1 d' b}, Step c H H1 → P c H d' b → P c H1 d' b)
    (go : ∀ w v H1 d1, Step c H H1 → RepL K c H1 w v → EnvOk K c d1 oa ρ σ H1 → (G w).AllB (P c H1) (PX K c H1 fun cls dx H' => E cls dx σ H') d1 → R v H1) : liftA K E fs σ H R := by
  refine ⟨c, d, oa, ρ, e, T.AllB.imp (fun d1 w x => ?_) (fun _ _ _ x => x) (T.allB_bind.mp h)⟩
  intro v H1 st so r
  exact go w v H1 d1 st r (e.step st so) (T.AllB.imp (fun _ _ y => lt st y) (fun _ _ _ y => y.later st) x)
end
end PF
namespace PF
open PySem PySem.Spec PyProof.Rows L2
section
variable {K : PySem.W.Frag} {c : Cc} {d : Nat} {H : Hp} {Q : VK} {E' : Nat → Nat → List W → Prop}
theorem PQ.now {w : W} {v : V} (wd : Wd c d H) (h : PQ K c H Q d w) (r : Rep K c H w v) : Q v H := h v H (.refl c H) wd.st r
theorem PQ.tup {ws : List W} {vs : List V} {p : Addr} (wd : Wd c d H) (h : PQ K c H Q d (.tup ws)) (r : RepL K c H ws vs) (n : H p = none) : Q (.ref p) (upd H p (.tup vs)) :=
  h _ _ (.new n) (wd.st.new n) (.tup (.of upd_same) (r.step (.new n) wd.st wd.ok))
theorem PQ.lst {ws : List W} {vs : List V} {p : Addr} (wd : Wd c d H) (h : PQ K c H Q d (.lst ws)) (r : RepL K c H ws vs) (n : H p = none) : Q (.ref p) (upd H p (.lst vs)) :=
  h _ _ (.new n) (wd.st.new n) (.lst (wd.fresh n) upd_same (r.step (.new n) wd.st wd.ok))
end
def gV (i : Nat) (ρ : En) : T W := match ρ[i]? with
  | some (.val w) => .ok w
  | _ => .bad
section
variable {X : Cx} {E : WX}
theorem gV_ok {K : PySem.W.Frag} {c : Cc} {d : Nat} {oa : Nat → Addr} {ρ : En} {σ : St} {H : Hp} {i : Nat} {P : Nat → W → Prop} {E' : Nat → Nat → List W → Prop} (e : EnvOk K c d oa ρ σ H) (h : (gV i ρ).AllB P E' d) :
    ∃ w v, σ[i]? = some (some v) ∧ Rep K c H w v ∧ P d w := by
  unfold gV at h
  split at h
  · rename_i w hw
    obtain ⟨v, h1, h2⟩ := e.val i w hw
    exact ⟨w, v, h1, h2, h⟩
  · exact h.elim
theorem tr_var (i : Nat) {x : Str} {pos : Pos} (hN : X.N[i]? = some x := by rfl) (hv : Vis X.env.scope x := by first | exact Or.inl rfl | exact Or.inr (Or.inl rfl) | exact Or.inr (Or.inr rfl)) (hd : (x == ("__debug__" : Str)) = false := by decide)
    (hcd : (x == ("__classdict__" : Str)) = false := by decide) : TrE X E (.Name x pos) (gV i) := pe_imp (pe_var hN hv hd hcd) fun σ H Q h => by
  obtain ⟨c, d, oa, ρ, e, h⟩ := h
  obtain ⟨w, v, h1, h2, h3⟩ := gV_ok e h
  exact ⟨v, h1, PQ.now e.wd h3 h2⟩
theorem tr_const {e : Expr} {v : V} {w : W} (h : PE X e (tC v)) (r : ∀ c H, Rep X.K c H w v) : TrE X E e (fun _ => .ok w) := pe_imp h fun σ H Q h => by
  obtain ⟨c, d, oa, ρ, e, h⟩ := h
  exact PQ.now e.wd h (r c H)
theorem tr_int {i j pos} : TrE X E (.Constant (.int i) j pos) (fun _ => .ok (.int i)) := tr_const pe_int fun _ _ => .int i
theorem tr_bl {b j pos} : TrE X E (.Constant (.bool b) j pos) (fun _ => .ok (.bl b)) := tr_const pe_bl fun _ _ => .bl b
theorem tr_non {j pos} : TrE X E (.Constant .none j pos) (fun _ => .ok .non) := tr_const pe_non fun _ _ => .non
theorem tr_str {x j pos} : TrE X E (.Constant (.str x) j pos) (fun _ => .ok (.str x)) := tr_const pe_str fun _ _ => .str x
theorem tr_glob {x : Str} {v : V} {u : Value} {w : W} {pos : Pos} (hg : Gl X x) (hm : X.mg x = some u) (r : RelV v u) (rw_ : ∀ c H, Rep X.K c H w v) (hd : (x == ("__debug__" : Str)) = false := by decide) : TrE X E (.Name x pos) (fun _ => .ok w) :=
  tr_const (pe_glob hg hm r hd) rw_
end
def f2 (g : W → W → T W) (fa fb : En → T W) : En → T W := fun ρ => (fa ρ).bind fun x => (fb ρ).bind fun y => g x y
def f1 (g : W → T W) (fa : En → T W) : En → T W := fun ρ => (fa ρ).bind g
def Sem2 (K : PySem.W.Frag) (r : R2) (g : W → W → T W) : Prop := ∀ (c : Cc) (d : Nat) (H : Hp) (x y : W) (v u : V) (Q : VK) (E' : Nat → Nat → List W → Prop), Wd c d H → Rep K c H x v → Rep K c H y u → (g x y).AllB (PQ K c H Q) E' d → r v u H Q
def Sem1 (K : PySem.W.Frag) (r : V → Hp → VK → Prop) (g : W → T W) : Prop := ∀ (c : Cc) (d : Nat) (H : Hp) (x : W) (v : V) (Q : VK) (E' : Nat → Nat → List W → Prop), Wd c d H → Rep K c H x v → (g x).AllB (PQ K c H Q) E' d → r v H Q
def SemL (K : PySem.W.Frag) (r : List V → Hp → VK → Prop) (g : List W → T W) : Prop := ∀ (c : Cc) (d : Nat) (H : Hp) (x : List W) (v : List V) (Q : VK) (E' : Nat → Nat → List W → Prop), Wd c d H → RepL K c H x v → (g x).AllB (PQ K c H Q) E' d → r v H Q
section
variable {X : Cx} {E : WX} {a b cc : Expr} {fa fb fc : En → T W} {g : W → W → T W} {g1 : W → T W} {r r' : R2} {pos : Pos}
theorem two (hs : Sem2 X.K r g) : ∀ σ H Q, liftE X.K E (f2 g fa fb) σ H Q → tOp r (liftE X.K E fa) (liftE X.K E fb) σ H Q := fun σ H Q h => by
  obtain ⟨c, d, oa, ρ, e, h⟩ := h
  refine lift_then (P := fun c H => PQ X.K c H Q) e h (fun st p => p.later st) fun w v H1 d1 _ r1 e1 h1 => ?_
  refine lift_then (P := fun c H => PQ X.K c H Q) e1 h1 (fun st p => p.later st) fun w2 v2 H2 d2 st2 r2 e2 h2 => ?_
  exact hs c d2 H2 w w2 v v2 Q _ e2.wd (r1.step st2 e1.st e1.ok) r2 h2
theorem one {r1 : V → Hp → VK → Prop} (hs : Sem1 X.K r1 g1) : ∀ σ H Q, liftE X.K E (f1 g1 fa) σ H Q → tUn r1 (liftE X.K E fa) σ H Q := fun σ H Q h => by
  obtain ⟨c, d, oa, ρ, e, h⟩ := h
  refine lift_then (P := fun c H => PQ X.K c H Q) e h (fun st p => p.later st) fun w v H1 d1 _ r1 e1 h1 => ?_
  exact hs c d1 H1 w v Q _ e1.wd r1 h1
theorem tr_op {op : Operator} (ho : OpR X (binaryOp op) r) (hs : Sem2 X.K r g) (ha : TrE X E a fa) (hb : TrE X E b fb) : TrE X E (.BinOp a op b pos) (f2 g fa fb) := pe_imp (pe_op ho ha hb) (two hs)
theorem tr_un {op : UnaryOp} {r1 : V → Hp → VK → Prop} (ho : UnR X (unaryOp op) r1) (hs : Sem1 X.K r1 g1) (ha : TrE X E a fa) : TrE X E (.UnaryOp op a pos) (f1 g1 fa) := pe_imp (pe_un ho ha) (one hs)
theorem tr_cmp {op : CmpOp} (ho : OpR X (compareOp op) r) (hs : Sem2 X.K r g) (ha : TrE X E a fa) (hb : TrE X E b fb) (hm : behindInMarks op b = false) : TrE X E (.Compare a [op] [b] pos) (f2 g fa fb) := pe_imp (pe_cmpR ho ha hb hm) (two hs)
theorem tr_ix (ho : IxR X r) (hs : Sem2 X.K r g) (ha : TrE X E a fa) (hb : TrE X E b fb) (hp : PlainIx b := by exact fun _ _ => rfl) : TrE X E (.Subscript a b pos) (f2 g fa fb) := pe_imp (pe_ix ho ha hb hp) (two hs)
/-- a op b op' c -/
def fCh (g g' : W → W → T W) (fa fb fc : En → T W) : En → T W := fun ρ => (fa ρ).bind fun x => (fb ρ).bind fun y => (g x y).bind fun z => match z with
  | .bl true => (fc ρ).bind fun w => g' y w
  | .bl false => .ok (.bl false)
  | _ => .bad
theorem tr_chain {op op' : CmpOp} {g' : W → W → T W} (ho : OpR X (compareOp op) r) (ho' : OpR X (compareOp op') r') (hs : Sem2 X.K r g) (hs' : Sem2 X.K r' g') (ha : TrE X E a fa) (hb : TrE X E b fb) (hc : TrE X E cc fc)
    (hm : lastMarks [op, op'] [b, cc] = false := by with_unfolding_all rfl) : TrE X E (.Compare a [op, op'] [b, cc] pos) (fCh g g' fa fb fc) := pe_imp (pe_chain ho ho' ha hb hc hm) fun σ H Q h => by
  obtain ⟨c, d, oa, ρ, e, h⟩ := h
  refine lift_then (P := fun c H => PQ X.K c H Q) e h (fun st p => p.later st) fun w v H1 d1 _ r1 e1 h1 => ?_
  refine lift_then (P := fun c H => PQ X.K c H Q) e1 h1 (fun st p => p.later st) fun w2 v2 H2 d2 st2 r2 e2 h2 => ?_
  refine hs c d2 H2 w w2 v v2 _ _ e2.wd (r1.step st2 e1.st e1.ok) r2 (T.AllB.imp (fun d3 z hz => ?_) (fun _ _ _ y => y) (T.allB_bind.mp h2))
  intro vz H3 st3 so3 rz
  have e3 := e2.step st3 so3
  cases z with
  | bl k =>
    cases rz
    refine ⟨k, rfl, ?_⟩
    cases k with
    | false => exact iteF (PQ.now e3.wd (PQ.later st3 hz) (.bl false))
    | true =>
      refine iteT (lift_then (P := fun c H => PQ X.K c H Q) e3 (T.AllB.imp (fun _ _ y => y.later st3) (fun _ _ _ y => y.later st3) hz) (fun st p => p.later st) fun w4 v4 H4 d4 st4 r4 e4 h4 => ?_)
      exact hs' c d4 H4 w2 w4 v2 v4 Q _ e4.wd ((r2.step st3 e2.st e2.ok).step st4 e3.st e3.ok) r4 h4
  | _ => exact hz.elim
end
theorem T.AllB.ite {α : Type} {P : Nat → α → Prop} {E : Nat → Nat → List W → Prop} {d : Nat} {b : Bool} {t : T α} (h : (if b then t else .bad).AllB P E d) : b = true ∧ t.AllB P E d := by
  cases b with
  | true => exact ⟨rfl, h⟩
  | false => exact h.elim
@[irreducible] def strOk (x : Str) : Bool := decide (x.length ≤ 16777216)
theorem strOk_of {x : Str} (h : strOk x = true) : x.length ≤ sizeLine := by
  rw [sizeLine_eq]
  unfold strOk at h
  exact of_decide_eq_true h
def truW : W → T Bool
  | .non => .ok false
  | .bl b => .ok b
  | .int i => .ok (i != 0)
  | .str y => if strOk y then .ok ((y.length : Int) != 0) else .bad
  | .tup ws => .ok !ws.isEmpty
  | .lst ws => .ok !ws.isEmpty
  | .dct ks _ => .ok !ks.isEmpty
  | _ => .bad
/-- a bool alone -/
def blW : W → T Bool
  | .bl b => .ok b
  | _ => .bad
def fTru (fa : En → T W) : En → T Bool := fun ρ => (fa ρ).bind truW
def fBl (fa : En → T W) : En → T Bool := fun ρ => (fa ρ).bind blW
theorem RepL.empty {K : PySem.W.Frag} {c : Cc} {H : Hp} {ws : List W} {vs : List V} (r : RepL K c H ws vs) : (!ws.isEmpty) = !vs.isEmpty := by
  cases r <;> rfl
section
variable {X : Cx} {E : WX} {a b cc : Expr} {fa fb fc : En → T W} {ta tb : En → T Bool} {g g' : W → W → T W} {r r' : R2} {pos : Pos} {rest : List Expr}
theorem trb_tru (ha : TrE X E a fa) (he : ∀ whole, isTrue a X.env whole = (do let v ← whole; standAt a.pos; holding [v] (truthy v)) := by intro _; rfl) : TrB X E a (fTru fa) := pt_imp (pt_truth ha he) fun σ H Q h => by
  obtain ⟨c, d, oa, ρ, e, h⟩ := h
  refine lift_then (P := fun c H => PB c H Q) e h (fun st p => p.later st) fun w v H1 d1 _ r1 e1 h1 => ?_
  have now : ∀ {b : Bool}, PB c H1 Q d1 b → Q b H1 := fun h => h H1 (.refl c H1) e1.st
  cases r1 with
  | non => exact ⟨false, rfl, now h1⟩
  | bl b => exact ⟨b, rfl, now h1⟩
  | int i => exact ⟨i != 0, rfl, now h1⟩
  | str x =>
    obtain ⟨hz, h1⟩ := T.AllB.ite h1
    exact ⟨_, ⟨strOk_of hz, rfl⟩, now h1⟩
  | tup h rl => exact ⟨_, .inr (.inl ⟨_, h, rl.empty⟩), now h1⟩
  | lst n h rl => exact ⟨_, .inl ⟨_, SqL.of h, rl.empty⟩, now h1⟩
  | dct n h rl => exact ⟨_, .inr (.inr ⟨_, h, by simp⟩), now h1⟩
  | scr h => exact h1.elim
  | stt => exact h1.elim
theorem bl_then {Q : Bool → Hp → Prop} : ∀ σ H, liftB X.K E (fBl fa) σ H Q → liftE X.K E fa σ H fun x H' => ∃ k, x = .bl k ∧ Q k H' := fun σ H h => by
  obtain ⟨c, d, oa, ρ, e, h⟩ := h
  refine lift_then (P := fun c H => PB c H Q) e h (fun st p => p.later st) fun w v H1 d1 _ r1 e1 h1 => ?_
  cases r1 with
  | bl b => exact ⟨b, rfl, h1 H1 (.refl c H1) e1.st⟩
  | _ => exact h1.elim
/-- a comparison's test, by the test's own form of the reading -/
theorem trb_of {t : TE} (hp : PT X a (tTest t)) (i : ∀ σ H Q, liftE X.K E fa σ H Q → t σ H Q) : TrB X E a (fBl fa) := pt_imp hp fun σ H Q h => i σ H _ (bl_then σ H h)
theorem trb_cmp {op : CmpOp} (ho : OpR X (compareOp op) r) (hs : Sem2 X.K r g) (ha : TrE X E a fa) (hb : TrE X E b fb) (hm : behindInMarks op b = false) : TrB X E (.Compare a [op] [b] pos) (fBl (f2 g fa fb)) := trb_of (pt_cmpR ho ha hb hm) (two hs)
def fNot (ta : En → T Bool) : En → T Bool := fun ρ => (ta ρ).bind fun b => .ok !b
def fAnd (ta tb : En → T Bool) : En → T Bool := fun ρ => (ta ρ).bind fun b => if b then tb ρ else .ok false
def fOr (ta tb : En → T Bool) : En → T Bool := fun ρ => (ta ρ).bind fun b => if b then .ok true else tb ρ
theorem PB.now {c : Cc} {d : Nat} {H : Hp} {Q : Bool → Hp → Prop} {b : Bool} (wd : Wd c d H) (h : PB c H Q d b) : Q b H := h H (.refl c H) wd.st
theorem trb_not (ha : TrB X E a ta) : TrB X E (.UnaryOp .Not a pos) (fNot ta) := pt_imp (pt_not ha) fun σ H Q h => by
  obtain ⟨c, d, oa, ρ, e, h⟩ := h
  exact liftB_then (P := fun c H => PB c H Q) e h (fun st p => p.later st) fun b H1 d1 _ e1 h1 => PB.now e1.wd h1
def TrW (X : Cx) (E : WX) (e : Expr) (f : En → T Bool) : Prop := PW X e (liftB X.K E f)
theorem TrW.toB (h : TrW X E a ta) : TrB X E a ta := PW.pt h
theorem trw_and1 (ha : TrB X E a ta) : TrW X E (.BoolOp .And [a] pos) ta := pw_and1 ha
theorem trw_or1 (ha : TrB X E a ta) : TrW X E (.BoolOp .Or [a] pos) ta := pw_or1 ha
theorem trw_and (ha : TrB X E a ta) (hb : TrW X E (.BoolOp .And (b :: rest) pos) tb) : TrW X E (.BoolOp .And (a :: b :: rest) pos) (fAnd ta tb) := pw_imp (pw_and ha hb) fun σ H Q h => by
  obtain ⟨c, d, oa, ρ, e, h⟩ := h
  refine liftB_then (P := fun c H => PB c H Q) e h (fun st p => p.later st) fun b H1 d1 _ e1 h1 => ?_
  cases b with
  | true => exact iteT ⟨c, d1, oa, ρ, e1, h1⟩
  | false => exact iteF (PB.now e1.wd h1)
theorem trw_or (ha : TrB X E a ta) (hb : TrW X E (.BoolOp .Or (b :: rest) pos) tb) : TrW X E (.BoolOp .Or (a :: b :: rest) pos) (fOr ta tb) := pw_imp (pw_or ha hb) fun σ H Q h => by
  obtain ⟨c, d, oa, ρ, e, h⟩ := h
  refine liftB_then (P := fun c H => PB c H Q) e h (fun st p => p.later st) fun b H1 d1 _ e1 h1 => ?_
  cases b with
  | false => exact iteF ⟨c, d1, oa, ρ, e1, h1⟩
  | true => exact iteT (PB.now e1.wd h1)
def fAndV (fa fb : En → T W) : En → T W := fun ρ => (fa ρ).bind fun x => match x with
  | .bl true => fb ρ
  | .bl false => .ok (.bl false)
  | _ => .bad
def fOrV (fa fb : En → T W) : En → T W := fun ρ => (fa ρ).bind fun x => match x with
  | .bl false => fb ρ
  | .bl true => .ok (.bl true)
  | _ => .bad
def fNotV (fa : En → T W) : En → T W := fun ρ => (fa ρ).bind fun x => match x with
  | .bl b => .ok (.bl !b)
  | _ => .bad
def fIf (t : En → T Bool) (fa fb : En → T W) : En → T W := fun ρ => (t ρ).bind fun b => if b then fa ρ else fb ρ
theorem tr_one {op} (h : TrE X E a fa) : TrE X E (.BoolOp op [a] pos) fa := pe_one h
theorem tr_and (ha : TrE X E a fa) (hb : TrE X E (.BoolOp .And (b :: rest) pos) fb) : TrE X E (.BoolOp .And (a :: b :: rest) pos) (fAndV fa fb) := pe_imp (pe_and ha hb) fun σ H Q h => by
  obtain ⟨c, d, oa, ρ, e, h⟩ := h
  refine lift_then (P := fun c H => PQ X.K c H Q) e h (fun st p => p.later st) fun w v H1 d1 _ r1 e1 h1 => ?_
  cases r1 with
  | bl b =>
    refine ⟨b, rfl, ?_⟩
    cases b with
    | true => exact iteT ⟨c, d1, oa, ρ, e1, h1⟩
    | false => exact iteF (PQ.now e1.wd h1 (.bl false))
  | _ => exact h1.elim
theorem tr_or (ha : TrE X E a fa) (hb : TrE X E (.BoolOp .Or (b :: rest) pos) fb) : TrE X E (.BoolOp .Or (a :: b :: rest) pos) (fOrV fa fb) := pe_imp (pe_or ha hb) fun σ H Q h => by
  obtain ⟨c, d, oa, ρ, e, h⟩ := h
  refine lift_then (P := fun c H => PQ X.K c H Q) e h (fun st p => p.later st) fun w v H1 d1 _ r1 e1 h1 => ?_
  cases r1 with
  | bl b =>
    refine ⟨b, rfl, ?_⟩
    cases b with
    | false => exact iteF ⟨c, d1, oa, ρ, e1, h1⟩
    | true => exact iteT (PQ.now e1.wd h1 (.bl true))
  | _ => exact h1.elim
theorem tr_not (ha : TrE X E a fa) : TrE X E (.UnaryOp .Not a pos) (fNotV fa) := pe_imp (pe_not ha) fun σ H Q h => by
  obtain ⟨c, d, oa, ρ, e, h⟩ := h
  refine lift_then (P := fun c H => PQ X.K c H Q) e h (fun st p => p.later st) fun w v H1 d1 _ r1 e1 h1 => ?_
  cases r1 with
  | bl b => exact ⟨b, rfl, PQ.now e1.wd h1 (.bl _)⟩
  | _ => exact h1.elim
theorem tr_if (ht : TrB X E cc ta) (ha : TrE X E a fa) (hb : TrE X E b fb) : TrE X E (.IfExp cc a b pos) (fIf ta fa fb) := pe_imp (pe_ifExp ht ha hb) fun σ H Q h => by
  obtain ⟨c, d, oa, ρ, e, h⟩ := h
  refine liftB_then (P := fun c H => PQ X.K c H Q) e h (fun st p => p.later st) fun b H1 d1 _ e1 h1 => ?_
  cases b with
  | true => exact iteT ⟨c, d1, oa, ρ, e1, h1⟩
  | false => exact iteF ⟨c, d1, oa, ρ, e1, h1⟩
end
def fNil : En → T (List W) := fun _ => .ok []
def fCons (fa : En → T W) (fs : En → T (List W)) : En → T (List W) := fun ρ => (fa ρ).bind fun x => (fs ρ).bind fun xs => .ok (x :: xs)
@[irreducible] def sizeOk (ws : List W) : Bool := decide (ws.length ≤ 16777216)
theorem sizeOk_of {ws : List W} (h : sizeOk ws = true) : ws.length ≤ sizeLine := by
  rw [sizeLine_eq]
  unfold sizeOk at h
  exact of_decide_eq_true h
def mkTup (ws : List W) : T W := if sizeOk ws then .ok (.tup ws) else .bad
def mkLst (ws : List W) : T W := if sizeOk ws then .ok (.lst ws) else .bad
def fL (fs : En → T (List W)) (g : List W → T W) : En → T W := fun ρ => (fs ρ).bind g
section
variable {X : Cx} {E : WX} {e : Expr} {es : List Expr} {fa : En → T W} {fs : En → T (List W)} {pos : Pos}
theorem tra_nil : TrA X E [] fNil := pa_imp pa_nil fun σ H Q h => by
  obtain ⟨c, d, oa, ρ, e, h⟩ := h
  exact h [] H (.refl c H) e.st .nil
theorem tra_cons (ha : TrE X E e fa) (hr : TrA X E es fs) (hs : starEach (e :: es) X.env = (false, eval e X.env) :: starEach es X.env := by rfl) : TrA X E (e :: es) (fCons fa fs) := pa_imp (pa_cons ha hr hs) fun σ H Q h => by
  obtain ⟨c, d, oa, ρ, e, h⟩ := h
  refine lift_then (P := fun c H => PQL X.K c H Q) e h (fun st p => p.later st) fun w v H1 d1 _ r1 e1 h1 => ?_
  refine liftA_then (P := fun c H => PQL X.K c H Q) e1 h1 (fun st p => p.later st) fun w2 v2 H2 d2 st2 r2 e2 h2 => ?_
  exact h2 _ H2 (.refl c H2) e2.st (.cons (r1.step st2 e1.st e1.ok) r2)
theorem tr_tup {x1} (h : TrA X E es fs) : TrE X E (.Tuple es x1 pos) (fL fs mkTup) := pe_imp (pe_tup h) fun σ H Q h => by
  obtain ⟨c, d, oa, ρ, e, h⟩ := h
  refine liftA_then (P := fun c H => PQ X.K c H Q) e h (fun st p => p.later st) fun w v H1 d1 _ r1 e1 h1 => ?_
  obtain ⟨h2, h1⟩ := T.AllB.ite h1
  exact ⟨by rw [← r1.length]; exact sizeOk_of h2, fun p n => PQ.tup e1.wd h1 r1 n⟩
theorem tr_lst (h : TrA X E es fs) : TrE X E (.List es pos) (fL fs mkLst) := pe_imp (pe_lst h) fun σ H Q h => by
  obtain ⟨c, d, oa, ρ, e, h⟩ := h
  refine liftA_then (P := fun c H => PQ X.K c H Q) e h (fun st p => p.later st) fun w v H1 d1 _ r1 e1 h1 => ?_
  obtain ⟨h2, h1⟩ := T.AllB.ite h1
  exact ⟨by rw [← r1.length]; exact sizeOk_of h2, fun p n => PQ.lst e1.wd h1 r1 n⟩
theorem callL {r : List V → Hp → VK → Prop} {g : List W → T W} (hs : SemL X.K r g) : ∀ σ H Q, liftE X.K E (fL fs g) σ H Q → tCB r (liftA X.K E fs) σ H Q := fun σ H Q h => by
  obtain ⟨c, d, oa, ρ, e, h⟩ := h
  refine liftA_then (P := fun c H => PQ X.K c H Q) e h (fun st p => p.later st) fun w v H1 d1 _ r1 e1 h1 => ?_
  exact hs c d1 H1 w v Q _ e1.wd r1 h1
/-- a built-in function, a built-in type, called -/
theorem tr_callB {r : List V → Hp → VK → Prop} {g : List W → T W} {x : Str} {p : Pos} {id : String} (hc : CallR X (.builtin id) r) (hs : SemL X.K r g) (hg : Gl X x) (hm : X.mg x = none) (hv : bootBuiltins x = some (.builtin id)) (ha : TrA X E (e :: es) fs) (hn : x ≠ "__name__" := by decide) (hdb : (x == ("__debug__" : Str)) = false := by decide)
    (he : starEach (e :: es) X.env = (false, eval e X.env) :: starEach es X.env := by rfl) (hpl : (backTo pos (starEach es X.env)).any (·.1) = false := by rfl) : TrE X E (.Call (.Name x p) (e :: es) [] pos) (fL fs g) :=
  pe_imp (pe_callB hc hg hm hv ha hn hdb he hpl) (callL hs)
theorem tr_callTy {r : List V → Hp → VK → Prop} {g : List W → T W} {x : Str} {p : Pos} {id : String} (hc : CallR X (.type id) r) (hs : SemL X.K r g) (hg : Gl X x) (hm : X.mg x = none) (hv : bootBuiltins x = some (.type id)) (ha : TrA X E (e :: es) fs) (hn : x ≠ "__name__" := by decide) (hdb : (x == ("__debug__" : Str)) = false := by decide)
    (he : starEach (e :: es) X.env = (false, eval e X.env) :: starEach es X.env := by rfl) (hpl : (backTo pos (starEach es X.env)).any (·.1) = false := by rfl) : TrE X E (.Call (.Name x p) (e :: es) [] pos) (fL fs g) :=
  pe_imp (pe_callTy hc hg hm hv ha hn hdb he hpl) (callL hs)
end
def SpF (K : PySem.W.Frag) (F : List W → T W) : Sp := fun vs H Q E => ∃ c d ws, Wd c d H ∧ RepL K c H ws vs ∧ (F ws).AllB (PQ K c H Q) (PX K c H E) d
section
variable {X : Cx} {E : WX} {e : Expr} {es : List Expr} {fs : En → T (List W)} {pos p : Pos} {F : List W → T W} {k : Nat} {f : Addr} {fd : FuncData} {ps : List Str} {x : Str}
theorem tr_call (G : FnOk X.prog X.w X.K X.mg X.base (L2.CX X.prog X.w) k f fd ps (SpF X.K F)) (hr : Room k X.A) (tk : Takes X E) (hg : Gl X x) (hm : X.mg x = some (.ref f)) (hk : PySem.W.keepIn X.K (.ref f) = true) (hb : Binds X.K fd ps []) (ha : TrA X E (e :: es) fs)
    (hdb : (x == ("__debug__" : Str)) = false := by decide) (he : starEach (e :: es) X.env = (false, eval e X.env) :: starEach es X.env := by rfl) (hpl : (backTo pos (starEach es X.env)).any (·.1) = false := by rfl) :
    TrE X E (.Call (.Name x p) (e :: es) [] pos) (fL fs F) := pe_imp (pe_callSD (E := fun σ => WE E σ) G hr hg hm hk hb .nil (fun σ => passAt tk σ) ha hdb he hpl) fun σ H Q h => by
  obtain ⟨c, d, oa, ρ, e, h⟩ := h
  refine liftA_then (P := fun c H => PQ X.K c H Q) e h (fun st p => p.later st) fun w v H1 d1 _ r1 e1 h1 => ?_
  exact ⟨c, d1, w, e1.wd, by rw [List.append_nil]; exact r1, h1⟩
end
end PF
namespace PF
open PySem PySem.Spec PyProof.Rows L2
structure Fwd (K : PySem.W.Frag) (c : Cc) (H : Hp) (c' : Cc) (H' : Hp) : Prop where
  S : c'.S = c.S
  ca : c'.ca = c.ca
  la : c'.la = c.la
  sub : ∀ b ∈ c.A, b ∉ c.M → b ∈ c'.A
  fr : ∀ b ∈ c'.M, b ∈ c.M ∨ (b ∉ c.A ∧ b ≠ c.S ∧ b ≠ c.la ∧ H b = none)
  step : ∀ b o, H b = some o → b ≠ c.S → b ≠ c.la → b ∉ c.M → H' b = some o
  rep : ∀ w v, Rep K c H w v → Rep K c' H' w v
  sq : ∀ a vs, SqT K H a vs → SqT K H' a vs
section
variable {K : PySem.W.Frag} {c c1 c2 : Cc} {d : Nat} {H H1 H2 : Hp}
theorem Fwd.refl : Fwd K c H c H := ⟨rfl, rfl, rfl, fun _ h _ => h, fun _ h => .inl h, fun _ _ h _ _ _ => h, fun _ _ h => h, fun _ _ h => h⟩
theorem Step.to (st : Step c1 H1 H2) (hS : c1.S = c.S) (hl : c1.la = c.la) : Step c H1 H2 := fun b o e h1 h2 => st b o e (by rw [hS]; exact h1) (by rw [hl]; exact h2)
theorem Fwd.trans (a : Fwd K c H c1 H1) (b : Fwd K c1 H1 c2 H2) : Fwd K c H c2 H2 where
  S := b.S.trans a.S
  ca := b.ca.trans a.ca
  la := b.la.trans a.la
  sub := fun x h n => b.sub x (a.sub x h n) fun z => by
    rcases a.fr x z with z | z
    · exact n z
    · exact z.1 h
  fr := fun x h => by
    rcases b.fr x h with z | ⟨z1, z2, z3, z4⟩
    · exact a.fr x z
    · rw [a.S] at z2
      rw [a.la] at z3
      by_cases hm : x ∈ c.M
      · exact .inl hm
      · refine .inr ⟨fun hA => z1 (a.sub x hA hm), z2, z3, ?_⟩
        cases hx : H x with
        | none => rfl
        | some o =>
          rw [a.step x o hx z2 z3 hm] at z4
          cases z4
  step := fun x o h h1 h2 n => b.step x o (a.step x o h h1 h2 n) (by rw [a.S]; exact h1) (by rw [a.la]; exact h2) fun z => by
    rcases a.fr x z with z | z
    · exact n z
    · rw [h] at z
      cases z.2.2.2
  rep := fun w v h => b.rep w v (a.rep w v h)
  sq := fun x vs h => b.sq x vs (a.sq x vs h)
theorem Fwd.of (st : Step c H H1) (wd : Wd c d H) : Fwd K c H c H1 := ⟨rfl, rfl, rfl, fun _ h _ => h, fun _ h => .inl h, fun b o h h1 h2 _ => st b o h h1 h2, fun _ _ h => h.step st wd.st wd.ok, fun _ _ h => st.sqT wd.st h⟩
mutual
theorem Rep.weak (hS : c1.S = c.S) (sub : ∀ b ∈ c.A, b ∈ c1.A) : ∀ {w : W} {v : V}, Rep K c1 H w v → Rep K c H w v
  | _, _, .non => .non
  | _, _, .bl b => .bl b
  | _, _, .int i => .int i
  | _, _, .str x => .str x
  | _, _, .tup h r => .tup h (RepL.weak hS sub r)
  | _, _, .lst n h r => .lst (fun z => n (sub _ z)) h (RepL.weak hS sub r)
  | _, _, .dct n h r => .dct (fun z => n (sub _ z)) h (RepL.weak hS sub r)
  | _, _, .scr h => .scr (h.imp (fun ⟨n, r⟩ => ⟨fun z => n (sub _ z), r⟩) id)
  | _, _, .stt => by rw [hS]; exact .stt
theorem RepL.weak (hS : c1.S = c.S) (sub : ∀ b ∈ c.A, b ∈ c1.A) : ∀ {ws : List W} {vs : List V}, RepL K c1 H ws vs → RepL K c H ws vs
  | _, _, .nil => .nil
  | _, _, .cons h r => .cons (Rep.weak hS sub h) (RepL.weak hS sub r)
end
theorem RepL.fwd (f : Fwd K c H c1 H1) : ∀ {ws : List W} {vs : List V}, RepL K c H ws vs → RepL K c1 H1 ws vs
  | _, _, .nil => .nil
  | _, _, .cons h r => .cons (f.rep _ _ h) (RepL.fwd f r)
theorem Fwd.sqT {a : Addr} {vs : List V} (f : Fwd K c H c1 H1) (wd : Wd c d H) (h : SqT K H a vs) : SqT K H1 a vs := f.sq a vs h
end
inductive Fl where
  | nx | rt (w : W) | bk | ct
def PSq (K : PySem.W.Frag) (c : Cc) (H : Hp) (D : Ends) : Nat → Fl × En → Prop := fun d x => ∀ c' oa' σ' H', Fwd K c H c' H' → EnvOk K c' d oa' x.2 σ' H' → match x.1 with
  | .nx => D.nx σ' H'
  | .bk => D.bk σ' H'
  | .ct => D.ct σ' H'
  | .rt w => ∀ v, Rep K c' H' w v → D.rt v H'
theorem PSq.later {K : PySem.W.Frag} {c c1 : Cc} {H H1 : Hp} {D : Ends} {d : Nat} {x : Fl × En} (f : Fwd K c H c1 H1) (h : PSq K c H D d x) : PSq K c1 H1 D d x := fun c' oa' σ' H' g e => h c' oa' σ' H' (f.trans g) e
theorem PX.fwd {K : PySem.W.Frag} {c c1 : Cc} {H H1 : Hp} {E : XK} {d n : Nat} {fs : List W} (f : Fwd K c H c1 H1) (h : PX K c H E d n fs) : PX K c1 H1 E d n fs := fun cls dx H' st so r => r.elim
/-- E is wanted of what is raised, at any slots -/
def liftS (K : PySem.W.Frag) (E : XK) (g : En → T (Fl × En)) : TS := fun D σ H => ∃ c d oa ρ, EnvOk K c d oa ρ σ H ∧ (g ρ).AllB (PSq K c H D) (PX K c H E) d
abbrev wOf (E : XK) : WX := fun cls dx _ H => E cls dx H
def TrS (X : Cx) (E : XK) (st : Stmt) (g : En → T (Fl × En)) : Prop := PS X st (liftS X.K E g)
def TrSs (X : Cx) (E : XK) (sts : List Stmt) (g : En → T (Fl × En)) : Prop := PSs X sts (liftS X.K E g)
section
variable {K : PySem.W.Frag} {c : Cc} {d : Nat} {oa : Nat → Addr} {ρ : En} {σ : St} {H : Hp}
theorem getElem?_set_or {α : Type} {l : List α} {i j : Nat} {a x : α} (h : (l.set i a)[j]? = some x) : (j = i ∧ x = a) ∨ (j ≠ i ∧ l[j]? = some x) := by
  by_cases e : i = j
  · subst e
    by_cases hl : i < l.length
    · rw [List.getElem?_set_self hl] at h
      exact .inl ⟨rfl, (Option.some.inj h).symm⟩
    · rw [List.getElem?_eq_none (by simpa using hl)] at h
      cases h
  · rw [List.getElem?_set_ne e] at h
    exact .inr ⟨fun z => e z.symm, h⟩
theorem EnvOk.set {i : Nat} {w : W} {v : V} (e : EnvOk K c d oa ρ σ H) (r : Rep K c H w v) : EnvOk K c d oa (ρ.set i (.val w)) (σ.set i (some v)) H where
  ok := e.ok
  st := e.st
  av := e.av
  len := by rw [List.length_set, List.length_set]; exact e.len
  val := fun j x h => by
    rcases getElem?_set_or h with ⟨ej, ex⟩ | ⟨n, h'⟩
    · cases ex
      subst ej
      refine ⟨v, ?_, r⟩
      have hl : j < ρ.length := by
        by_cases hl : j < ρ.length
        · exact hl
        · rw [List.getElem?_eq_none (by simpa using hl)] at h
          cases h
      rw [List.getElem?_set_self (by rw [← e.len]; exact hl)]
    · obtain ⟨u, h1, h2⟩ := e.val j x h'
      exact ⟨u, by rw [List.getElem?_set_ne (Ne.symm n)]; exact h1, h2⟩
  m := e.m
  own := fun j x h => by
    rcases getElem?_set_or h with ⟨ej, ex⟩ | ⟨n, h'⟩
    · cases ex
    · obtain ⟨h1, h3, h4⟩ := e.own j x h'
      exact ⟨h1, by rw [List.getElem?_set_ne (Ne.symm n)]; exact h3, h4⟩
  inj := fun a b x y h1 h2 => by
    rcases getElem?_set_or h1 with ⟨ej, ex⟩ | ⟨n1, h1'⟩
    · cases ex
    · rcases getElem?_set_or h2 with ⟨ej, ex⟩ | ⟨n2, h2'⟩
      · cases ex
      · exact e.inj a b x y h1' h2'
end
def sNil : En → T (Fl × En) := fun ρ => .ok (.nx, ρ)
def sSeq (g h : En → T (Fl × En)) : En → T (Fl × En) := fun ρ => (g ρ).bind fun x => match x with
  | (.nx, ρ') => h ρ'
  | x => .ok x
def sRet (f : En → T W) : En → T (Fl × En) := fun ρ => (f ρ).bind fun w => .ok (.rt w, ρ)
def sRetN : En → T (Fl × En) := fun ρ => .ok (.rt .non, ρ)
def sExpr (f : En → T W) : En → T (Fl × En) := fun ρ => (f ρ).bind fun _ => .ok (.nx, ρ)
def sSet (i : Nat) (f : En → T W) : En → T (Fl × En) := fun ρ => (f ρ).bind fun w => .ok (.nx, ρ.set i (.val w))
def sIf (t : En → T Bool) (g h : En → T (Fl × En)) : En → T (Fl × En) := fun ρ => (t ρ).bind fun b => if b then g ρ else h ρ
def sNever : En → T (Fl × En) := fun _ => .bad
def sPar (i j : Nat) (fs : En → T (List W)) : En → T (Fl × En) := fun ρ => (fs ρ).bind fun xs => match xs with
  | [x, y] => .ok (.nx, (ρ.set i (.val x)).set j (.val y))
  | _ => .bad
section
variable {X : Cx} {E : XK} {st : Stmt} {sts : List Stmt} {g h : En → T (Fl × En)} {f : En → T W} {e a b : Expr} {fs : En → T (List W)} {t : En → T Bool} {pos : Pos}
theorem trs_nil : TrSs X E [] sNil := pss_imp pss_nil fun D σ H q => by
  obtain ⟨c, d, oa, ρ, e, q⟩ := q
  exact q c oa σ H .refl e
theorem trs_cons (h1 : TrS X E st g) (h2 : TrSs X E sts h) : TrSs X E (st :: sts) (sSeq g h) := pss_imp (pss_cons h1 h2) fun D σ H q => by
  obtain ⟨c, d, oa, ρ, e, q⟩ := q
  refine ⟨c, d, oa, ρ, e, T.AllB.imp (fun d1 x hx => ?_) (fun _ _ _ y => y) (T.allB_bind.mp q)⟩
  obtain ⟨fl, ρ'⟩ := x
  intro c' oa' σ' H' fw e'
  cases fl with
  | nx => exact ⟨c', d1, oa', ρ', e', T.AllB.imp (fun _ _ y => y.later fw) (fun _ _ _ y => y.fwd fw) hx⟩
  | rt w => exact hx c' oa' σ' H' fw e'
  | bk => exact hx c' oa' σ' H' fw e'
  | ct => exact hx c' oa' σ' H' fw e'
theorem trs_one (h1 : TrS X E st g) : TrSs X E [st] g := pss_one h1
theorem tr_ret (he : TrE X (wOf E) e f) : TrS X E (.Return (some e) pos) (sRet f) := ps_imp (ps_ret he) fun D σ H q => by
  obtain ⟨c, d, oa, ρ, e, q⟩ := q
  refine lift_then (P := fun c H => PSq X.K c H D) e q (fun st p => p.later (.of st e.wd)) fun w v H1 d1 _ r1 e1 h1 => ?_
  exact h1 c oa σ H1 .refl e1 v r1
theorem tr_retN : TrS X E (.Return none pos) sRetN := ps_imp ps_retN fun D σ H q => by
  obtain ⟨c, d, oa, ρ, e, q⟩ := q
  exact q c oa σ H .refl e _ .non
theorem tr_expr (he : TrE X (wOf E) e f) (hs : swapsWith e none pos.line X.env = pure false := by rfl) : TrS X E (.Expr e pos) (sExpr f) := ps_imp (ps_expr he hs) fun D σ H q => by
  obtain ⟨c, d, oa, ρ, e, q⟩ := q
  refine lift_then (P := fun c H => PSq X.K c H D) e q (fun st p => p.later (.of st e.wd)) fun w v H1 d1 _ r1 e1 h1 => ?_
  exact h1 c oa σ H1 .refl e1
theorem tr_set {i : Nat} {x : Str} {pos' : Pos} (hN : X.N.Nodup) (hi : X.N[i]? = some x) (hx : Loc X.env.scope x) (he : TrE X (wOf E) e f) (hs : swapsWith e (some (.Name x pos')) pos.line X.env = pure false := by rfl)
    (hf : X.fn x = true ∨ X.env.scope.names.lookup x = some .local := by first | exact .inl rfl | exact .inr rfl | assumption) : TrS X E (.Assign [.Name x pos'] e pos) (sSet i f) := ps_imp (ps_set hN hi hx he hs hf) fun D σ H q => by
  obtain ⟨c, d, oa, ρ, e, q⟩ := q
  refine lift_then (P := fun c H => PSq X.K c H D) e q (fun st p => p.later (.of st e.wd)) fun w v H1 d1 _ r1 e1 h1 => ?_
  exact h1 c oa _ H1 .refl (e1.set r1)
theorem tr_ifs {sa sb : List Stmt} (hc : TrB X (wOf E) e t) (ha : TrSs X E sa g) (hb : TrSs X E sb h) : TrS X E (.If e sa sb pos) (sIf t g h) := ps_imp (ps_if hc ha hb) fun D σ H q => by
  obtain ⟨c, d, oa, ρ, e, q⟩ := q
  refine liftB_then (P := fun c H => PSq X.K c H D) e q (fun st p => p.later (.of st e.wd)) fun b H1 d1 _ e1 h1 => ?_
  cases b with
  | true => exact iteT ⟨c, d1, oa, ρ, e1, h1⟩
  | false => exact iteF ⟨c, d1, oa, ρ, e1, h1⟩
theorem tr_never : TrS X E st sNever := ps_imp ps_never fun D σ H q => by
  obtain ⟨c, d, oa, ρ, e, q⟩ := q
  exact q
theorem tr_par {i j : Nat} (hp : PS X st (tPar i j (liftA X.K (wOf E) fs))) : TrS X E st (sPar i j fs) := ps_imp hp fun D σ H q => by
  obtain ⟨c, d, oa, ρ, e, q⟩ := q
  refine liftA_then (P := fun c H => PSq X.K c H D) e q (fun st p => p.later (.of st e.wd)) fun w v H1 d1 _ r1 e1 h1 => ?_
  cases r1 with
  | nil => exact h1.elim
  | cons r1 r2 =>
    cases r2 with
    | nil => exact h1.elim
    | cons r2 r3 =>
      cases r3 with
      | nil => exact ⟨_, _, rfl, h1 c oa _ H1 .refl ((e1.set r1).set r2)⟩
      | cons _ _ => exact h1.elim
end
end PF
namespace PF
open PySem PySem.Spec PyProof.Rows L2
/-- the slots at ns alone may have changed -/
def ButAt (ns : List Nat) (σ σ' : St) : Prop := σ'.length = σ.length ∧ ∀ j : Nat, j ∉ ns → σ'[j]? = σ[j]?
theorem ButAt.trans {ns ms : List Nat} {σ σ1 σ2 : St} (a : ButAt ns σ σ1) (b : ButAt ms σ1 σ2) : ButAt (ns ++ ms) σ σ2 := ⟨b.1.trans a.1, fun j h => by
  rw [List.mem_append, not_or] at h
  rw [b.2 j h.2, a.2 j h.1]⟩
def liftG (K : PySem.W.Frag) (ns : List Nat) (G : W → En → Option En) : TG := fun v σ H Q => ∃ c d oa ρ w ρ', EnvOk K c d oa ρ σ H ∧ Rep K c H w v ∧ G w ρ = some ρ' ∧ ∀ σ', ButAt ns σ σ' → EnvOk K c d oa ρ' σ' H → Q σ' H
def liftGs (K : PySem.W.Frag) (ns : List Nat) (G : List W → En → Option En) : TGs := fun vs σ H Q => ∃ c d oa ρ ws ρ', EnvOk K c d oa ρ σ H ∧ RepL K c H ws vs ∧ G ws ρ = some ρ' ∧ ∀ σ', ButAt ns σ σ' → EnvOk K c d oa ρ' σ' H → Q σ' H
def TrG (X : Cx) (e : Expr) (ns : List Nat) (G : W → En → Option En) : Prop := PG X e (liftG X.K ns G)
def TrGs (X : Cx) (es : List Expr) (ns : List Nat) (G : List W → En → Option En) : Prop := PGs X es (liftGs X.K ns G)
def goName (i : Nat) : W → En → Option En := fun w ρ => some (ρ.set i (.val w))
def goNil : List W → En → Option En := fun ws ρ => match ws with
  | [] => some ρ
  | _ => none
def goCons (G : W → En → Option En) (Gs : List W → En → Option En) : List W → En → Option En := fun ws ρ => match ws with
  | w :: ws => (G w ρ).bind (Gs ws)
  | [] => none
def goTup (n : Nat) (Gs : List W → En → Option En) : W → En → Option En := fun w ρ => match w with
  | .tup ws => if ws.length == n then Gs ws ρ else none
  | _ => none
theorem pg_imp {X : Cx} {e : Expr} {t t' : TG} (h : PG X e t) (i : ∀ v σ H Q, t' v σ H Q → t v σ H Q) : PG X e t' := ⟨fun pins s σ H v u Q I r q => h.run pins s σ H v u Q I r (i v σ H Q q)⟩
theorem pgs_imp {X : Cx} {e : List Expr} {t t' : TGs} (h : PGs X e t) (i : ∀ v σ H Q, t' v σ H Q → t v σ H Q) : PGs X e t' := ⟨fun pins s σ H v u Q I r q => h.run pins s σ H v u Q I r (i v σ H Q q)⟩
section
variable {X : Cx} {e : Expr} {es : List Expr} {ns ms : List Nat} {G : W → En → Option En} {Gs : List W → En → Option En} {pos : Pos}
theorem trg_name {i : Nat} {x : Str} (hN : X.N.Nodup) (hi : X.N[i]? = some x) (hx : Loc X.env.scope x) (hf : X.fn x = true ∨ X.env.scope.names.lookup x = some .local := by first | exact .inl rfl | exact .inr rfl | assumption) : TrG X (.Name x pos) [i] (goName i) := pg_imp (pg_name hN hi hx hf) fun v σ H Q h => by
  obtain ⟨c, d, oa, ρ, w, ρ', e, r, g, q⟩ := h
  cases g
  exact q _ ⟨by rw [List.length_set], fun j h => by rw [List.getElem?_set_ne (fun z => h (by simp [z]))]⟩ (e.set r)
theorem trgs_nil : TrGs X [] [] goNil := pgs_imp pgs_nil fun v σ H Q h => by
  obtain ⟨c, d, oa, ρ, w, ρ', e, r, g, q⟩ := h
  cases r with
  | nil =>
    cases g
    exact ⟨rfl, q σ ⟨rfl, fun _ _ => rfl⟩ e⟩
  | cons _ _ => cases g
theorem trgs_cons (h1 : TrG X e ns G) (h2 : TrGs X es ms Gs) (hs : (assignEach (e :: es) X.env).map (·.2) = assign e X.env :: (assignEach es X.env).map (·.2) := by rfl) : TrGs X (e :: es) (ns ++ ms) (goCons G Gs) := pgs_imp (pgs_cons h1 h2 hs) fun v σ H Q h => by
  obtain ⟨c, d, oa, ρ, w, ρ', e, r, g, q⟩ := h
  cases r with
  | nil => cases g
  | cons r rr =>
    rename_i w1 v1 ws1 vs1
    have g' : (G w1 ρ).bind (Gs ws1) = some ρ' := g
    cases g1 : G w1 ρ with
    | none =>
      rw [g1] at g'
      cases g'
    | some ρ1 =>
      rw [g1] at g'
      exact ⟨v1, vs1, rfl, c, d, oa, ρ, w1, ρ1, e, r, g1, fun σ1 b1 e1 => ⟨c, d, oa, ρ1, ws1, ρ', e1, rr, g', fun σ2 b2 e2 => q σ2 (b1.trans b2) e2⟩⟩
theorem trg_tup {k n : Nat} (hc : X.calm = true) (h : TrGs X es ns Gs) (hn : (assignEach es X.env).length = n := by rfl) (hst : (assignEach es X.env).findIdx? (·.1) = none := by rfl) : TrG X (.Tuple es k pos) ns (goTup n Gs) := pg_imp (pg_tup hc h hn hst) fun v σ H Q h => by
  obtain ⟨c, d, oa, ρ, w, ρ', e, r, g, q⟩ := h
  cases r with
  | tup hq rl =>
    rename_i a vs ws
    have g' : (if ws.length == n then Gs ws ρ else none) = some ρ' := g
    cases hl : (ws.length == n) with
    | false =>
      rw [hl] at g'
      cases g'
    | true =>
      rw [hl] at g'
      exact ⟨a, vs, rfl, hq, by rw [← rl.length]; exact eq_of_beq hl, c, d, oa, ρ, ws, ρ', e, rl, g', q⟩
  | _ => cases g
end
/-- target = value, for any target -/
def sAsg (f : En → T W) (G : W → En → Option En) : En → T (Fl × En) := fun ρ => (f ρ).bind fun w => match G w ρ with
  | some ρ' => .ok (.nx, ρ')
  | none => .bad
theorem tr_asg {X : Cx} {E : XK} {e tg : Expr} {f : En → T W} {ns : List Nat} {G : W → En → Option En} {pos : Pos} (he : TrE X (wOf E) e f) (hg : TrG X tg ns G) (hs : swapsWithSole [tg] e pos.line X.env = pure false := by rfl) (hw : swappedStores [tg] e X.env = pure none := by rfl)
    (h1 : (assignEach [tg] X.env).map (·.2) = [assign tg X.env] := by rfl) : TrS X E (.Assign [tg] e pos) (sAsg f G) := ps_imp (ps_asg he hg hs hw h1) fun D σ H q => by
  obtain ⟨c, d, oa, ρ, e, q⟩ := q
  refine lift_then (P := fun c H => PSq X.K c H D) e q (fun st p => p.later (.of st e.wd)) fun w v H1 d1 _ r1 e1 h1 => ?_
  cases g : G w ρ with
  | none =>
    rw [g] at h1
    exact h1.elim
  | some ρ' =>
    rw [g] at h1
    exact ⟨c, d1, oa, ρ, w, ρ', e1, r1, g, fun σ' _ e' => h1 c oa σ' H1 .refl e'⟩
def whileL (t : En → T Bool) (gb : En → T (Fl × En)) : Nat → En → T (Fl × En)
  | 0, _ => .bad
  | n + 1, ρ => (t ρ).bind fun b => if b then (gb ρ).bind fun x => match x with
      | (.nx, ρ') => whileL t gb n ρ'
      | (.ct, ρ') => whileL t gb n ρ'
      | (.bk, ρ') => .ok (.nx, ρ')
      | (.rt w, ρ') => .ok (.rt w, ρ') else .ok (.nx, ρ)
def sWhile (μ : En → Nat) (t : En → T Bool) (gb : En → T (Fl × En)) : En → T (Fl × En) := fun ρ => whileL t gb (μ ρ) ρ
theorem tr_while {X : Cx} {E : XK} {e : Expr} {body : List Stmt} {t : En → T Bool} {gb : En → T (Fl × En)} {pos : Pos} (μ : En → Nat) (hp : PassesOwn (model X.prog X.w) X.A X.env X.xe) (hc : TrB X (wOf E) e t) (hb : TrSs X E body gb) : TrS X E (.While e body [] pos) (sWhile μ t gb) :=
  ps_imp (ps_while hp hc hb) fun D σ H q => by
  obtain ⟨c, d, oa, ρ, e, q⟩ := q
  refine ⟨fun m σ H => ∃ c d oa ρ, EnvOk X.K c d oa ρ σ H ∧ (whileL t gb m ρ).AllB (PSq X.K c H D) (PX X.K c H E) d, ⟨_, c, d, oa, ρ, e, q⟩, ?_⟩
  rintro m σ H ⟨c, d, oa, ρ, e, q⟩
  cases m with
  | zero => exact q.elim
  | succ m =>
    refine liftB_then (P := fun c H => PSq X.K c H D) e q (fun st p => p.later (.of st e.wd)) fun b H1 d1 _ e1 h1 => ?_
    cases b with
    | false => exact iteF (h1 c oa σ H1 .refl e1)
    | true =>
      refine iteT ⟨fun σ H => ∃ c d oa ρ, EnvOk X.K c d oa ρ σ H ∧ (whileL t gb m ρ).AllB (PSq X.K c H D) (PX X.K c H E) d, fun σ' H' h => ⟨m, Nat.lt_succ_self m, h⟩, c, d1, oa, ρ, e1, ?_⟩
      refine T.AllB.imp (fun d2 x hx => ?_) (fun _ _ _ y => y) (T.allB_bind.mp h1)
      obtain ⟨fl, ρ2⟩ := x
      intro c2 oa2 σ2 H2 fw e2
      cases fl with
      | nx => exact ⟨c2, d2, oa2, ρ2, e2, T.AllB.imp (fun _ _ y => y.later fw) (fun _ _ _ y => y.fwd fw) hx⟩
      | ct => exact ⟨c2, d2, oa2, ρ2, e2, T.AllB.imp (fun _ _ y => y.later fw) (fun _ _ _ y => y.fwd fw) hx⟩
      | bk => exact hx c2 oa2 σ2 H2 fw e2
      | rt w => exact hx c2 oa2 σ2 H2 fw e2
/-- the iterator J yields ws, as long as the world goes on -/
def ItOk (K : PySem.W.Frag) (c : Cc) (H : Hp) (J : It) (ws : List W) : Prop := ∀ (c' : Cc) (H' : Hp) (d' : Nat) (i : Nat), Fwd K c H c' H' → Wd c' d' H' →
  (∀ w, ws[i]? = some w → J.go i H' ∧ ∀ x H2, J.yld i H' x H2 → Step c' H' H2 ∧ StOk c' d' H2 ∧ Rep K c' H2 w x) ∧ (ws.length ≤ i → J.stop i H')
def PJ (K : PySem.W.Frag) (c : Cc) (H : Hp) (R : It → Hp → Prop) : Nat → List W → Prop := fun d ws => ∀ J H1, Step c H H1 → StOk c d H1 → ItOk K c H1 J ws → R J H1
def liftI (K : PySem.W.Frag) (E : WX) (f : En → T (List W)) : TI := fun σ H R => ∃ c d oa ρ, EnvOk K c d oa ρ σ H ∧ (f ρ).AllB (PJ K c H R) (PX K c H fun cls dx H' => E cls dx σ H') d
theorem PJ.later {K : PySem.W.Frag} {c : Cc} {H H1 : Hp} {R : It → Hp → Prop} {d : Nat} {ws : List W} (s : Step c H H1) (h : PJ K c H R d ws) : PJ K c H1 R d ws := fun J H' st so r => h J H' (s.trans st) so r
def TrI (X : Cx) (E : WX) (tg iter : Expr) (f : En → T (List W)) : Prop := PI X tg iter (liftI X.K E f)
theorem pi_imp {X : Cx} {tg e : Expr} {t t' : TI} (h : PI X tg e t) (i : ∀ σ H Q, t' σ H Q → t σ H Q) : PI X tg e t' := ⟨fun pins s σ H Q I q => h.run pins s σ H Q I (i σ H Q q)⟩
def tupW : W → T (List W)
  | .tup ws => .ok ws
  | _ => .bad
def lstW : W → T (List W)
  | .lst ws => .ok ws
  | _ => .bad
def iOf (g : W → T (List W)) (f : En → T W) : En → T (List W) := fun ρ => (f ρ).bind g
def intsFrom (lo : Int) : Nat → List W
  | 0 => []
  | n + 1 => .int lo :: intsFrom (lo + 1) n
theorem intsFrom_get : ∀ (n : Nat) (lo : Int) (i : Nat), (intsFrom lo n)[i]? = if i < n then some (.int (lo + i)) else none
  | 0, lo, i => by simp [intsFrom]
  | n + 1, lo, 0 => by simp [intsFrom]
  | n + 1, lo, i + 1 => by
    simp only [intsFrom, List.getElem?_cons_succ]
    rw [intsFrom_get n (lo + 1) i]
    by_cases h : i < n
    · rw [if_pos h, if_pos (by omega)]
      have e : lo + 1 + (i : Int) = lo + ((i + 1 : Nat) : Int) := by omega
      rw [e]
    · rw [if_neg h, if_neg (by omega)]
theorem intsFrom_length : ∀ (n : Nat) (lo : Int), (intsFrom lo n).length = n
  | 0, _ => rfl
  | n + 1, lo => congrArg (· + 1) (intsFrom_length n (lo + 1))
@[irreducible] def rngOk (n : Int) : Bool := decide (n.natAbs.log2 < 61)
theorem rngOk_of {n : Int} (h : rngOk n = true) : -(2 ^ 62) ≤ n ∧ n < 2 ^ 62 := by
  unfold rngOk at h
  have h := of_decide_eq_true h
  by_cases h0 : n.natAbs = 0
  · omega
  · have := (Nat.log2_lt h0).mp h
    omega
theorem rngOk_is {n : Int} (h : -(2 ^ 60) ≤ n) (h1 : n ≤ 2 ^ 60) : rngOk n = true := by
  unfold rngOk
  refine decide_eq_true ?_
  by_cases h0 : n.natAbs = 0
  · rw [h0]
    decide
  · exact (Nat.log2_lt h0).mpr (by omega)
def rng1 : List W → T (List W)
  | [.int n] => if rngOk n then .ok (intsFrom 0 n.toNat) else .bad
  | _ => .bad
def rng2 : List W → T (List W)
  | [.int a, .int b] => if rngOk a && rngOk b then .ok (intsFrom a (b - a).toNat) else .bad
  | _ => .bad
def iL (g : List W → T (List W)) (f : En → T (List W)) : En → T (List W) := fun ρ => (f ρ).bind g
section
variable {X : Cx} {E : WX} {tg e a b : Expr} {f : En → T W} {fs : En → T (List W)} {p pos : Pos}
theorem PJ.now {K : PySem.W.Frag} {c : Cc} {H : Hp} {R : It → Hp → Prop} {d : Nat} {ws : List W} {J : It} (wd : Wd c d H) (h : PJ K c H R d ws) (j : ItOk K c H J ws) : R J H := h J H (.refl c H) wd.st j
theorem tri_tup (h : TrE X E e f) : TrI X E tg e (iOf tupW f) := pi_imp (pi_tup h) fun σ H R q => by
  obtain ⟨c, d, oa, ρ, e, q⟩ := q
  refine lift_then (P := fun c H => PJ X.K c H R) e q (fun st p => p.later st) fun w v H1 d1 _ r1 e1 h1 => ?_
  cases r1 with
  | tup hq rl =>
    rename_i a vs ws
    refine ⟨a, rfl, ⟨_, hq⟩, PJ.now e1.wd h1 fun c' H' d' i fw wd => ⟨fun w hw => ?_, fun hi => ?_⟩⟩
    · obtain ⟨v, hv, rv⟩ := rl.get hw
      have hq' := fw.sqT e1.wd hq
      refine ⟨⟨vs, v, hq', hv⟩, fun x H2 y => ?_⟩
      obtain ⟨rfl, y⟩ := y
      have ex := y vs hq'
      rw [hv] at ex
      cases ex
      exact ⟨.refl _ _, wd.st, fw.rep _ _ rv⟩
    · exact ⟨vs, fw.sqT e1.wd hq, by rw [← rl.length]; exact hi⟩
  | _ => exact h1.elim
theorem tri_lst (h : TrE X E e f) : TrI X E tg e (iOf lstW f) := pi_imp (pi_list h) fun σ H R q => by
  obtain ⟨c, d, oa, ρ, e, q⟩ := q
  refine lift_then (P := fun c H => PJ X.K c H R) e q (fun st p => p.later st) fun w v H1 d1 _ r1 e1 h1 => ?_
  cases r1 with
  | lst n hq rl =>
    rename_i a vs ws
    refine ⟨a, rfl, ⟨_, SqL.of hq⟩, PJ.now e1.wd h1 fun c' H' d' i fw wd => ?_⟩
    have hq' : H' a = some (.lst vs) := fw.step _ _ hq (e1.ok.neS n) (e1.ok.nela n) fun z => n (e1.m.inA _ z)
    have uq : ∀ xs, SqL X.K H' a xs → Rd H' a (.lst xs) ∨ SqL X.K (fun _ => none) a xs := fun xs h => sqL_split h
    refine ⟨fun w hw => ?_, fun hi => ?_⟩
    · obtain ⟨v, hv, rv⟩ := rl.get hw
      refine ⟨⟨vs, v, SqL.of hq', hv⟩, fun x H2 y => ?_⟩
      obtain ⟨rfl, y⟩ := y
      have ex := y vs (SqL.of hq')
      rw [hv] at ex
      cases ex
      exact ⟨.refl _ _, wd.st, fw.rep _ _ rv⟩
    · exact ⟨vs, SqL.of hq', by rw [← rl.length]; exact hi⟩
  | _ => exact h1.elim
theorem itr_ok {K : PySem.W.Frag} {c : Cc} {H : Hp} (lo : Int) (n : Nat) : ItOk K c H (Itr lo n) (intsFrom lo n) := fun c' H' d' i fw wd => by
  refine ⟨fun w hw => ?_, fun hi => ?_⟩
  · rw [intsFrom_get] at hw
    by_cases hi : i < n
    · rw [if_pos hi] at hw
      cases hw
      refine ⟨hi, fun x H2 y => ?_⟩
      obtain ⟨rfl, rfl⟩ := y
      exact ⟨.refl _ _, wd.st, .int _⟩
    · rw [if_neg hi] at hw
      cases hw
  · rw [intsFrom_length] at hi
    exact hi
theorem tri_rng1 (hg : Gl X "range") (hm : X.mg "range" = none) (ha : TrA X E [a] fs) (hs : starEach [a] X.env = [(false, eval a X.env)] := by rfl) : TrI X E tg (.Call (.Name "range" p) [a] [] pos) (iL rng1 fs) := pi_imp (pi_range1 hg hm ha hs) fun σ H R q => by
  obtain ⟨c, d, oa, ρ, e, q⟩ := q
  refine liftA_then (P := fun c H => PJ X.K c H R) e q (fun st p => p.later st) fun w v H1 d1 _ r1 e1 h1 => ?_
  cases r1 with
  | nil => exact h1.elim
  | cons r rr =>
    cases rr with
    | cons _ _ =>
      cases r <;> exact h1.elim
    | nil =>
      cases r with
      | int n =>
        obtain ⟨hb, h1⟩ := T.AllB.ite h1
        obtain ⟨h2, h3⟩ := rngOk_of hb
        exact ⟨n, rfl, h2, h3, PJ.now e1.wd h1 (itr_ok 0 n.toNat)⟩
      | _ => exact h1.elim
theorem tri_rng2 (hg : Gl X "range") (hm : X.mg "range" = none) (ha : TrA X E [a, b] fs) (hs : starEach [a, b] X.env = [(false, eval a X.env), (false, eval b X.env)] := by rfl) (hs2 : starEach [b] X.env = [(false, eval b X.env)] := by rfl) : TrI X E tg (.Call (.Name "range" p) [a, b] [] pos) (iL rng2 fs) := pi_imp (pi_range2 hg hm ha hs hs2) fun σ H R q => by
  obtain ⟨c, d, oa, ρ, e, q⟩ := q
  refine liftA_then (P := fun c H => PJ X.K c H R) e q (fun st p => p.later st) fun w v H1 d1 _ r1 e1 h1 => ?_
  cases r1 with
  | nil => exact h1.elim
  | cons r rr =>
    cases rr with
    | nil => cases r <;> exact h1.elim
    | cons r2 rr =>
      cases rr with
      | cons _ _ => cases r <;> cases r2 <;> exact h1.elim
      | nil =>
        cases r with
        | int x =>
          cases r2 with
          | int y =>
            obtain ⟨hb, h1⟩ := T.AllB.ite h1
            obtain ⟨ha, hb⟩ := Bool.and_eq_true_iff.mp hb
            obtain ⟨a1, a2⟩ := rngOk_of ha
            obtain ⟨b1, b2⟩ := rngOk_of hb
            exact ⟨x, y, rfl, ⟨a1, a2, b1, b2⟩, PJ.now e1.wd h1 (itr_ok x (y - x).toNat)⟩
          | _ => exact h1.elim
        | _ => exact h1.elim
end
def forL (G : W → En → Option En) (gb : En → T (Fl × En)) : List W → En → T (Fl × En)
  | [], ρ => .ok (.nx, ρ)
  | w :: ws, ρ => match G w ρ with
    | none => .bad
    | some ρ1 => (gb ρ1).bind fun x => match x with
      | (.nx, ρ2) => forL G gb ws ρ2
      | (.ct, ρ2) => forL G gb ws ρ2
      | (.bk, ρ2) => .ok (.nx, ρ2)
      | (.rt w, ρ2) => .ok (.rt w, ρ2)
def sFor (fi : En → T (List W)) (G : W → En → Option En) (gb : En → T (Fl × En)) : En → T (Fl × En) := fun ρ => (fi ρ).bind fun ws => forL G gb ws ρ
theorem tr_for {X : Cx} {E : XK} {tg iter : Expr} {body : List Stmt} {fi : En → T (List W)} {ns : List Nat} {G : W → En → Option En} {gb : En → T (Fl × En)} {pos : Pos} (hp : PassesOwn (model X.prog X.w) X.A X.env X.xe) (hc : X.calm = true) (hi : TrI X (wOf E) tg iter fi) (hg : TrG X tg ns G) (hb : TrSs X E body gb)
    (hs : ∀ x, foldedSetIterable iter X.env x = pure x := by intro _; rfl) : TrS X E (.For tg iter body [] pos) (sFor fi G gb) := ps_imp (ps_for hp hc hi hg hb hs) fun D σ H q => by
  obtain ⟨c, d, oa, ρ, e, q⟩ := q
  refine ⟨c, d, oa, ρ, e, T.AllB.imp (fun d1 ws hx => ?_) (fun _ _ _ y => y) (T.allB_bind.mp q)⟩
  intro J H1 st1 so1 jo
  have e1 := e.step st1 so1
  refine ⟨fun i m σ H' => m = ws.length - i ∧ ∃ c' d' oa' ρ', Fwd X.K c H1 c' H' ∧ EnvOk X.K c' d' oa' ρ' σ H' ∧ (forL G gb (ws.drop i) ρ').AllB (PSq X.K c' H' D) (PX X.K c' H' E) d', ⟨_, rfl, c, d1, oa, ρ, .refl, e1, T.AllB.imp (fun _ _ y => y.later (.of st1 e.wd)) (fun _ _ _ y => y.later st1) hx⟩, ?_⟩
  rintro i m σ' H' ⟨rfl, c', d', oa', ρ', fw, e', h'⟩
  obtain ⟨ji, js⟩ := jo c' H' d' i fw e'.wd
  by_cases hi : i < ws.length
  · have hw : ws[i]? = some ws[i] := List.getElem?_eq_getElem hi
    have hd : ws.drop i = ws[i] :: ws.drop (i + 1) := List.drop_eq_getElem_cons hi
    rw [hd] at h'
    obtain ⟨jg, jy⟩ := ji _ hw
    refine .inr ⟨jg, fun σ2 H2 => ∃ c2 d2 oa2 ρ2, Fwd X.K c H1 c2 H2 ∧ EnvOk X.K c2 d2 oa2 ρ2 σ2 H2 ∧ (forL G gb (ws.drop (i + 1)) ρ2).AllB (PSq X.K c2 H2 D) (PX X.K c2 H2 E) d2, fun σ2 H2 h2 => ⟨ws.length - (i + 1), by omega, rfl, h2⟩, fun x H2 y => ?_⟩
    obtain ⟨st2, so2, rx⟩ := jy x H2 y
    have fw2 : Fwd X.K c' H' c' H2 := .of st2 e'.wd
    have e2 := e'.step st2 so2
    unfold forL at h'
    cases g : G ws[i] ρ' with
    | none =>
      rw [g] at h'
      exact h'.elim
    | some ρ1 =>
      rw [g] at h'
      refine ⟨c', d', oa', ρ', ws[i], ρ1, e2, rx, g, fun σ3 _ e3 => ⟨c', d', oa', ρ1, e3, ?_⟩⟩
      refine T.AllB.imp (fun d4 x4 hx4 => ?_) (fun _ _ _ y => y.fwd fw2) (T.allB_bind.mp h')
      obtain ⟨fl, ρ4⟩ := x4
      intro c4 oa4 σ4 H4 fw4 e4
      have fw5 : Fwd X.K c' H' c4 H4 := fw2.trans fw4
      cases fl with
      | nx => exact ⟨c4, d4, oa4, ρ4, fw.trans fw5, e4, T.AllB.imp (fun _ _ y => y.later fw5) (fun _ _ _ y => y.fwd fw5) hx4⟩
      | ct => exact ⟨c4, d4, oa4, ρ4, fw.trans fw5, e4, T.AllB.imp (fun _ _ y => y.later fw5) (fun _ _ _ y => y.fwd fw5) hx4⟩
      | bk => exact hx4 c4 oa4 σ4 H4 fw5 e4
      | rt w => exact hx4 c4 oa4 σ4 H4 fw5 e4
  · rw [List.drop_eq_nil_of_le (by omega)] at h'
    exact .inl ⟨js (by omega), h' c' oa' σ' H' .refl e'⟩
end PF
namespace PF
open PySem PySem.Spec PyProof.Rows L2
abbrev Cc.more (c : Cc) (D : Addr) : Cc := { c with A := D :: c.A }
section
variable {K : PySem.W.Frag} {c : Cc} {d : Nat} {oa : Nat → Addr} {ρ : En} {σ : St} {H H' : Hp} {D : Addr}
mutual
theorem Rep.more (n : H D = none) (st : Step c H H') (s : StOk c d H) (ok : CcOk c) : ∀ {w : W} {v : V}, Rep K c H w v → Rep K (c.more D) H' w v
  | _, _, .non => .non
  | _, _, .bl b => .bl b
  | _, _, .int i => .int i
  | _, _, .str x => .str x
  | _, _, .tup h r => .tup (st.sqT s h) (RepL.more n st s ok r)
  | _, _, .lst m h r => .lst (by
      simp only [List.mem_cons, not_or]
      exact ⟨ne_of_none h n, m⟩) (st.lst ok m h) (RepL.more n st s ok r)
  | _, _, .dct m h r => .dct (by
      simp only [List.mem_cons, not_or]
      exact ⟨ne_of_none h n, m⟩) (st.lst ok m h) (RepL.more n st s ok r)
  | _, _, .scr h => .scr (by
      rcases h with ⟨m, r⟩ | h
      · refine .inl ⟨?_, r.imp (fun e => st.lst ok m e) fun ⟨o, e⟩ => ⟨o, st.lst ok m e⟩⟩
        simp only [List.mem_cons, not_or]
        refine ⟨?_, m⟩
        rcases r with r | ⟨o, r⟩
        · exact ne_of_none r n
        · exact ne_of_none r n
      · exact .inr h)
  | _, _, .stt => .stt
theorem RepL.more (n : H D = none) (st : Step c H H') (s : StOk c d H) (ok : CcOk c) : ∀ {ws : List W} {vs : List V}, RepL K c H ws vs → RepL K (c.more D) H' ws vs
  | _, _, .nil => .nil
  | _, _, .cons h r => .cons (Rep.more n st s ok h) (RepL.more n st s ok r)
end
theorem Fwd.more (n : H D = none) (st : Step c H H') (wd : Wd c d H) : Fwd K c H (c.more D) H' := ⟨rfl, rfl, rfl, fun b h _ => List.mem_cons_of_mem _ h, fun _ h => .inl h, fun b o h h1 h2 _ => st b o h h1 h2, fun w v r => r.more n st wd.st wd.ok, fun _ _ h => st.sqT wd.st h⟩
/-- an object of the frame's own is laid -/
theorem EnvOk.more {o : HO} (e : EnvOk K c d oa ρ σ H) (n : H D = none) : EnvOk K (c.more D) d oa ρ σ (upd H D o) where
  ok := ⟨List.mem_cons_of_mem _ e.ok.inS, List.mem_cons_of_mem _ e.ok.inla, List.mem_cons_of_mem _ e.ok.inca⟩
  st := e.st.new n
  av := fun b hb => by
    rcases List.mem_cons.mp hb with rfl | hb
    · exact ⟨_, upd_same⟩
    · exact (e.wd.new n).av b hb
  len := e.len
  val := fun i w h => by
    obtain ⟨v, h1, h2⟩ := e.val i w h
    exact ⟨v, h1, h2.more n (.new n) e.st e.ok⟩
  m := ⟨fun b hb => List.mem_cons_of_mem _ (e.m.inA b hb), e.m.nst, fun b hb => by
    obtain ⟨xs, h⟩ := e.m.ls b hb
    exact ⟨xs, by rw [upd_ne (ne_of_none h n)]; exact h⟩⟩
  own := fun i ws h => by
    obtain ⟨h1, h3, vs, h4, h5⟩ := e.own i ws h
    exact ⟨h1, h3, vs, by rw [upd_ne (ne_of_none h4 n)]; exact h4, h5.more n (.new n) e.st e.ok⟩
  inj := e.inj
theorem sqT_upd {a : Addr} {vs : List V} {o u : HO} (hl : H D = some o) (nt : ∀ xs, o ≠ .tup xs) (nf : ∀ b u, o ≠ .frz b u) (h : SqT K H a vs) : SqT K (upd H D u) a vs := by
  rcases h with (h | ⟨b, h⟩) | h
  · exact .inl (.inl (by rw [upd_ne (ne_of h hl (Ne.symm (nt _)))]; exact h))
  · exact .inl (.inr ⟨b, by rw [upd_ne (ne_of h hl (Ne.symm (nf _ _)))]; exact h⟩)
  · exact .inr h
mutual
theorem Rep.upd {o u : HO} (hA : D ∈ c.A) (hl : H D = some o) (nt : ∀ xs, o ≠ .tup xs) (nf : ∀ b u, o ≠ .frz b u) : ∀ {w : W} {v : V}, Rep K c H w v → Rep K c (L2.upd H D u) w v
  | _, _, .non => .non
  | _, _, .bl b => .bl b
  | _, _, .int i => .int i
  | _, _, .str x => .str x
  | _, _, .tup h r => .tup (sqT_upd hl nt nf h) (RepL.upd hA hl nt nf r)
  | _, _, .lst m h r => .lst m (by rw [upd_ne (fun z => m (by rw [z]; exact hA))]; exact h) (RepL.upd hA hl nt nf r)
  | _, _, .dct m h r => .dct m (by rw [upd_ne (fun z => m (by rw [z]; exact hA))]; exact h) (RepL.upd hA hl nt nf r)
  | _, _, .scr h => .scr (by
      rcases h with ⟨m, r⟩ | h
      · have ne : ∀ b, b ∉ c.A → b ≠ D := fun b hb z => hb (by rw [z]; exact hA)
        exact .inl ⟨m, r.imp (fun e => by rw [upd_ne (ne _ m)]; exact e) fun ⟨o, e⟩ => ⟨o, by rw [upd_ne (ne _ m)]; exact e⟩⟩
      · exact .inr h)
  | _, _, .stt => .stt
theorem RepL.upd {o u : HO} (hA : D ∈ c.A) (hl : H D = some o) (nt : ∀ xs, o ≠ .tup xs) (nf : ∀ b u, o ≠ .frz b u) : ∀ {ws : List W} {vs : List V}, RepL K c H ws vs → RepL K c (L2.upd H D u) ws vs
  | _, _, .nil => .nil
  | _, _, .cons h r => .cons (Rep.upd hA hl nt nf h) (RepL.upd hA hl nt nf r)
end
theorem StOk.upd {u : HO} (s : StOk c d H) (hn : D ∉ [c.S, c.ca, c.la]) : StOk c d (L2.upd H D u) := by
  obtain ⟨cells, lefts, k, r, h1, h2, h3, h⟩ := s
  simp only [List.mem_cons, not_or, List.not_mem_nil, not_false_eq_true, and_true] at hn
  exact ⟨cells, lefts, k, r, by rw [upd_ne (Ne.symm hn.1)]; exact h1, by rw [upd_ne (Ne.symm hn.2.1)]; exact h2, by rw [upd_ne (Ne.symm hn.2.2)]; exact h3, h⟩
theorem EnvOk.upd {xs ys : List V} (e : EnvOk K c d oa ρ σ H) (hA : D ∈ c.A) (hn : D ∉ [c.S, c.ca, c.la]) (hl : H D = some (.lst xs)) (ho : ∀ (i : Nat) (ws : List W), ρ[i]? = some (.own ws) → oa i ≠ D) : EnvOk K c d oa ρ σ (L2.upd H D (.lst ys)) where
  ok := e.ok
  st := e.st.upd hn
  av := fun b hb => by
    by_cases hb' : b = D
    · rw [hb']
      exact ⟨_, upd_same⟩
    · obtain ⟨o, h⟩ := e.av b hb
      exact ⟨o, by rw [upd_ne hb']; exact h⟩
  len := e.len
  val := fun i w h => by
    obtain ⟨v, h1, h2⟩ := e.val i w h
    exact ⟨v, h1, h2.upd hA hl (fun _ z => by cases z) (fun _ _ z => by cases z)⟩
  m := ⟨e.m.inA, e.m.nst, fun b hb => by
    by_cases hb' : b = D
    · rw [hb']
      exact ⟨_, upd_same⟩
    · obtain ⟨xs, h⟩ := e.m.ls b hb
      exact ⟨xs, by rw [upd_ne hb']; exact h⟩⟩
  own := fun i ws h => by
    obtain ⟨h1, h3, vs, h4, h5⟩ := e.own i ws h
    exact ⟨h1, h3, vs, by rw [upd_ne (ho i ws h)]; exact h4, h5.upd hA hl (fun _ z => by cases z) (fun _ _ z => by cases z)⟩
  inj := e.inj
end
def noX {α : Type} : T α → T α
  | .ok a => .ok a
  | .exc _ _ => .bad
  | .bad => .bad
  | .ask n k => .ask n fun i => noX (k i)
theorem noX_all {α : Type} {P : Nat → α → Prop} {E E' : Nat → Nat → List W → Prop} : ∀ {t : T α} {d : Nat}, (noX t).AllB P E d → t.AllB P E' d
  | .ok a, d, h => h
  | .exc _ _, d, h => h.elim
  | .bad, _, h => h
  | .ask n k, d, h => by
    obtain ⟨e, he, x⟩ := h
    exact ⟨e, he, fun i hi => noX_all (x i hi)⟩
def wipeE (ρ : En) : List Nat → En
  | [] => ρ
  | v :: vs => (wipeE ρ vs).set v .un
def compL (G : W → En → Option En) (tt : En → T Bool) (fe : En → T W) (ρ : En) : List W → T (List W)
  | [] => .ok []
  | w :: ws => match G w ρ with
    | none => .bad
    | some ρ1 => (noX (tt ρ1)).bind fun b => if b then (noX (fe ρ1)).bind fun x => (compL G tt fe ρ ws).bind fun xs => .ok (x :: xs) else compL G tt fe ρ ws
def fComp (vs : List Nat) (fi : En → T (List W)) (G : W → En → Option En) (tt : En → T Bool) (fe : En → T W) : En → T W := fun ρ => (fi ρ).bind fun ws => if sizeOk ws then (compL G tt fe (wipeE ρ vs) ws).bind fun xs => .ok (.lst xs) else .bad
abbrev noW : WX := fun _ _ _ _ => False
section
variable {K : PySem.W.Frag} {c : Cc} {d : Nat} {oa : Nat → Addr} {ρ : En} {σ : St} {H : Hp}
theorem EnvOk.un {v : Nat} (e : EnvOk K c d oa ρ σ H) : EnvOk K c d oa (ρ.set v .un) (σ.set v none) H where
  ok := e.ok
  st := e.st
  av := e.av
  len := by rw [List.length_set, List.length_set]; exact e.len
  val := fun j x h => by
    rcases getElem?_set_or h with ⟨ej, ex⟩ | ⟨n, h'⟩
    · cases ex
    · obtain ⟨u, h1, h2⟩ := e.val j x h'
      exact ⟨u, by rw [List.getElem?_set_ne (Ne.symm n)]; exact h1, h2⟩
  m := e.m
  own := fun j x h => by
    rcases getElem?_set_or h with ⟨ej, ex⟩ | ⟨n, h'⟩
    · cases ex
    · obtain ⟨h1, h3, h4⟩ := e.own j x h'
      exact ⟨h1, by rw [List.getElem?_set_ne (Ne.symm n)]; exact h3, h4⟩
  inj := fun a b x y h1 h2 => by
    rcases getElem?_set_or h1 with ⟨ej, ex⟩ | ⟨n1, h1'⟩
    · cases ex
    · rcases getElem?_set_or h2 with ⟨ej, ex⟩ | ⟨n2, h2'⟩
      · cases ex
      · exact e.inj a b x y h1' h2'
theorem EnvOk.wipe (e : EnvOk K c d oa ρ σ H) : ∀ vs : List Nat, EnvOk K c d oa (wipeE ρ vs) (L2.wipe σ vs) H
  | [] => e
  | v :: vs => (EnvOk.wipe e vs).un
theorem wipeE_own {j : Nat} {xs : List W} : ∀ {vs : List Nat}, (wipeE ρ vs)[j]? = some (.own xs) → ρ[j]? = some (.own xs)
  | [], h => h
  | v :: vs, h => by
    rcases getElem?_set_or h with ⟨_, ex⟩ | ⟨_, h⟩
    · cases ex
    · exact wipeE_own h
theorem wipe_len (σ : St) : ∀ vs : List Nat, (L2.wipe σ vs).length = σ.length
  | [] => rfl
  | v :: vs => by
    unfold L2.wipe
    rw [List.length_set, wipe_len σ vs]
theorem wipe_at (σ : St) : ∀ (vs : List Nat) (j : Nat), (L2.wipe σ vs)[j]? = if j ∈ vs then (if j < σ.length then some none else none) else σ[j]?
  | [], j => by
    rw [if_neg (by simp)]
    rfl
  | v :: vs, j => by
    unfold L2.wipe
    by_cases e : v = j
    · subst e
      rw [if_pos (List.mem_cons_self ..), List.getElem?_set]
      simp only [if_true, wipe_len]
    · rw [List.getElem?_set_ne e, wipe_at σ vs j]
      have e' : (j ∈ v :: vs) ↔ j ∈ vs := by
        simp only [List.mem_cons]
        exact ⟨fun h => h.elim (fun z => absurd z.symm e) id, .inr⟩
      simp only [e']
theorem wipe_but {ns vs : List Nat} {σ2 : St} (h : ButAt ns (L2.wipe σ vs) σ2) (hs : ∀ i ∈ ns, i ∈ vs) : L2.wipe σ2 vs = L2.wipe σ vs := by
  refine List.ext_getElem? fun j => ?_
  rw [wipe_at, wipe_at]
  have hl : σ2.length = σ.length := by rw [h.1, wipe_len]
  by_cases hj : j ∈ vs
  · rw [if_pos hj, if_pos hj, hl]
  · rw [if_neg hj, if_neg hj, h.2 j (fun z => hj (hs j z)), wipe_at, if_neg hj]
end
section
variable {X : Cx} {E : WX} {elt tg iter : Expr} {ifs : List Expr} {scope : Scope} {own : List (Str × Nat)} {pos : Pos} {fi : En → T (List W)} {ns : List Nat} {G : W → En → Option En} {tt : En → T Bool} {fe : En → T W}
theorem comp_ok (hs : ∀ i ∈ ns, i ∈ own.map (·.2)) : ∀ σ H Q, liftE X.K E (fComp (own.map (·.2)) fi G tt fe) σ H Q → tLc (liftI X.K E fi) (liftG X.K ns G) (liftB X.K noW tt) (liftE X.K noW fe) (own.map (·.2)) σ H Q := fun σ H Q h => by
  obtain ⟨c, d, oa, ρ, e, h⟩ := h
  refine ⟨c, d, oa, ρ, e, T.AllB.imp (fun d1 ws hx => ?_) (fun _ _ _ y => y) (T.allB_bind.mp h)⟩
  intro J H1 st1 so1 jo D nD
  have e1 := e.step st1 so1
  obtain ⟨hz, hx⟩ := T.AllB.ite hx
  have hz := sizeOk_of hz
  generalize hvs : own.map (·.2) = vs at hs hx
  have hx : ((compL G tt fe (wipeE ρ vs) ws).bind fun xs => T.ok (W.lst xs)).AllB (PQ X.K c H1 Q) (PX X.K c H1 fun cls dx H' => E cls dx σ H') d1 := T.AllB.imp (fun _ _ y => y.later st1) (fun _ _ _ y => y.later st1) hx
  -- the turn's word
  refine ⟨fun i m H' => m = ws.length - i ∧ ∃ d' acc us, Step c H1 H' ∧ EnvOk X.K (c.more D) d' oa (wipeE ρ vs) (wipe σ vs) H' ∧ H' D = some (.lst us) ∧ RepL X.K (c.more D) H' acc us ∧ us.length ≤ i ∧
    ((compL G tt fe (wipeE ρ vs) (ws.drop i)).bind fun xs => T.ok (W.lst (acc ++ xs))).AllB (PQ X.K c H1 Q) (PX X.K c H1 fun cls dx H' => E cls dx σ H') d',
    ⟨_, rfl, d1, [], [], .new nD, (e1.more nD).wipe vs, upd_same, .nil, Nat.le_refl _, hx⟩, ?_⟩
  rintro i m H' ⟨rfl, d', acc, us, st', e', hD, ra, hl, h'⟩
  have fw : Fwd X.K c H1 (c.more D) H' := .more nD st' e1.wd
  obtain ⟨ji, js⟩ := jo (c.more D) H' d' i fw e'.wd
  have nst : D ∉ [(c.more D).S, (c.more D).ca, (c.more D).la] := by
    obtain ⟨cells, lefts, k, r, h1, h2, h3, _⟩ := so1
    simp only [List.mem_cons, not_or, List.not_mem_nil, not_false_eq_true, and_true]
    exact ⟨Ne.symm (ne_of_none h1 nD), Ne.symm (ne_of_none h2 nD), Ne.symm (ne_of_none h3 nD)⟩
  have ho : ∀ (j : Nat) (xs : List W), (wipeE ρ vs)[j]? = some (.own xs) → oa j ≠ D := fun j xs hj => by
    obtain ⟨_, _, zs, h4, _⟩ := e1.own j xs (wipeE_own hj)
    exact ne_of_none h4 nD
  by_cases hi : i < ws.length
  · have hw : ws[i]? = some ws[i] := List.getElem?_eq_getElem hi
    rw [List.drop_eq_getElem_cons hi] at h'
    obtain ⟨jg, jy⟩ := ji _ hw
    refine .inr ⟨jg, fun H2 => ∃ d' acc us, Step c H1 H2 ∧ EnvOk X.K (c.more D) d' oa (wipeE ρ vs) (wipe σ vs) H2 ∧ H2 D = some (.lst us) ∧ RepL X.K (c.more D) H2 acc us ∧ us.length ≤ i + 1 ∧
      ((compL G tt fe (wipeE ρ vs) (ws.drop (i + 1))).bind fun xs => T.ok (W.lst (acc ++ xs))).AllB (PQ X.K c H1 Q) (PX X.K c H1 fun cls dx H' => E cls dx σ H') d', fun H2 h2 => ⟨ws.length - (i + 1), by omega, rfl, h2⟩, fun x H2 y => ?_⟩
    obtain ⟨st2, so2, rx⟩ := jy x H2 y
    have e2 := e'.step st2 so2
    have keep : ∀ {Ha Hb : Hp}, Step (c.more D) Ha Hb → ∀ {us}, Ha D = some (.lst us) → Hb D = some (.lst us) := fun st us h => st _ _ h (by
      intro z
      exact nst (by rw [z]; simp)) (by
      intro z
      exact nst (by rw [z]; simp))
    unfold compL at h'
    cases g : G ws[i] (wipeE ρ vs) with
    | none =>
      rw [g] at h'
      exact h'.elim
    | some ρ1 =>
      rw [g] at h'
      refine ⟨c.more D, d', oa, wipeE ρ vs, ws[i], ρ1, e2, rx, g, fun σ3 b3 e3 => ⟨wipe_but b3 hs, c.more D, d', oa, ρ1, e3, ?_⟩⟩
      refine noX_all (T.AllB.imp (fun d4 b hb => ?_) (fun _ _ _ y => y) (T.allB_bind.mp (T.allB_bind.mp h')))
      intro H4 st4 so4
      have e4 := e3.step st4 so4
      have e4' := e2.step st4 so4
      cases b with
      | false => exact iteF ⟨d4, acc, us, st'.trans (st2.trans st4), e4', keep st4 (keep st2 hD), (ra.step st2 e'.st e'.ok).step st4 e2.st e2.ok, Nat.le_succ_of_le hl, T.allB_bind.mpr (show (compL G tt fe (wipeE ρ vs) (ws.drop (i + 1))).AllB _ _ d4 from hb)⟩
      | true =>
        refine iteT ⟨c.more D, d4, oa, ρ1, e4, ?_⟩
        refine noX_all (T.AllB.imp (fun d5 w5 h5 => ?_) (fun _ _ _ y => y) (T.allB_bind.mp (show ((noX (fe ρ1)).bind fun x => (compL G tt fe (wipeE ρ vs) (ws.drop (i + 1))).bind fun xs => .ok (x :: xs)).AllB _ _ d4 from hb)))
        intro v5 H5 st5 so5 r5
        have e5 := e4'.step st5 so5
        have hD5 := keep st5 (keep st4 (keep st2 hD))
        have ra5 := ((ra.step st2 e'.st e'.ok).step st4 e2.st e2.ok).step st5 e4'.st e4'.ok
        refine ⟨us, hD5, by omega, d5, acc ++ [w5], us ++ [v5], fun b o hb h1 h2 => ?_, e5.upd (List.mem_cons_self ..) nst hD5 ho, upd_same, ?_, by rw [List.length_append]; exact Nat.succ_le_succ hl, ?_⟩
        · rw [upd_ne (ne_of_none hb nD)]
          exact (st'.trans (st2.trans (st4.trans st5))) b o hb h1 h2
        · exact (ra5.append (.cons r5 .nil)).upd (List.mem_cons_self ..) hD5 (fun _ z => by cases z) (fun _ _ z => by cases z)
        · have h6 := T.allB_bind.mp h5
          refine T.allB_bind.mpr (T.AllB.imp (fun d6 xs h7 => ?_) (fun _ _ _ y => y) h6)
          have e7 : acc ++ [w5] ++ xs = acc ++ w5 :: xs := by simp
          rw [e7]
          exact h7
  · rw [List.drop_eq_nil_of_le (by omega)] at h'
    refine .inl ⟨js (by omega), ?_⟩
    have h8 : PQ X.K c H1 Q d' (.lst (acc ++ [])) := h'
    rw [List.append_nil] at h8
    refine h8 _ H' st' e'.st (.lst (e1.wd.fresh nD) hD ?_)
    exact RepL.weak (c := c) (c1 := c.more D) rfl (fun b hb => List.mem_cons_of_mem _ hb) ra
/-- the clause's tests -/
def TrTs (X : Cx) (ifs : List Expr) (t : En → T Bool) : Prop := PTs X ifs (liftB X.K noW t)
def fYes : En → T Bool := fun _ => .ok true
theorem trt_nil {X : Cx} : TrTs X [] fYes := ⟨fun pins s σ H Q I h => pts_nil.run pins s σ H Q I (by
  obtain ⟨c, d, oa, ρ, e, h⟩ := h
  exact h H (.refl c H) e.st)⟩
theorem trt_one {X : Cx} {e : Expr} {t : En → T Bool} (h : TrB X noW e t) : TrTs X [e] t := pts_one h
theorem tr_lc (hc : X.calm = true) (hN : X.N.Nodup) (hi : TrI X E tg iter fi) (ok : BlkOk X.N X.env.scope scope own) (hs : ∀ i ∈ ns, i ∈ own.map (·.2))
    (hg : ∀ (s : Shared) (H : Hp) (C : Addr) (cl : List (Str × Addr)) (fp : List Addr), TrG (X.blk s H scope (compEnvC scope cl C X.env) fp) tg ns G) (ht : ∀ (s : Shared) (H : Hp) (C : Addr) (cl : List (Str × Addr)) (fp : List Addr), TrTs (X.blk s H scope (compEnvC scope cl C X.env) fp) ifs tt)
    (he : ∀ (s : Shared) (H : Hp) (C : Addr) (cl : List (Str × Addr)) (fp : List Addr), TrE (X.blk s H scope (compEnvC scope cl C X.env) fp) noW elt fe) (hf : ∀ x, foldedSetIterable iter X.env x = pure x := by intro _; rfl) :
    TrE X E (.ListComp elt [⟨tg, iter, ifs, 0⟩] scope pos) (fComp (own.map (·.2)) fi G tt fe) := pe_imp (pe_lc (g := liftG X.K ns G) (tt := liftB X.K noW tt) (te := liftE X.K noW fe) hc hN hi ok hg ht he hf) (comp_ok hs)
end
def startE (n : Nat) (ws : List W) : En := ws.map Sl.val ++ List.replicate (n - ws.length) .un
def endOf : Fl × En → T W
  | (.rt w, _) => .ok w
  | (.nx, _) => .ok .non
  | _ => .bad
def defF (n np : Nat) (g : En → T (Fl × En)) : List W → T W := fun ws => if ws.length == np then (g (startE n ws)).bind endOf else .bad
/-- a frame begins with no list of its own -/
abbrev Cc.bare (c : Cc) : Cc := { c with M := [] }
theorem start_ok {K : PySem.W.Frag} {c : Cc} {d : Nat} {H : Hp} {ws : List W} {vs : List V} {N : List Str} (wd : Wd c d H) (hM : c.M = []) (r : RepL K c H ws vs) : EnvOk K c d (fun _ => 0) (startE N.length ws) (L2.start N vs) H where
  ok := wd.ok
  st := wd.st
  av := wd.av
  len := by
    unfold startE L2.start
    rw [List.length_append, List.length_append, List.length_map, List.length_map, List.length_replicate, List.length_replicate, r.length]
  val := fun i w h => by
    unfold startE at h
    unfold L2.start
    rw [List.getElem?_append] at h
    split at h
    · rename_i hi
      rw [List.length_map] at hi
      rw [List.getElem?_map] at h
      cases hw : ws[i]? with
      | none =>
        rw [hw] at h
        cases h
      | some w' =>
        rw [hw] at h
        cases h
        obtain ⟨v, h1, h2⟩ := r.get hw
        refine ⟨v, ?_, h2⟩
        rw [List.getElem?_append_left (by rw [List.length_map, ← r.length]; exact hi), List.getElem?_map, h1]
        rfl
    · rw [List.getElem?_replicate] at h
      split at h <;> cases h
  m := ⟨fun b hb => (by rw [hM] at hb; cases hb), fun b hb => (by rw [hM] at hb; cases hb), fun b hb => (by rw [hM] at hb; cases hb)⟩
  own := fun i w h => by
    unfold startE at h
    rw [List.getElem?_append] at h
    split at h
    · rw [List.getElem?_map] at h
      cases hw : ws[i]? with
      | none =>
        rw [hw] at h
        cases h
      | some w' =>
        rw [hw] at h
        cases h
    · rw [List.getElem?_replicate] at h
      split at h <;> cases h
  inj := fun i j x y h _ => by
    unfold startE at h
    rw [List.getElem?_append] at h
    split at h
    · rw [List.getElem?_map] at h
      cases hw : ws[i]? with
      | none =>
        rw [hw] at h
        cases h
      | some w' =>
        rw [hw] at h
        cases h
    · rw [List.getElem?_replicate] at h
      split at h <;> cases h
theorem SpF.len {K : PySem.W.Frag} {F : List W → T W} {np : Nat} (hF : ∀ ws, ws.length ≠ np → F ws = .bad) : ∀ vs H Q E, SpF K F vs H Q E → vs.length = np := fun vs H Q E h => by
  obtain ⟨c, d, ws, wd, r, h⟩ := h
  by_cases e : ws.length = np
  · rw [← r.length]
    exact e
  · rw [hF ws e] at h
    exact h.elim
/-- THE RULE: a def of the text does what its body's run does -/
theorem fn_tr {P : Program} {w : World} {K : PySem.W.Frag} {mg : Str → Option Value} {base : Heap} {k : Nat} {f : Addr} {fd : FuncData} {x qual : Str} {params : Arguments} {body : List Stmt} {scope : Scope} {N ps : List Str} {g : En → T (Fl × En)}
    (F : FunD K x qual params body scope [] [] f fd) (S : FnScope N ps scope)
    (hb : ∀ (cdv : Value) (A : Around) (outer : List PySem.Env) (s : Shared) (H : Hp) (E : XK), Room k (A.deeper (envOfC qual scope s.heap.objs.size f cdv)) → TrSs (cxOf (L2.CX P w) P w K mg base N qual scope f cdv A outer s H E) E body g) :
    FnOk P w K mg base (L2.CX P w) (k + 1) f fd ps (SpF K (defF N.length ps.length g)) := by
  refine F.ok S (SpF.len fun ws h => ?_) fun cdv A outer s H vs Q E hr h => ⟨_, hb cdv A outer s H E hr, ?_⟩
  · unfold defF
    rw [if_neg]
    intro z
    exact h (eq_of_beq z)
  · obtain ⟨c, d, ws, wd, r, h⟩ := h
    obtain ⟨_, h⟩ := T.AllB.ite h
    refine ⟨c.bare, d, fun _ => 0, startE N.length ws, start_ok ⟨⟨wd.ok.inS, wd.ok.inla, wd.ok.inca⟩, wd.st, wd.av⟩ rfl (RepL.weak (c := c.bare) (c1 := c) rfl (fun _ h => h) r), T.AllB.imp (fun d1 x hx => ?_) (fun _ _ _ y => y) (T.allB_bind.mp h)⟩
    obtain ⟨fl, ρ'⟩ := x
    intro c' oa' σ' H' fw e'
    have so : StOk c d1 H' := by
      obtain ⟨cells, lefts, k, r, h1, h2⟩ := e'.st
      rw [fw.S, fw.ca, fw.la] at h1
      rw [fw.ca, fw.la] at h2
      exact ⟨cells, lefts, k, r, h1, h2⟩
    have st : Step c H H' := fun b o hb h1 h2 => fw.step b o hb h1 h2 fun z => by cases z
    cases fl with
    | nx => exact hx _ H' st so .non
    | rt w => exact fun v rv => hx v H' st so (Rep.weak (c := c) (c1 := c') fw.S (fun b hb => fw.sub b hb fun z => by cases z) rv)
    | bk => exact hx.elim
    | ct => exact hx.elim
end PF
namespace PF
open PySem PySem.Spec PyProof.Rows L2
@[irreducible] def sz2 (a b : Nat) : Bool := decide (a + b ≤ 16777216)
theorem sz2_of {a b : Nat} (h : sz2 a b = true) : a + b ≤ 16777216 := by
  unfold sz2 at h
  exact of_decide_eq_true h
def addW : W → W → T W
  | .int i, .int j => .ok (.int (i + j))
  | .str x, .str y => if sz2 x.length y.length then .ok (.str (x ++ y)) else .bad
  | .tup xs, .tup ys => if sz2 xs.length ys.length then .ok (.tup (xs ++ ys)) else .bad
  | .lst xs, .lst ys => if sz2 xs.length ys.length then .ok (.lst (xs ++ ys)) else .bad
  | _, _ => .bad
def subW : W → W → T W
  | .int i, .int j => .ok (.int (i - j))
  | _, _ => .bad
@[irreducible] def mulOk (i j : Int) : Bool := decide (i.natAbs.log2 + j.natAbs.log2 < 1000000)
def mulW : W → W → T W
  | .int i, .int j => if mulOk i j then .ok (.int (i * j)) else .bad
  | _, _ => .bad
@[irreducible] def divOk (j : Int) : Bool := decide (0 < j) && decide (j.natAbs.log2 < 9000)
def fdivW : W → W → T W
  | .int i, .int j => if divOk j then .ok (.int (i / j)) else .bad
  | _, _ => .bad
def modW : W → W → T W
  | .int i, .int j => if decide (0 < j) then .ok (.int (i % j)) else .bad
  | _, _ => .bad
@[irreducible] def powOk (i j : Int) : Bool := decide (0 ≤ j ∧ j ≤ 1000000 ∧ i.natAbs < 2 ^ 64)
def powW : W → W → T W
  | .int i, .int j => if powOk i j then .ok (.int (i ^ j.toNat)) else .bad
  | _, _ => .bad
def ltW : W → W → T W
  | .int i, .int j => .ok (.bl (decide (i < j)))
  | _, _ => .bad
def leW : W → W → T W
  | .int i, .int j => .ok (.bl (decide (i ≤ j)))
  | _, _ => .bad
def gtW : W → W → T W
  | .int i, .int j => .ok (.bl (decide (j < i)))
  | _, _ => .bad
def geW : W → W → T W
  | .int i, .int j => .ok (.bl (decide (j ≤ i)))
  | _, _ => .bad
section
variable {K : PySem.W.Frag}
theorem RepL.sizes {c : Cc} {H : Hp} {xs ys : List W} {us vs : List V} (r : RepL K c H xs us) (q : RepL K c H ys vs) (h : sz2 xs.length ys.length = true) : us.length + vs.length ≤ sizeLine := by
  rw [sizeLine_eq, ← r.length, ← q.length]
  exact sz2_of h
theorem sem_int0 {g : W → W → T W} {f : Int → Int → V} {k : Int → Int → W} (hk : ∀ c H i j, Rep K c H (k i j) (f i j)) (h : ∀ x y, (∃ i j, x = .int i ∧ y = .int j ∧ g x y = .ok (k i j)) ∨ g x y = .bad) : Sem2 K (rI0 f) g := fun c d H x y v u Q E' wd rx ry q => by
  rcases h x y with ⟨i, j, rfl, rfl, e⟩ | e
  · rw [e] at q
    cases rx
    cases ry
    exact ⟨i, j, rfl, rfl, PQ.now wd q (hk c H i j)⟩
  · rw [e] at q
    exact q.elim
theorem sem_intC {g : W → W → T W} {C : Int → Int → Prop} {B : Int → Int → Bool} {f : Int → Int → V} {k : Int → Int → W} (hk : ∀ c H i j, Rep K c H (k i j) (f i j)) (hC : ∀ i j, B i j = true → C i j) (h : ∀ x y, (∃ i j, x = .int i ∧ y = .int j ∧ g x y = if B i j then .ok (k i j) else .bad) ∨ g x y = .bad) : Sem2 K (rI C f) g := fun c d H x y v u Q E' wd rx ry q => by
  rcases h x y with ⟨i, j, rfl, rfl, e⟩ | e
  · rw [e] at q
    cases rx
    cases ry
    obtain ⟨hb, q⟩ := T.AllB.ite q
    exact ⟨i, j, rfl, rfl, hC i j hb, PQ.now wd q (hk c H i j)⟩
  · rw [e] at q
    exact q.elim
theorem sem_or1 {r r' : R2} {g g1 g2 : W → W → T W} (h1 : Sem2 K r g1) (h2 : Sem2 K r' g2) (h : ∀ x y, g x y = g1 x y ∨ g x y = g2 x y) : Sem2 K (fun x y H Q => r x y H Q ∨ r' x y H Q) g := fun c d H x y v u Q E' wd rx ry q => by
  rcases h x y with e | e
  · rw [e] at q
    exact .inl (h1 c d H x y v u Q E' wd rx ry q)
  · rw [e] at q
    exact .inr (h2 c d H x y v u Q E' wd rx ry q)
def addI : W → W → T W
  | .int i, .int j => .ok (.int (i + j))
  | _, _ => .bad
def addS : W → W → T W
  | .str x, .str y => if sz2 x.length y.length then .ok (.str (x ++ y)) else .bad
  | _, _ => .bad
def addT : W → W → T W
  | .tup xs, .tup ys => if sz2 xs.length ys.length then .ok (.tup (xs ++ ys)) else .bad
  | _, _ => .bad
def addL : W → W → T W
  | .lst xs, .lst ys => if sz2 xs.length ys.length then .ok (.lst (xs ++ ys)) else .bad
  | _, _ => .bad
theorem sem_addI : Sem2 K (rI0 fun i j => .int (i + j)) addI := sem_int0 (k := fun i j => .int (i + j)) (fun _ _ _ _ => .int _) fun x y => by
  cases x <;> cases y <;> first | exact .inl ⟨_, _, rfl, rfl, rfl⟩ | exact .inr rfl
theorem sem_addS : Sem2 K (fun x y H Q => ∃ i j, x = .str i ∧ y = .str j ∧ i.length + j.length ≤ sizeLine ∧ Q (.str (i ++ j)) H) addS := fun c d H x y v u Q E' wd rx ry q => by
  cases rx <;> try exact q.elim
  cases ry <;> try exact q.elim
  obtain ⟨hz, q⟩ := T.AllB.ite q
  exact ⟨_, _, rfl, rfl, by rw [sizeLine_eq]; exact sz2_of hz, PQ.now wd q (.str _)⟩
theorem sem_addT : Sem2 K (rCatA K) addT := fun c d H x y v u Q E' wd rx ry q => by
  cases rx <;> try exact q.elim
  cases ry <;> try exact q.elim
  rename_i a xs ws h1 r1 b ys us h2 r2
  obtain ⟨hz, q⟩ := T.AllB.ite q
  refine ⟨_, _, _, _, rfl, rfl, h1, h2, r1.sizes r2 hz, fun e => ?_, fun _ e => ?_, fun _ _ p n => PQ.tup wd q (r1.append r2) n⟩
  · subst e
    cases r1
    exact PQ.now wd q (.tup h2 r2)
  · subst e
    cases r2
    rw [List.append_nil] at q
    exact PQ.now wd q (.tup h1 r1)
theorem sem_addL : Sem2 K rCat addL := fun c d H x y v u Q E' wd rx ry q => by
  cases rx <;> try exact q.elim
  cases ry <;> try exact q.elim
  rename_i a xs ws n1 h1 r1 b ys us n2 h2 r2
  obtain ⟨hz, q⟩ := T.AllB.ite q
  exact ⟨_, _, _, _, rfl, rfl, h1, h2, r1.sizes r2 hz, fun p n => PQ.lst wd q (r1.append r2) n⟩
/-- a + b of ints, texts, tuples, lists -/
abbrev rAddW (K : PySem.W.Frag) : R2 := fun x y H Q => rI0 (fun i j => .int (i + j)) x y H Q ∨ ((∃ i j, x = .str i ∧ y = .str j ∧ i.length + j.length ≤ sizeLine ∧ Q (.str (i ++ j)) H) ∨ (rCatA K x y H Q ∨ rCat x y H Q))
def addX : W → W → T W
  | .tup xs, y => addT (.tup xs) y
  | x, y => addL x y
def addY : W → W → T W
  | .str xs, y => addS (.str xs) y
  | x, y => addX x y
theorem addW_eq (x y : W) : addW x y = addI x y ∨ addW x y = addY x y := by
  cases x <;> cases y <;> first | exact .inl rfl | exact .inr rfl
theorem sem_add : Sem2 K (rAddW K) addW := sem_or1 sem_addI (sem_or1 (g := addY) sem_addS (sem_or1 (g := addX) sem_addT sem_addL fun x y => by
    cases x <;> first | exact .inr rfl | exact .inl rfl) fun x y => by
    cases x <;> first | exact .inr rfl | exact .inl rfl) addW_eq
theorem sem_sub : Sem2 K (rI0 fun i j => .int (i - j)) subW := sem_int0 (k := fun i j => .int (i - j)) (fun _ _ _ _ => .int _) fun x y => by
  cases x <;> cases y <;> first | exact .inl ⟨_, _, rfl, rfl, rfl⟩ | exact .inr rfl
theorem sem_mul : Sem2 K (rI CMulW fun i j => .int (i * j)) mulW := sem_intC (B := mulOk) (k := fun i j => .int (i * j)) (fun _ _ _ _ => .int _) (fun i j h => by
    unfold mulOk at h
    show i.natAbs.log2 + j.natAbs.log2 < 1000000
    exact of_decide_eq_true h) fun x y => by
  cases x <;> cases y <;> first | exact .inl ⟨_, _, rfl, rfl, rfl⟩ | exact .inr rfl
theorem sem_fdiv : Sem2 K (rI CDivW fun i j => .int (i / j)) fdivW := sem_intC (B := fun _ j => divOk j) (k := fun i j => .int (i / j)) (fun _ _ _ _ => .int _) (fun i j h => by
    unfold divOk at h
    obtain ⟨h1, h2⟩ := Bool.and_eq_true_iff.mp h
    exact ⟨of_decide_eq_true h1, of_decide_eq_true h2⟩) fun x y => by
  cases x <;> cases y <;> first | exact .inl ⟨_, _, rfl, rfl, rfl⟩ | exact .inr rfl
theorem sem_mod : Sem2 K (rI (fun _ j => 0 < j) fun i j => .int (i % j)) modW := sem_intC (B := fun _ j => decide (0 < j)) (k := fun i j => .int (i % j)) (fun _ _ _ _ => .int _) (fun i j h => of_decide_eq_true h) fun x y => by
  cases x <;> cases y <;> first | exact .inl ⟨_, _, rfl, rfl, rfl⟩ | exact .inr rfl
theorem sem_pow : Sem2 K (rI CPow fun i j => .int (i ^ j.toNat)) powW := sem_intC (B := powOk) (k := fun i j => .int (i ^ j.toNat)) (fun _ _ _ _ => .int _) (fun i j h => by
    unfold powOk at h
    show 0 ≤ j ∧ j ≤ 1000000 ∧ i.natAbs < 2 ^ 64
    exact of_decide_eq_true h) fun x y => by
  cases x <;> cases y <;> first | exact .inl ⟨_, _, rfl, rfl, rfl⟩ | exact .inr rfl
theorem sem_lt : Sem2 K (rI0 fun i j => .bl (decide (i < j))) ltW := sem_int0 (k := fun i j => .bl (decide (i < j))) (fun _ _ _ _ => .bl _) fun x y => by
  cases x <;> cases y <;> first | exact .inl ⟨_, _, rfl, rfl, rfl⟩ | exact .inr rfl
theorem sem_le : Sem2 K (rI0 fun i j => .bl (decide (i ≤ j))) leW := sem_int0 (k := fun i j => .bl (decide (i ≤ j))) (fun _ _ _ _ => .bl _) fun x y => by
  cases x <;> cases y <;> first | exact .inl ⟨_, _, rfl, rfl, rfl⟩ | exact .inr rfl
theorem sem_gt : Sem2 K (rI0 fun i j => .bl (decide (j < i))) gtW := sem_int0 (k := fun i j => .bl (decide (j < i))) (fun _ _ _ _ => .bl _) fun x y => by
  cases x <;> cases y <;> first | exact .inl ⟨_, _, rfl, rfl, rfl⟩ | exact .inr rfl
theorem sem_ge : Sem2 K (rI0 fun i j => .bl (decide (j ≤ i))) geW := sem_int0 (k := fun i j => .bl (decide (j ≤ i))) (fun _ _ _ _ => .bl _) fun x y => by
  cases x <;> cases y <;> first | exact .inl ⟨_, _, rfl, rfl, rfl⟩ | exact .inr rfl
def negW : W → T W
  | .int i => .ok (.int (-i))
  | _ => .bad
theorem sem_neg : Sem1 K (rU fun i => .int (-i)) negW := fun c d H x v Q E' wd rx q => by
  cases rx <;> try exact q.elim
  exact ⟨_, rfl, PQ.now wd q (.int _)⟩
end
section
variable {X : Cx}
theorem op_addW : OpR X (binaryOp .Add) (rAddW X.K) := op_add.or (op_add_str.or (op_catA.or op_cat))
end
mutual
def W.toD : W → Option PyData
  | .non => some .none
  | .bl b => some (.bool b)
  | .int i => some (.int i)
  | .str x => some (.str x)
  | .tup ws => (toDs ws).map .tuple
  | .lst ws => (toDs ws).map .list
  | _ => none
def toDs : List W → Option (List PyData)
  | [] => some []
  | w :: ws => match W.toD w, toDs ws with
    | some d, some ds => some (d :: ds)
    | _, _ => none
end
section
variable {K : PySem.W.Frag} {c : Cc} {H : Hp}
theorem toD_tup {ws : List W} {d : PyData} (e : (W.tup ws).toD = some d) : ∃ ds, toDs ws = some ds ∧ d = .tuple ds := by
  unfold W.toD at e
  cases q : toDs ws with
  | none =>
    rw [q] at e
    cases e
  | some ds =>
    rw [q] at e
    exact ⟨ds, rfl, (Option.some.inj e).symm⟩
theorem toD_lst {ws : List W} {d : PyData} (e : (W.lst ws).toD = some d) : ∃ ds, toDs ws = some ds ∧ d = .list ds := by
  unfold W.toD at e
  cases q : toDs ws with
  | none =>
    rw [q] at e
    cases e
  | some ds =>
    rw [q] at e
    exact ⟨ds, rfl, (Option.some.inj e).symm⟩
theorem toDs_cons {w : W} {ws : List W} {ds : List PyData} (e : toDs (w :: ws) = some ds) : ∃ d es, w.toD = some d ∧ toDs ws = some es ∧ ds = d :: es := by
  unfold toDs at e
  split at e
  · rename_i d es h1 h2
    exact ⟨d, es, h1, h2, (Option.some.inj e).symm⟩
  · cases e
theorem toD_non {d : PyData} (e : W.non.toD = some d) : d = .none := by
  unfold W.toD at e
  exact (Option.some.inj e).symm
theorem toD_bl {b : Bool} {d : PyData} (e : (W.bl b).toD = some d) : d = .bool b := by
  unfold W.toD at e
  exact (Option.some.inj e).symm
theorem toD_int {b : Int} {d : PyData} (e : (W.int b).toD = some d) : d = .int b := by
  unfold W.toD at e
  exact (Option.some.inj e).symm
theorem toD_str {b : Str} {d : PyData} (e : (W.str b).toD = some d) : d = .str b := by
  unfold W.toD at e
  exact (Option.some.inj e).symm
theorem toD_dct {ks : List Key} {ws : List W} {d : PyData} (e : (W.dct ks ws).toD = some d) : False := by
  unfold W.toD at e
  cases e
theorem toD_scr {n : Nat} {d : PyData} (e : (W.scr n).toD = some d) : False := by
  unfold W.toD at e
  cases e
theorem toD_stt {d : PyData} (e : W.stt.toD = some d) : False := by
  unfold W.toD at e
  cases e
mutual
theorem Rep.dp {w : W} {v : V} (r : Rep K c H w v) : ∀ {d : PyData}, w.toD = some d → Dp K H v d := by
  intro d e
  cases r with
  | non => rw [toD_non e]; exact .non
  | bl b => rw [toD_bl e]; exact .bl b
  | int i => rw [toD_int e]; exact .int i
  | str x => rw [toD_str e]; exact .str x
  | tup h r =>
    obtain ⟨ds, e1, rfl⟩ := toD_tup e
    exact .tup h (RepL.dp r e1)
  | lst n h r =>
    obtain ⟨ds, e1, rfl⟩ := toD_lst e
    exact .lst (SqL.of h) (RepL.dp r e1)
  | dct n h r => exact (toD_dct e).elim
  | scr h => exact (toD_scr e).elim
  | stt => exact (toD_stt e).elim
theorem RepL.dp {ws : List W} {vs : List V} (r : RepL K c H ws vs) : ∀ {ds : List PyData}, toDs ws = some ds → DpAll K H vs ds := by
  intro ds e
  cases r with
  | nil =>
    unfold toDs at e
    cases e
    exact .nil
  | cons h r =>
    obtain ⟨d, es, e1, e2, rfl⟩ := toDs_cons e
    exact .cons (Rep.dp h e1) (RepL.dp r e2)
end
end
def eqO (x y : W) : Option Bool := match x.toD, y.toD with
  | some d, some e => if SeqAt.shaped d && SeqAt.shaped e then some (PyData.eqv d e) else none
  | _, _ => none
def eqW (x y : W) : T W := match eqO x y with
  | some b => .ok (.bl b)
  | none => .bad
def neW (x y : W) : T W := match eqO x y with
  | some b => .ok (.bl !b)
  | none => .bad
section
variable {K : PySem.W.Frag}
theorem eqO_some {x y : W} {b : Bool} (h : eqO x y = some b) : ∃ d e, x.toD = some d ∧ y.toD = some e ∧ SeqAt.shaped d = true ∧ SeqAt.shaped e = true ∧ PyData.eqv d e = b := by
  unfold eqO at h
  split at h
  · rename_i d e h1 h2
    split at h
    · rename_i hs
      obtain ⟨h3, h4⟩ := Bool.and_eq_true_iff.mp hs
      exact ⟨d, e, h1, h2, h3, h4, Option.some.inj h⟩
    · cases h
  · cases h
theorem sem_eq : Sem2 K (rEqD K) eqW := fun c d H x y v u Q E' wd rx ry q => by
  unfold eqW at q
  cases e : eqO x y with
  | none =>
    rw [e] at q
    exact q.elim
  | some b =>
    rw [e] at q
    obtain ⟨d1, d2, h1, h2, h3, h4, rfl⟩ := eqO_some e
    exact ⟨d1, d2, rx.dp h1, ry.dp h2, h3, h4, PQ.now wd q (.bl _)⟩
theorem sem_ne : Sem2 K (rNeD K) neW := fun c d H x y v u Q E' wd rx ry q => by
  unfold neW at q
  cases e : eqO x y with
  | none =>
    rw [e] at q
    exact q.elim
  | some b =>
    rw [e] at q
    obtain ⟨d1, d2, h1, h2, h3, h4, rfl⟩ := eqO_some e
    exact ⟨d1, d2, rx.dp h1, ry.dp h2, h3, h4, PQ.now wd q (.bl _)⟩
def isNon : W → Bool
  | .non => true
  | _ => false
def isW : W → W → T W
  | x, .non => .ok (.bl (isNon x))
  | .bl a, .bl b => .ok (.bl (decide (a = b)))
  | _, _ => .bad
def isntW : W → W → T W
  | x, .non => .ok (.bl !(isNon x))
  | .bl a, .bl b => .ok (.bl !(decide (a = b)))
  | _, _ => .bad
theorem Rep.isN {c : Cc} {H : Hp} {x : W} {v : V} (r : Rep K c H x v) : isNon x = decide (v = .non) := by
  cases r <;> rfl
abbrev rIsW : R2 := fun x y H Q => (y = .non ∧ Q (.bl (decide (x = .non))) H) ∨ ∃ a b, x = .bl a ∧ y = .bl b ∧ Q (.bl (decide (a = b))) H
abbrev rIsntW : R2 := fun x y H Q => (y = .non ∧ Q (.bl (!decide (x = .non))) H) ∨ ∃ a b, x = .bl a ∧ y = .bl b ∧ Q (.bl (!decide (a = b))) H
theorem sem_is : Sem2 K rIsW isW := fun c d H x y v u Q E' wd rx ry q => by
  cases ry with
  | non =>
    have q : PQ K c H Q d (.bl (isNon x)) := by cases x <;> exact q
    rw [rx.isN] at q
    exact .inl ⟨rfl, PQ.now wd q (.bl _)⟩
  | bl b =>
    cases rx <;> try exact q.elim
    exact .inr ⟨_, _, rfl, rfl, PQ.now wd q (.bl _)⟩
  | _ => cases x <;> exact q.elim
theorem sem_isnt : Sem2 K rIsntW isntW := fun c d H x y v u Q E' wd rx ry q => by
  cases ry with
  | non =>
    have q : PQ K c H Q d (.bl !(isNon x)) := by cases x <;> exact q
    rw [rx.isN] at q
    exact .inl ⟨rfl, PQ.now wd q (.bl _)⟩
  | bl b =>
    cases rx <;> try exact q.elim
    exact .inr ⟨_, _, rfl, rfl, PQ.now wd q (.bl _)⟩
  | _ => cases x <;> exact q.elim
theorem op_isW {X : Cx} : OpR X (compareOp .Is) rIsW := op_isN.or op_is_bl
theorem op_isntW {X : Cx} : OpR X (compareOp .IsNot) rIsntW := op_notN.or op_isnot_bl
def ixW : W → W → T W
  | .tup ws, .int i => match atI ws i with
    | some w => .ok w
    | none => .bad
  | .lst ws, .int i => match atI ws i with
    | some w => .ok w
    | none => .bad
  | .str z, .int i => if strOk z then (match atI z.cps.toList i with
    | some c => .ok (.str ⟨#[c]⟩)
    | none => .bad) else .bad
  | _, _ => .bad
theorem RepL.atI {c : Cc} {H : Hp} {ws : List W} {vs : List V} {i : Int} {w : W} (r : RepL K c H ws vs) (h : L2.atI ws i = some w) : ∃ v, L2.atI vs i = some v ∧ Rep K c H w v := by
  unfold L2.atI at h ⊢
  rw [← r.length]
  cases e : ixN ws.length i with
  | none =>
    rw [e] at h
    cases h
  | some j =>
    rw [e] at h
    exact r.get h
theorem sem_ix : Sem2 K (rIx K) ixW := fun c d H x y v u Q E' wd rx ry q => by
  cases rx <;> try exact q.elim
  · cases ry <;> try exact q.elim
    rename_i z i
    obtain ⟨hz, q⟩ := T.AllB.ite q
    cases e : L2.atI z.cps.toList i with
    | none =>
      rw [e] at q
      exact q.elim
    | some k =>
      rw [e] at q
      exact .inr (.inr ⟨z, i, k, rfl, rfl, strOk_of hz, e, PQ.now wd q (.str _)⟩)
  · cases ry <;> try exact q.elim
    rename_i a vs ws hq r i
    unfold ixW at q
    simp only at q
    cases e : L2.atI ws i with
    | none =>
      rw [e] at q
      exact q.elim
    | some w =>
      rw [e] at q
      obtain ⟨v, h1, h2⟩ := r.atI e
      exact .inr (.inl ⟨a, vs, i, v, rfl, rfl, hq, h1, PQ.now wd q h2⟩)
  · cases ry <;> try exact q.elim
    rename_i a vs ws n hq r i
    unfold ixW at q
    simp only at q
    cases e : L2.atI ws i with
    | none =>
      rw [e] at q
      exact q.elim
    | some w =>
      rw [e] at q
      obtain ⟨v, h1, h2⟩ := r.atI e
      exact .inl ⟨a, vs, i, v, rfl, rfl, SqL.of hq, h1, PQ.now wd q h2⟩
def absW : List W → T W
  | [.int i] => .ok (.int (if i < 0 then -i else i))
  | _ => .bad
theorem sem_abs : SemL K (fun xs H Q => ∃ i, xs = [.int i] ∧ Q (.int (if i < 0 then -i else i)) H) absW := fun c d H x v Q E' wd rx q => by
  cases rx with
  | nil => exact q.elim
  | cons r rr =>
    cases rr with
    | cons _ _ => cases r <;> exact q.elim
    | nil =>
      cases r <;> try exact q.elim
      exact ⟨_, rfl, PQ.now wd q (.int _)⟩
def intW : List W → T W
  | [.int i] => .ok (.int i)
  | [.bl b] => .ok (.int (if b then 1 else 0))
  | _ => .bad
theorem sem_int1 : SemL K (fun xs H Q => (∃ i, xs = [.int i] ∧ Q (.int i) H) ∨ ∃ k, xs = [.bl k] ∧ Q (.int (if k then 1 else 0)) H) intW := fun c d H x v Q E' wd rx q => by
  cases rx with
  | nil => exact q.elim
  | cons r rr =>
    cases rr with
    | cons _ _ => cases r <;> exact q.elim
    | nil =>
      cases r <;> try exact q.elim
      · exact .inr ⟨_, rfl, PQ.now wd q (.int _)⟩
      · exact .inl ⟨_, rfl, PQ.now wd q (.int _)⟩
def max2W : List W → T W
  | [.int i, .int j] => .ok (.int (if j > i then j else i))
  | _ => .bad
def min2W : List W → T W
  | [.int i, .int j] => .ok (.int (if j < i then j else i))
  | _ => .bad
theorem sem_two {r : List V → Hp → VK → Prop} {g : List W → T W} (h1 : ∀ c d H Q i j, Wd c d H → (g [.int i, .int j]).AllB (PQ K c H Q) (fun _ _ _ => True) d → r [.int i, .int j] H Q) (h2 : ∀ x, (∀ i j, x ≠ [.int i, .int j]) → g x = .bad) : SemL K r g := fun c d H x v Q E' wd rx q => by
  by_cases h : ∃ i j, x = [.int i, .int j]
  · obtain ⟨i, j, rfl⟩ := h
    cases rx with
    | cons r1 rr =>
      cases rr with
      | cons r2 rr =>
        cases rr
        cases r1
        cases r2
        exact h1 c d H Q i j wd (T.AllB.imp (fun _ _ y => y) (fun _ _ _ _ => trivial) q)
  · rw [h2 x fun i j z => h ⟨i, j, z⟩] at q
    exact q.elim
theorem sem_max2 : SemL K (fun xs H Q => ∃ i j, xs = [.int i, .int j] ∧ Q (.int (if j > i then j else i)) H) max2W := sem_two (fun c d H Q i j wd q => ⟨i, j, rfl, PQ.now wd q (.int _)⟩) fun x h => by
  unfold max2W
  split
  · exact absurd rfl (h _ _)
  · rfl
theorem sem_min2 : SemL K (fun xs H Q => ∃ i j, xs = [.int i, .int j] ∧ Q (.int (if j < i then j else i)) H) min2W := sem_two (fun c d H Q i j wd q => ⟨i, j, rfl, PQ.now wd q (.int _)⟩) fun x h => by
  unfold min2W
  split
  · exact absurd rfl (h _ _)
  · rfl
def lenW : List W → T W
  | [.tup ws] => .ok (.int ws.length)
  | [.lst ws] => .ok (.int ws.length)
  | [.scr n] => .ok (.int n)
  | [.str x] => if strOk x then .ok (.int x.length) else .bad
  | _ => .bad
theorem sem_len : SemL K (fun xs H Q => ∃ x n, xs = [x] ∧ LenV K x H n ∧ Q (.int n) H) lenW := fun c d H x v Q E' wd rx q => by
  cases rx with
  | nil => exact q.elim
  | cons r rr =>
    cases rr with
    | cons _ _ => cases r <;> exact q.elim
    | nil =>
      cases r with
      | str x =>
        obtain ⟨hz, q⟩ := T.AllB.ite q
        exact ⟨_, _, rfl, ⟨strOk_of hz, rfl⟩, PQ.now wd q (.int _)⟩
      | tup h rl => exact ⟨_, _, rfl, .inr ⟨_, h, rl.length⟩, PQ.now wd q (.int _)⟩
      | lst n h rl => exact ⟨_, _, rfl, .inl ⟨_, SqL.of h, rl.length⟩, PQ.now wd q (.int _)⟩
      | @scr a ns h =>
        refine ⟨_, ns.length, rfl, .inl ⟨ns.map V.int, ?_, (List.length_map ..).symm⟩, PQ.now wd q (.int _)⟩
        rcases h with ⟨_, h⟩ | h
        · exact .inl h
        · exact sqL_of_none h
      | _ => exact q.elim
def blsW : List W → Option (List Bool)
  | [] => some []
  | .bl b :: ws => (blsW ws).map (b :: ·)
  | _ => none
theorem blsW_some : ∀ {ws : List W} {bs : List Bool}, blsW ws = some bs → ws = bs.map W.bl
  | [], _, h => by cases h; rfl
  | .bl b :: ws, bs, h => by
    have h : (blsW ws).map (b :: ·) = some bs := h
    cases e : blsW ws with
    | none =>
      rw [e] at h
      cases h
    | some cs =>
      rw [e] at h
      cases h
      rw [blsW_some e]
      rfl
  | .non :: ws, _, h => by cases h
  | .int _ :: ws, _, h => by cases h
  | .str _ :: ws, _, h => by cases h
  | .tup _ :: ws, _, h => by cases h
  | .lst _ :: ws, _, h => by cases h
  | .dct _ _ :: ws, _, h => by cases h
  | .scr _ :: ws, _, h => by cases h
  | .stt :: ws, _, h => by cases h
  | .clo _ _ :: ws, _, h => by cases h
  | .exo _ _ :: ws, _, h => by cases h
  | .ref _ :: ws, _, h => by cases h
def allW : List W → T W
  | [.lst ws] => match blsW ws with
    | some bs => .ok (.bl (bs.all id))
    | none => .bad
  | _ => .bad
def anyW : List W → T W
  | [.lst ws] => match blsW ws with
    | some bs => .ok (.bl (bs.any id))
    | none => .bad
  | _ => .bad
theorem sem_all : SemL K (rAll K) allW := fun c d H x v Q E' wd rx q => by
  cases rx with
  | nil => exact q.elim
  | cons r rr =>
    cases rr with
    | cons _ _ => cases r <;> exact q.elim
    | nil =>
      cases r <;> try exact q.elim
      rename_i a vs ws n h rl
      unfold allW at q
      simp only at q
      cases e : blsW ws with
      | none =>
        rw [e] at q
        exact q.elim
      | some bs =>
        rw [e] at q
        have e2 := blsW_some e
        subst e2
        have e3 := rl.bls
        subst e3
        exact ⟨a, bs, rfl, SqL.of h, PQ.now wd q (.bl _)⟩
theorem sem_any : SemL K (rAny K) anyW := fun c d H x v Q E' wd rx q => by
  cases rx with
  | nil => exact q.elim
  | cons r rr =>
    cases rr with
    | cons _ _ => cases r <;> exact q.elim
    | nil =>
      cases r <;> try exact q.elim
      rename_i a vs ws n h rl
      unfold anyW at q
      simp only at q
      cases e : blsW ws with
      | none =>
        rw [e] at q
        exact q.elim
      | some bs =>
        rw [e] at q
        have e2 := blsW_some e
        subst e2
        have e3 := rl.bls
        subst e3
        exact ⟨a, bs, rfl, SqL.of h, PQ.now wd q (.bl _)⟩
def tyW : W → Option String
  | .non => some "NoneType"
  | .bl _ => some "bool"
  | .int _ => some "int"
  | .str _ => some "str"
  | .tup _ => some "tuple"
  | .lst _ => some "list"
  | .dct _ _ => some "dict"
  | _ => none
theorem Rep.ty {c : Cc} {H : Hp} {w : W} {v : V} {s : String} (r : Rep K c H w v) (h : tyW w = some s) : TyX K H v (.type s) := by
  cases r with
  | non => cases h; exact .base .non
  | bl b => cases h; exact .base (.bl b)
  | int i => cases h; exact .base (.int i)
  | str x => cases h; exact .base (.str x)
  | tup hq _ =>
    cases h
    rcases hq with (e | ⟨o, e⟩) | ⟨o, its, n, e, cl, _⟩
    · exact .base (.tup e)
    · exact .fTuple e
    · exact .kTuple e cl
  | lst n e _ => cases h; exact .base (.lst e)
  | dct n e _ => cases h; exact .base (.dK e)
  | scr _ => cases h
  | stt => cases h
end
/-- isT: which of the types are a T -/
def isiW (isT : String → Option Bool) (x : W) : T W := match (tyW x).bind isT with
  | some b => .ok (.bl b)
  | none => .bad
def isInt (s : String) : Option Bool := match s with
  | "NoneType" => some false | "bool" => some true | "int" => some true | "str" => some false | "tuple" => some false | "list" => some false | "dict" => some false | _ => none
def isOnly (t : String) (s : String) : Option Bool := if ["NoneType", "bool", "int", "str", "tuple", "list", "dict"].contains s then some (s == t) else none
theorem tr_isi {X : Cx} {E : WX} {a : Expr} {fa : En → T W} {T : Str} {t : String} {p p2 pos : Pos} {isT : String → Option Bool} (hi : ∀ s b, isT s = some b → kitB s t = some b) (hg : Gl X "isinstance") (hm : X.mg "isinstance" = none) (hgT : Gl X T) (hmT : X.mg T = none) (hT : bootBuiltins T = some (.type t)) (ha : TrE X E a fa)
    (hn : T ≠ "__name__" := by decide) (hd : (T == ("__debug__" : Str)) = false := by decide)
    (hs1 : starEach [a, .Name T p2] X.env = (false, eval a X.env) :: starEach [.Name T p2] X.env := by rfl) (hs2 : starEach [.Name T p2] X.env = (false, eval (.Name T p2) X.env) :: starEach [] X.env := by rfl) (hpl : (backTo pos (starEach [.Name T p2] X.env)).any (·.1) = false := by rfl) :
    TrE X E (.Call (.Name "isinstance" p) [a, .Name T p2] [] pos) (f1 (isiW isT) fa) := pe_imp (pe_callB (id := "isinstance") call_isi hg hm (by decide +kernel) (pa_cons ha (pa_cons (pe_bltn (v := .ty t) hgT hmT hT rfl hn hd) pa_nil hs2) hs1) (by decide) (by decide) hs1 hpl) fun σ H Q h => by
  obtain ⟨c, d, oa, ρ, e, h⟩ := h
  refine lift_then (P := fun c H => PQ X.K c H Q) e h (fun st p => p.later st) fun w v H1 d1 _ r1 e1 h1 => ?_
  unfold isiW at h1
  cases e2 : (tyW w).bind isT with
  | none =>
    rw [e2] at h1
    exact h1.elim
  | some b =>
    rw [e2] at h1
    cases e3 : tyW w with
    | none =>
      rw [e3] at e2
      cases e2
    | some s =>
      rw [e3] at e2
      exact ⟨v, .ty t, .type s, .type t, b, rfl, .ty t, r1.ty e3, kit_ty (hi s b e2), PQ.now e1.wd h1 (.bl _)⟩
end PF
namespace PF
open PySem PySem.Spec PyProof.Rows L2
/-- the module's name x is a def that does what the run F does -/
def FnIs (P : Program) (w : World) (K : PySem.W.Frag) (mg : Str → Option Value) (base : Heap) (k : Nat) (x : Str) (ps : List Str) (F : List W → T W) : Prop :=
  ∃ f fd, FnOk P w K mg base (L2.CX P w) k f fd ps (SpF K F) ∧ mg x = some (.ref f) ∧ PySem.W.keepIn K (.ref f) = true ∧ Binds K fd ps []
section
variable {X : Cx} {E : WX} {e : Expr} {es : List Expr} {fs : En → T (List W)} {pos p : Pos} {F : List W → T W} {k : Nat} {ps : List Str} {x : Str}
theorem tr_callF (h : FnIs X.prog X.w X.K X.mg X.base k x ps F) (hr : Room k X.A) (tk : Takes X E) (hg : Gl X x) (ha : TrA X E (e :: es) fs)
    (hdb : (x == ("__debug__" : Str)) = false := by decide) (he : starEach (e :: es) X.env = (false, eval e X.env) :: starEach es X.env := by rfl) (hpl : (backTo pos (starEach es X.env)).any (·.1) = false := by rfl) :
    TrE X E (.Call (.Name x p) (e :: es) [] pos) (fL fs F) := by
  obtain ⟨f, fd, G, hm, hk, hb⟩ := h
  exact tr_call G hr tk hg hm hk hb ha hdb he hpl
end
/-- the module's name x stands for the data w -/
def CsIs (K : PySem.W.Frag) (mg : Str → Option Value) (x : Str) (w : W) : Prop := ∃ (v : V) (u : Value), mg x = some u ∧ RelV v u ∧ ∀ c H, Rep K c H w v
theorem tr_cs {X : Cx} {E : WX} {x : Str} {w : W} {pos : Pos} (h : CsIs X.K X.mg x w) (hg : Gl X x) (hd : (x == ("__debug__" : Str)) = false := by decide) : TrE X E (.Name x pos) (fun _ => .ok w) := by
  obtain ⟨v, u, hm, r, q⟩ := h
  exact tr_glob hg hm r q hd
theorem isi_int : ∀ s b, isInt s = some b → kitB s "int" = some b := fun s b h => by
  unfold isInt at h
  split at h <;> first | (cases h; decide +kernel) | cases h
theorem isOnly_mem {t s : String} {b : Bool} (h : isOnly t s = some b) : s ∈ ["NoneType", "bool", "int", "str", "tuple", "list", "dict"] ∧ b = (s == t) := by
  unfold isOnly at h
  split at h
  · rename_i hc
    exact ⟨List.contains_iff_mem.mp hc, (Option.some.inj h).symm⟩
  · cases h
theorem isOnly_all {t : String} (h : ∀ s ∈ ["NoneType", "bool", "int", "str", "tuple", "list", "dict"], kitB s t = some (s == t)) : ∀ s b, isOnly t s = some b → kitB s t = some b := fun s b q => by
  obtain ⟨h1, h2⟩ := isOnly_mem q
  rw [h2]
  exact h s h1
theorem isi_bool : ∀ s b, isOnly "bool" s = some b → kitB s "bool" = some b := isOnly_all (by decide +kernel)
theorem isi_str : ∀ s b, isOnly "str" s = some b → kitB s "str" = some b := isOnly_all (by decide +kernel)
theorem isi_tuple : ∀ s b, isOnly "tuple" s = some b → kitB s "tuple" = some b := isOnly_all (by decide +kernel)
theorem isi_list : ∀ s b, isOnly "list" s = some b → kitB s "list" = some b := isOnly_all (by decide +kernel)
theorem isi_dict : ∀ s b, isOnly "dict" s = some b → kitB s "dict" = some b := isOnly_all (by decide +kernel)
theorem boot_ty_int : bootBuiltins "int" = some (.type "int") := by decide +kernel
theorem boot_ty_bool : bootBuiltins "bool" = some (.type "bool") := by decide +kernel
theorem boot_ty_str : bootBuiltins "str" = some (.type "str") := by decide +kernel
theorem boot_ty_tuple : bootBuiltins "tuple" = some (.type "tuple") := by decide +kernel
theorem boot_ty_list : bootBuiltins "list" = some (.type "list") := by decide +kernel
theorem boot_ty_dict : bootBuiltins "dict" = some (.type "dict") := by decide +kernel
theorem bo_int : bootBuiltins "int" = some (.type "int") := boot_ty_int
theorem bo_len : bootBuiltins "len" = some (.builtin "len") := by decide +kernel
theorem bo_abs : bootBuiltins "abs" = some (.builtin "abs") := by decide +kernel
theorem bo_all : bootBuiltins "all" = some (.builtin "all") := by decide +kernel
theorem bo_any : bootBuiltins "any" = some (.builtin "any") := by decide +kernel
theorem bo_min : bootBuiltins "min" = some (.builtin "min") := by decide +kernel
theorem bo_max : bootBuiltins "max" = some (.builtin "max") := by decide +kernel
theorem bo_sum : bootBuiltins "sum" = some (.builtin "sum") := by decide +kernel
theorem bo_tuple : bootBuiltins "tuple" = some (.type "tuple") := boot_ty_tuple
theorem bo_list : bootBuiltins "list" = some (.type "list") := boot_ty_list
abbrev stK (ca la : Addr) (k r : Int) : List (Key × V) := [(.inr kCells, .ref ca), (.inr kLefts, .ref la), (.inr kAt, .int k), (.inr kRoom, .int r)]
section
variable {ca la : Addr} {k r : Int}
theorem ne_ca : ¬ kCells = kAt := by decide +kernel
theorem ne_la : ¬ kLefts = kAt := by decide +kernel
theorem ne_cl : ¬ kCells = kLefts := by decide +kernel
theorem ne_ra : ¬ kRoom = kAt := by decide +kernel
theorem st_at : valV (stK ca la k r) (.inr kAt) = some (.int k) := by
  simp [valV, List.find?_cons, ne_ca, ne_la]
theorem st_cells : valV (stK ca la k r) (.inr kCells) = some (.ref ca) := by
  simp [valV, List.find?_cons]
theorem st_lefts : valV (stK ca la k r) (.inr kLefts) = some (.ref la) := by
  simp [valV, List.find?_cons, ne_cl]
theorem st_put {k' : Int} : putK (stK ca la k r) (.inr kAt) (.int k') = stK ca la k' r := by
  simp [putK, ne_ca, ne_la, ne_ra]
theorem DGet.st {H : Hp} {S : Addr} {x : Key} {v : V} (h : H S = some (.dK (stK ca la k r))) (e : valV (stK ca la k r) x = some v) : DGet H S (kV x) (some v) := by
  rw [← e]
  exact DGet.k h
end
@[irreducible] def manyOk (n : Int) : Bool := decide (0 < n) && decide (n.natAbs.log2 < 9000)
theorem manyOk_of {n : Int} (h : manyOk n = true) : 0 < n ∧ n.natAbs.log2 < 9000 := by
  unfold manyOk at h
  obtain ⟨h1, h2⟩ := Bool.and_eq_true_iff.mp h
  exact ⟨of_decide_eq_true h1, of_decide_eq_true h2⟩
def F__law_draw : List W → T W
  | [.stt, .int n] => if manyOk n then .ask n.toNat fun i => .ok (.int i) else .bad
  | _ => .bad
theorem stt_shape {K : PySem.W.Frag} {c : Cc} {H : Hp} {v : V} (r : Rep K c H .stt v) : v = .ref c.S := by
  cases r
  rfl
/-- what the state's step leaves: the place is one more, the lefts may have changed -/
theorem StOk.drawn {c : Cc} {e : Nat} {H' : Hp} {cells lefts' : List Int} {k r : Int} (hk : 0 ≤ k) (hb : k + ((e + 1 : Nat) : Int) ≤ 2 ^ 60) (hne : c.ca ≠ c.la) (hz : lefts'.length = cells.length) (h0 : 0 < cells.length)
    (h1 : H' c.S = some (.dK [(.inr kCells, .ref c.ca), (.inr kLefts, .ref c.la), (.inr kAt, .int (k + 1)), (.inr kRoom, .int r)])) (h2 : H' c.ca = some (.lst (cells.map V.int))) (h3 : H' c.la = some (.lst (lefts'.map V.int))) : StOk c e H' :=
  ⟨cells, lefts', k + 1, r, h1, h2, h3, hz, h0, by omega, by omega, hne⟩
/-- ints that stand for a draw -/
theorem draw_all {K : PySem.W.Frag} {c : Cc} {d : Nat} {H : Hp} {Q : VK} {E' : Nat → Nat → List W → Prop} {n : Int} (h : (F__law_draw [.stt, .int n]).AllB (PQ K c H Q) E' d) :
    (0 < n ∧ n.natAbs.log2 < 9000) ∧ ∃ e, d = e + 1 ∧ ∀ (i : Int) (H' : Hp), 0 ≤ i → i < n → Step c H H' → StOk c e H' → Q (.int i) H' := by
  obtain ⟨h1, h⟩ := T.AllB.ite h
  have hn := manyOk_of h1
  obtain ⟨e, he, h⟩ := h
  refine ⟨hn, e, he, fun i H' hi0 hi st so => ?_⟩
  have q := h i.toNat (by omega)
  have ei : ((i.toNat : Nat) : Int) = i := by omega
  have q : PQ K c H Q e (.int ((i.toNat : Nat) : Int)) := q
  rw [ei] at q
  exact q _ H' st so (.int i)
theorem F_draw_bad {ws : List W} (h : ∀ n, ws ≠ [.stt, .int n]) : F__law_draw ws = .bad := by
  unfold F__law_draw
  split
  · exact absurd rfl (h _)
  · rfl
end PF
namespace PF
open PySem PySem.Spec PyProof.Rows L2
section
variable {α β : Type}
@[simp] theorem T.bind_ok (a : α) (f : α → T β) : (T.ok a).bind f = f a := rfl
@[simp] theorem T.bind_bad (f : α → T β) : (T.bad : T α).bind f = .bad := rfl
@[simp] theorem T.bind_exc (c : Nat) (fs : List W) (f : α → T β) : (T.exc c fs : T α).bind f = .exc c fs := rfl
@[simp] theorem T.bind_ask (n : Nat) (k : Nat → T α) (f : α → T β) : (T.ask n k).bind f = .ask n fun i => (k i).bind f := rfl
theorem T.bind_assoc {γ : Type} : ∀ (t : T α) (f : α → T β) (g : β → T γ), (t.bind f).bind g = t.bind fun a => (f a).bind g
  | .ok a, f, g => rfl
  | .exc c fs, f, g => rfl
  | .bad, f, g => rfl
  | .ask n k, f, g => by
    simp only [T.bind_ask]
    congr 1
    funext i
    exact T.bind_assoc (k i) f g
end
@[simp] theorem gV_eq (i : Nat) (ρ : En) : gV i ρ = match ρ[i]? with
  | some (.val w) => .ok w
  | _ => .bad := rfl
section
variable (g g' : W → W → T W) (h : W → T W) (fa fb fc : En → T W) (fs : En → T (List W)) (gl : List W → T W) (ta tb : En → T Bool) (sa sb : En → T (Fl × En)) (ρ : En)
@[simp] theorem f2_eq : f2 g fa fb ρ = (fa ρ).bind fun x => (fb ρ).bind fun y => g x y := rfl
@[simp] theorem f1_eq : f1 h fa ρ = (fa ρ).bind h := rfl
@[simp] theorem fL_eq : fL fs gl ρ = (fs ρ).bind gl := rfl
@[simp] theorem fNil_eq : fNil ρ = .ok [] := rfl
@[simp] theorem fCons_eq : fCons fa fs ρ = (fa ρ).bind fun x => (fs ρ).bind fun xs => .ok (x :: xs) := rfl
@[simp] theorem fTru_eq : fTru fa ρ = (fa ρ).bind truW := rfl
@[simp] theorem fBl_eq : fBl fa ρ = (fa ρ).bind blW := rfl
@[simp] theorem fNot_eq : fNot ta ρ = (ta ρ).bind fun b => .ok !b := rfl
@[simp] theorem fAnd_eq : fAnd ta tb ρ = (ta ρ).bind fun b => if b then tb ρ else .ok false := rfl
@[simp] theorem fOr_eq : fOr ta tb ρ = (ta ρ).bind fun b => if b then .ok true else tb ρ := rfl
@[simp] theorem fAndV_eq : fAndV fa fb ρ = (fa ρ).bind fun x => match x with
  | .bl true => fb ρ
  | .bl false => .ok (.bl false)
  | _ => .bad := rfl
@[simp] theorem fOrV_eq : fOrV fa fb ρ = (fa ρ).bind fun x => match x with
  | .bl false => fb ρ
  | .bl true => .ok (.bl true)
  | _ => .bad := rfl
@[simp] theorem fNotV_eq : fNotV fa ρ = (fa ρ).bind fun x => match x with
  | .bl b => .ok (.bl !b)
  | _ => .bad := rfl
@[simp] theorem fIf_eq : fIf ta fa fb ρ = (ta ρ).bind fun b => if b then fa ρ else fb ρ := rfl
@[simp] theorem fYes_eq : fYes ρ = .ok true := rfl
@[simp] theorem sNil_eq : sNil ρ = .ok (.nx, ρ) := rfl
@[simp] theorem sSeq_eq : sSeq sa sb ρ = (sa ρ).bind fun x => match x with
  | (.nx, ρ') => sb ρ'
  | x => .ok x := rfl
@[simp] theorem sRet_eq : sRet fa ρ = (fa ρ).bind fun w => .ok (.rt w, ρ) := rfl
@[simp] theorem sRetN_eq : sRetN ρ = .ok (.rt .non, ρ) := rfl
@[simp] theorem sExpr_eq : sExpr fa ρ = (fa ρ).bind fun _ => .ok (.nx, ρ) := rfl
@[simp] theorem sSet_eq (i : Nat) : sSet i fa ρ = (fa ρ).bind fun w => .ok (.nx, ρ.set i (.val w)) := rfl
@[simp] theorem sIf_eq : sIf ta sa sb ρ = (ta ρ).bind fun b => if b then sa ρ else sb ρ := rfl
@[simp] theorem sNever_eq : sNever ρ = .bad := rfl
@[simp] theorem sPar_eq (i j : Nat) : sPar i j fs ρ = (fs ρ).bind fun xs => match xs with
  | [x, y] => .ok (.nx, (ρ.set i (.val x)).set j (.val y))
  | _ => .bad := rfl
@[simp] theorem sAsg_eq (G : W → En → Option En) : sAsg fa G ρ = (fa ρ).bind fun w => match G w ρ with
  | some ρ' => .ok (.nx, ρ')
  | none => .bad := rfl
@[simp] theorem goName_eq (i : Nat) (w : W) : goName i w ρ = some (ρ.set i (.val w)) := rfl
@[simp] theorem iL_eq (q : List W → T (List W)) : iL q fs ρ = (fs ρ).bind q := rfl
@[simp] theorem iOf_eq (q : W → T (List W)) : iOf q fa ρ = (fa ρ).bind q := rfl
end
@[simp] theorem addW_int (i j : Int) : addW (.int i) (.int j) = .ok (.int (i + j)) := rfl
@[simp] theorem subW_int (i j : Int) : subW (.int i) (.int j) = .ok (.int (i - j)) := rfl
@[simp] theorem mulW_int (i j : Int) : mulW (.int i) (.int j) = if mulOk i j then .ok (.int (i * j)) else .bad := rfl
@[simp] theorem fdivW_int (i j : Int) : fdivW (.int i) (.int j) = if divOk j then .ok (.int (i / j)) else .bad := rfl
@[simp] theorem modW_int (i j : Int) : modW (.int i) (.int j) = if decide (0 < j) then .ok (.int (i % j)) else .bad := rfl
@[simp] theorem ltW_int (i j : Int) : ltW (.int i) (.int j) = .ok (.bl (decide (i < j))) := rfl
@[simp] theorem leW_int (i j : Int) : leW (.int i) (.int j) = .ok (.bl (decide (i ≤ j))) := rfl
@[simp] theorem gtW_int (i j : Int) : gtW (.int i) (.int j) = .ok (.bl (decide (j < i))) := rfl
@[simp] theorem geW_int (i j : Int) : geW (.int i) (.int j) = .ok (.bl (decide (j ≤ i))) := rfl
@[simp] theorem intW_int (i : Int) : intW [.int i] = .ok (.int i) := rfl
@[simp] theorem intW_bl (b : Bool) : intW [.bl b] = .ok (.int (if b then 1 else 0)) := rfl
@[simp] theorem absW_int (i : Int) : absW [.int i] = .ok (.int (if i < 0 then -i else i)) := rfl
@[simp] theorem blW_bl (b : Bool) : blW (.bl b) = .ok b := rfl
@[simp] theorem truW_bl (b : Bool) : truW (.bl b) = .ok b := rfl
@[simp] theorem lenW_tup (ws : List W) : lenW [.tup ws] = .ok (.int ws.length) := rfl
@[simp] theorem lenW_lst (ws : List W) : lenW [.lst ws] = .ok (.int ws.length) := rfl
@[simp] theorem lenW_scr (n : Nat) : lenW [.scr n] = .ok (.int n) := rfl
theorem mulOk_of {i j : Int} {a b : Nat} (ha : i.natAbs < 2 ^ a) (hb : j.natAbs < 2 ^ b) (h0 : 0 < a) (h1 : 0 < b) (h : a + b ≤ 1000000) : mulOk i j = true := by
  unfold mulOk
  exact decide_eq_true (wide_mul ha hb h0 h1 h)
theorem divOk_of {j : Int} {b : Nat} (h : 0 < j) (hb : j.natAbs < 2 ^ b) (h0 : 0 < b) (h9 : b ≤ 9000) : divOk j = true := by
  unfold divOk
  obtain ⟨h1, h2⟩ := wide_div (i := 0) h hb h0 h9
  rw [decide_eq_true h1, decide_eq_true h2]
  rfl
theorem manyOk_is {n : Int} {b : Nat} (h : 0 < n) (hb : n.natAbs < 2 ^ b) (h0 : 0 < b) (h9 : b ≤ 9000) : manyOk n = true := by
  unfold manyOk
  obtain ⟨h1, h2⟩ := wide_div (i := 0) h hb h0 h9
  rw [decide_eq_true h1, decide_eq_true h2]
  rfl
theorem sizeOk_is {ws : List W} (h : ws.length ≤ 16777216) : sizeOk ws = true := by
  unfold sizeOk
  exact decide_eq_true h
theorem sz2_is {a b : Nat} (h : a + b ≤ 16777216) : sz2 a b = true := by
  unfold sz2
  exact decide_eq_true h
@[simp] theorem mkTup_eq (ws : List W) : mkTup ws = if sizeOk ws then .ok (.tup ws) else .bad := rfl
@[simp] theorem mkLst_eq (ws : List W) : mkLst ws = if sizeOk ws then .ok (.lst ws) else .bad := rfl
@[simp] theorem sizeOk_nil : sizeOk [] = true := sizeOk_is (by simp)
@[simp] theorem sizeOk_1 (a : W) : sizeOk [a] = true := sizeOk_is (by simp)
@[simp] theorem sizeOk_2 (a b : W) : sizeOk [a, b] = true := sizeOk_is (by simp)
@[simp] theorem sizeOk_3 (a b c : W) : sizeOk [a, b, c] = true := sizeOk_is (by simp)
@[simp] theorem sizeOk_4 (a b c d : W) : sizeOk [a, b, c, d] = true := sizeOk_is (by simp)
@[simp] theorem sizeOk_5 (a b c d e : W) : sizeOk [a, b, c, d, e] = true := sizeOk_is (by simp)
end PF
namespace PF
def wInt (i : Nat) (ρ : En) : Nat := match ρ[i]? with
  | some (.val (.int k)) => k.natAbs
  | _ => 0
end PF
namespace PF
open PySem PySem.Spec PyProof.Rows L2 He
abbrev AlF : Type := AlD × Bool
def obsF (n : Nat) (fa : List Fa) (fn : List DefD) (ex : PySem.W.Frag → Bool) (g : Addr → Option Obj) : AlF := (obsD fa fn (frG g (asD g n)), ex (frG g (asD g n)))
structure SaysF (fa : List Fa) (fn : List DefD) (ex : PySem.W.Frag → Bool) (K : PySem.W.Frag) : Prop where
  d : SaysD fa fn K
  more : ex K = true
def hookF (n : Nat) (fa : List Fa) (fn : List DefD) (ex : PySem.W.Frag → Bool) : PySem.W.Hook where
  α := AlF
  obs := fun s => obsF n fa fn ex s.heap.get?
  val := fun _ => (valD fn, true)
  says := fun _ h => ∃ K : PySem.W.Frag, K.In h ∧ SaysF fa fn ex K
  of := fun _ _ e => ⟨_, frG_in, congrArg (fun z : AlF => z.1) e, congrArg (fun z : AlF => z.2) e⟩
  keeps := fun _ _ _ ⟨K, hK, c⟩ k => ⟨K, PySem.W.Frag.In.keeps hK k, c⟩
theorem obsF_eq {n : Nat} {fa : List Fa} {fn : List DefD} {ex : PySem.W.Frag → Bool} {g : Addr → Option Obj} {s : Shared} (h : ∀ a, g a = s.heap.get? a) : obsF n fa fn ex g = (hookF n fa fn ex).obs s := by
  have e : g = s.heap.get? := funext h
  rw [e]
  rfl
/-- a fact by its place -/
theorem SaysF.fact {fa : List Fa} {fn : List DefD} {ex : PySem.W.Frag → Bool} {K : PySem.W.Frag} (c : SaysF fa fn ex K) (i : Nat) {f : Fa} (h : fa[i]? = some f := by rfl) : f.ok K = true := c.d.fact i h
/-- a module's name that stands for a tuple of ints and texts -/
def flatW : Dv → Option W
  | .non => some .non
  | .bl b => some (.bl b)
  | .int i => some (.int i)
  | .str x => some (.str x)
  | _ => none
theorem flatW_rep {K : PySem.W.Frag} {d : Dv} {w : W} (h : flatW d = some w) (c : Cc) (H : Hp) : Rep K c H w (d.v K) := by
  cases d <;> first | (cases h; done) | (cases h; constructor)
theorem flatL_rep {K : PySem.W.Frag} (c : Cc) (H : Hp) : ∀ {ds : List Dv} {ws : List W}, ds.mapM flatW = some ws → RepL K c H ws (ds.map (Dv.v K))
  | [], ws, h => by
    simp at h
    subst h
    exact .nil
  | d :: ds, ws, h => by
    rw [List.mapM_cons] at h
    cases e1 : flatW d with
    | none =>
      rw [e1] at h
      cases h
    | some w =>
      rw [e1] at h
      cases e2 : ds.mapM flatW with
      | none =>
        rw [e2] at h
        cases h
      | some us =>
        rw [e2] at h
        cases h
        exact .cons (flatW_rep e1 c H) (flatL_rep c H e2)
theorem cs_tup {K : PySem.W.Frag} {h : Heap} {mg : Str → Option Value} {x : Str} {ds : List Dv} {ws : List W} (X : K.In h) (G : h.Ns mainGlobals mg) (hg : (Fa.glo x).ok K = true) (ht : tupB K x ds = true) (hw : ds.mapM flatW = some ws) : CsIs K mg x (.tup ws) :=
  ⟨.ref (ga K x), _, glo_ok X G hg, rfl, fun c H => .tup (tupB_ok ht H) (flatL_rep c H hw)⟩
theorem cs_int {K : PySem.W.Frag} {h : Heap} {mg : Str → Option Value} {x : Str} {i : Int} (X : K.In h) (G : h.Ns mainGlobals mg) (hg : (Fa.int x i).ok K = true) : CsIs K mg x (.int i) := by
  obtain ⟨t, e⟩ := int_ok X G hg
  exact ⟨.int i, _, e, ⟨t, rfl⟩, fun c H => .int i⟩
theorem cs_str {K : PySem.W.Frag} {h : Heap} {mg : Str → Option Value} {x z : Str} (X : K.In h) (G : h.Ns mainGlobals mg) (hg : (Fa.str x z).ok K = true) : CsIs K mg x (.str z) := by
  obtain ⟨t, e⟩ := str_ok X G hg
  exact ⟨.str z, _, e, ⟨t, rfl⟩, fun c H => .str z⟩
end PF
namespace PF
open PySem PySem.Spec PyProof.Rows L2
def spBegin (K : PySem.W.Frag) : Sp := fun vs H Q _ => ∃ (a : Addr) (ns : List Int), vs = [.ref a] ∧ SqL K H a (ns.map V.int) ∧ ns.length ≤ 63 ∧ ∀ (S ca la : Addr) (H' : Hp) (cells lefts : List Int), Same H H' → H S = none → H ca = none → H la = none →
  H' S = some (.dK (stK ca la 0 0)) → H' ca = some (.lst (cells.map V.int)) → H' la = some (.lst (lefts.map V.int)) → lefts.length = cells.length → 0 < cells.length → ca ≠ la → Q (.ref S) H'
def spLaw (K : PySem.W.Frag) : Sp := fun vs H Q _ => ∃ (a : Addr) (ns : List Int), vs = [.ref a] ∧ SqL K H a (ns.map V.int) ∧ ns.length ≤ 63 ∧ ∀ H', Q (.bl true) H'
section
variable {K : PySem.W.Frag}
theorem dp_ints {H : Hp} : ∀ ns : List Int, DpAll K H (ns.map V.int) (ns.map PyData.int)
  | [] => .nil
  | n :: ns => .cons (.int n) (dp_ints ns)
theorem lay_ints : ∀ ns : List Int, PyData.canLayAll0 (ns.map PyData.int) = true
  | [] => rfl
  | n :: ns => lay_ints ns
theorem dep_ints : ∀ ns : List Int, PyData.depthAll (ns.map PyData.int) ≤ 1
  | [] => by decide
  | n :: ns => by
    have h := dep_ints ns
    simp only [List.map_cons, PyData.depthAll, PyData.depth]
    omega
theorem shaped_ints (ns : List Int) : SeqAt.shaped (.list (ns.map PyData.int)) = true := by
  have h := dep_ints ns
  unfold SeqAt.shaped
  rw [Bool.and_eq_true]
  exact ⟨lay_ints ns, decide_eq_true (by simp only [PyData.depth]; omega)⟩
/-- the state is laid -/
theorem begin_ret {H H1 : Hp} {Q : VK} {nx : L2.St → Hp → Prop} {v0 : V} {l : Addr} {cells : List Int} (sm : Same H H1) (nl : H l = none) (hl : H1 l = some (.lst (cells.map V.int))) (h0 : 0 < cells.length) (hz : cells.length ≤ 1000)
    (q : ∀ (S ca la : Addr) (H' : Hp) (cells lefts : List Int), Same H H' → H S = none → H ca = none → H la = none → H' S = some (.dK (stK ca la 0 0)) → H' ca = some (.lst (cells.map V.int)) → H' la = some (.lst (lefts.map V.int)) → lefts.length = cells.length → 0 < cells.length → ca ≠ la → Q (.ref S) H') :
    tRet (tDisp [(tC (.str kCells), tVar 1), (tC (.str kLefts), tLc (iList K (tVar 1)) (gName 2) tYes (tIf (tTest (tOp (rI0 fun i j => .bl (decide (j ≤ i))) (tVar 2) (tOp (rI CPow fun i j => .int (i ^ j.toNat)) (tC (.int 10)) (tC (.int 18))))) (tVar 2) (tC (.int 0))) [2]), (tC (.str kAt), tC (.int 0)), (tC (.str kRoom), tC (.int 0))])
      { nx := nx, rt := Q } [some v0, some (.ref l), none] H1 := by
  intro p np
  have nlp : l ≠ p := ne_of_none hl np
  have hl1 : (upd H1 p (.dK [])) l = some (.lst (cells.map V.int)) := by rw [upd_ne nlp]; exact hl
  refine ⟨.ref l, rfl, .ref l, rfl, l, rfl, ⟨_, SqL.of hl1⟩, fun D nD => ?_⟩
  have npD : D ≠ p := fun z => by rw [z, upd_same] at nD; cases nD
  have nlD : l ≠ D := fun z => by rw [← z, hl1] at nD; cases nD
  have nD1 : H1 D = none := by rw [upd_ne npD] at nD; exact nD
  let lf : Int → Int := fun c => if (10 : Int) ^ (18 : Int).toNat ≤ c then c else 0
  refine lc_list (K := K) (a := l) (xs := cells.map V.int) (fun i H2 => (∀ b, b ≠ D → H2 b = (upd H1 p (.dK [])) b) ∧ H2 D = some (.lst (((cells.take i).map lf).map V.int))) ⟨fun b hb => upd_ne hb, upd_same⟩ (fun i H2 hi h => ?_) (fun i x H2 hx h => ?_) (fun H2 h => ?_)
  · exact SqL.of (by rw [h.1 l nlD]; exact hl1)
  · obtain ⟨o, hD⟩ := h
    rw [List.getElem?_map] at hx
    cases ec : cells[i]? with
    | none =>
      rw [ec] at hx
      cases hx
    | some c =>
      rw [ec] at hx
      cases hx
      have hi : i < cells.length := (List.getElem?_eq_some_iff.mp ec).1
      have et : cells.take (i + 1) = cells.take i ++ [c] := by rw [List.take_add_one, ec]; rfl
      refine ⟨rfl, iteT (B := True) ⟨.int c, rfl, 10, 18, rfl, rfl, ⟨by decide, by decide, by decide⟩, c, _, rfl, rfl, _, rfl, ?_⟩⟩
      have fin : ∀ y : Int, y = lf c → ∃ acc, H2 D = some (.lst acc) ∧ acc.length < sizeLine ∧ ((∀ b, b ≠ D → (upd H2 D (.lst (acc ++ [V.int y]))) b = (upd H1 p (.dK [])) b) ∧ (upd H2 D (.lst (acc ++ [V.int y]))) D = some (.lst (((cells.take (i + 1)).map lf).map V.int))) := fun y ey => by
        refine ⟨_, hD, ?_, fun b hb => by rw [upd_ne hb]; exact o b hb, ?_⟩
        · rw [List.length_map, List.length_map, List.length_take]
          exact Nat.lt_of_le_of_lt (Nat.min_le_right _ _) (small1000 hz)
        · rw [upd_same, et, List.map_append, List.map_append, ey]
          rfl
      by_cases hc : (10 : Int) ^ (18 : Int).toNat ≤ c
      · have e : decide ((10 : Int) ^ (18 : Int).toNat ≤ c) = true := decide_eq_true hc
        show if decide ((10 : Int) ^ (18 : Int).toNat ≤ c) = true then _ else _
        rw [e]
        refine iteT ⟨.int c, rfl, fin c ?_⟩
        show c = if (10 : Int) ^ (18 : Int).toNat ≤ c then c else 0
        rw [if_pos hc]
      · have e : decide ((10 : Int) ^ (18 : Int).toNat ≤ c) = false := decide_eq_false hc
        show if decide ((10 : Int) ^ (18 : Int).toNat ≤ c) = true then _ else _
        rw [e]
        refine iteF (fin 0 ?_)
        show (0 : Int) = if (10 : Int) ^ (18 : Int).toNat ≤ c then c else 0
        rw [if_neg hc]
  · obtain ⟨o, hD⟩ := h
    have hp : H2 p = some (.dK []) := by rw [o p (Ne.symm npD), upd_same]
    refine ⟨hp, [(.inr kCells, .ref l), (.inr kLefts, .ref D), (.inr kAt, .int 0), (.inr kRoom, .int 0)], rfl, by show 4 ≤ 15; decide, ?_⟩
    have em : mergeK [] [(Sum.inr kCells, V.ref l), (.inr kLefts, .ref D), (.inr kAt, .int 0), (.inr kRoom, .int 0)] = stK l D 0 0 := by
      simp [mergeK, putK, ne_ca, ne_la, ne_cl, show ¬ kCells = kRoom by decide +kernel, show ¬ kLefts = kRoom by decide +kernel, show ¬ kAt = kRoom by decide +kernel]
    rw [em]
    refine q p l D _ cells (cells.map lf) (fun b u hb => ?_) ?_ nl ?_ upd_same ?_ ?_ (List.length_map ..) h0 nlD
    · have h1 := sm b u hb
      have nb : b ≠ p := ne_of_none h1 np
      have nbD : b ≠ D := ne_of_none h1 nD1
      rw [upd_ne nb, o b nbD, upd_ne nb]
      exact h1
    · exact sm.free np
    · exact sm.free nD1
    · rw [upd_ne nlp, o l nlD]
      exact hl1
    · rw [upd_ne npD, hD, List.length_map, List.take_length]
theorem begin_read {H : Hp} {Q : VK} {nx : L2.St → Hp → Prop} {a : Addr} {ns : List Int} (hS : SqL K H a (ns.map V.int)) (hz : ns.length ≤ 63)
    (q : ∀ (S ca la : Addr) (H' : Hp) (cells lefts : List Int), Same H H' → H S = none → H ca = none → H la = none → H' S = some (.dK (stK ca la 0 0)) → H' ca = some (.lst (cells.map V.int)) → H' la = some (.lst (lefts.map V.int)) → lefts.length = cells.length → 0 < cells.length → ca ≠ la → Q (.ref S) H') :
    tSeq (tAsg (tIf (tTest (tOp (rNeD K) (tVar 0) (tLst tNil))) (tCB (fun xs H Q => ∃ p ys, xs = [.ref p] ∧ (SqL K H p ys ∨ SqT K H p ys) ∧ ∀ l, H l = none → Q (.ref l) (upd H l (.lst ys))) (tCons (tVar 0) tNil)) (tLst (tCons (tC (.int 0)) tNil))) (gName 1))
      (tRet (tDisp [(tC (.str kCells), tVar 1), (tC (.str kLefts), tLc (iList K (tVar 1)) (gName 2) tYes (tIf (tTest (tOp (rI0 fun i j => .bl (decide (j ≤ i))) (tVar 2) (tOp (rI CPow fun i j => .int (i ^ j.toNat)) (tC (.int 10)) (tC (.int 18))))) (tVar 2) (tC (.int 0))) [2]), (tC (.str kAt), tC (.int 0)), (tC (.str kRoom), tC (.int 0))]))
      { nx := nx, rt := Q } [some (.ref a), none, none] H := by
  refine ⟨.ref a, rfl, by decide, fun p np => ?_⟩
  have sm : Same H (upd H p (.lst [])) := fun b u e => by rw [upd_ne (ne_of_none e np)]; exact e
  have hS1 : SqL K (upd H p (.lst [])) a (ns.map V.int) := sm.seq hS
  refine ⟨.list (ns.map .int), .list [], .lst hS1 (dp_ints ns), .lst (SqL.of upd_same) .nil, shaped_ints ns, rfl, _, rfl, ?_⟩
  cases ns with
  | nil =>
    refine iteF ⟨by decide, fun l nl => ?_⟩
    exact begin_ret (cells := [0]) (fun b u e => by rw [upd_ne (ne_of_none (sm b u e) nl)]; exact sm b u e) (sm.free nl) upd_same (by decide) (by decide) q
  | cons n ns =>
    refine iteT ⟨.ref a, rfl, a, _, rfl, .inl hS1, fun l nl => ?_⟩
    exact begin_ret (cells := n :: ns) (fun b u e => by rw [upd_ne (ne_of_none (sm b u e) nl)]; exact sm b u e) (sm.free nl) upd_same (by simp) (Nat.le_trans hz (by decide)) q
end
/-- the law's frame when the state stands -/
def lawE (n m : Nat) : En := .val (.scr n) :: .val .stt :: List.replicate m .un
theorem law_env {K : PySem.W.Frag} {H H' : Hp} {a S ca la : Addr} {ns cells lefts : List Int} {m : Nat} (hS : SqL K H a (ns.map V.int)) (sm : Same H H') (nS : H S = none) (nca : H ca = none) (nla : H la = none)
    (h1 : H' S = some (.dK (stK ca la 0 0))) (h2 : H' ca = some (.lst (cells.map V.int))) (h3 : H' la = some (.lst (lefts.map V.int))) (hl : lefts.length = cells.length) (h0 : 0 < cells.length) (hne : ca ≠ la) :
    EnvOk K ⟨S, ca, la, [S, ca, la], []⟩ (2 ^ 60) (fun _ => 0) (lawE ns.length m) (some (.ref a) :: some (.ref S) :: List.replicate m none) H' where
  ok := ⟨by simp, by simp, by simp⟩
  st := ⟨cells, lefts, 0, 0, h1, h2, h3, hl, h0, by decide, by decide, hne⟩
  av := fun b hb => by
    simp only [List.mem_cons, List.not_mem_nil, or_false] at hb
    rcases hb with rfl | rfl | rfl
    · exact ⟨_, h1⟩
    · exact ⟨_, h2⟩
    · exact ⟨_, h3⟩
  len := by simp [lawE]
  val := fun i w h => by
    unfold lawE at h
    match i, h with
    | 0, h =>
      simp at h
      subst h
      refine ⟨.ref a, rfl, .scr ?_⟩
      rcases sqL_split hS with r | r
      · have na : ∀ b, H b = none → a ≠ b := fun b hb => by
          rcases r with r | ⟨o, r⟩
          · exact ne_of_none r hb
          · exact ne_of_none r hb
        refine .inl ⟨?_, ?_⟩
        · simp only [List.mem_cons, List.not_mem_nil, or_false, not_or]
          exact ⟨na S nS, na ca nca, na la nla⟩
        · rcases r with r | ⟨o, r⟩
          · exact .inl (sm _ _ r)
          · exact .inr ⟨o, sm _ _ r⟩
      · exact .inr r
    | 1, h =>
      simp at h
      subst h
      exact ⟨.ref S, rfl, .stt⟩
    | i + 2, h =>
      simp only [List.getElem?_cons_succ, List.getElem?_replicate] at h
      split at h <;> cases h
  m := ⟨fun b hb => (by cases hb), fun b hb => (by cases hb), fun b hb => (by cases hb)⟩
  own := fun i ws h => by
    unfold lawE at h
    match i, h with
    | 0, h => simp at h
    | 1, h => simp at h
    | i + 2, h =>
      simp only [List.getElem?_cons_succ, List.getElem?_replicate] at h
      split at h <;> cases h
  inj := fun i j ws us h _ => by
    unfold lawE at h
    match i, h with
    | 0, h => simp at h
    | 1, h => simp at h
    | i + 2, h =>
      simp only [List.getElem?_cons_succ, List.getElem?_replicate] at h
      split at h <;> cases h
/-- a law's run ends and gives True -/
def LawEnds (g : En → T (Fl × En)) (m : Nat) : Prop := ∀ n, n ≤ 63 → (g (lawE n m)).AllB (fun _ x => ∃ ρ, x = (.rt (.bl true), ρ)) (fun _ _ _ => False) (2 ^ 60)
theorem law_rest {K : PySem.W.Frag} {E : XK} {H H' : Hp} {a S ca la : Addr} {ns cells lefts : List Int} {m : Nat} {g : En → T (Fl × En)} {Q : VK} {nx : L2.St → Hp → Prop} (en : LawEnds g m) (hn : ns.length ≤ 63) (q : ∀ H', Q (.bl true) H') (hS : SqL K H a (ns.map V.int)) (sm : Same H H') (nS : H S = none) (nca : H ca = none) (nla : H la = none)
    (h1 : H' S = some (.dK (stK ca la 0 0))) (h2 : H' ca = some (.lst (cells.map V.int))) (h3 : H' la = some (.lst (lefts.map V.int))) (hl : lefts.length = cells.length) (h0 : 0 < cells.length) (hne : ca ≠ la) :
    liftS K E g { nx := nx, rt := Q } (some (.ref a) :: some (.ref S) :: List.replicate m none) H' := by
  refine ⟨_, _, _, _, law_env hS sm nS nca nla h1 h2 h3 hl h0 hne, T.AllB.imp (fun d x hx => ?_) (fun _ _ _ z => z.elim) (en ns.length hn)⟩
  obtain ⟨ρ, rfl⟩ := hx
  intro c' oa' σ' H2 fw e' v r
  cases r
  exact q H2
/-- the law's end, what may be raised told by the world -/
theorem walk_w {l : PySem.W.OpenLaw} {n k : Nat} {q : Program} {loose : List Str} {XP : (Str → Option Value) → Heap → Prop} {YP : World → Heap → Prop} {d : DefRec} {CX : World → CXT} {x : Str}
    (hn : l.most = some n) (hz : n ≤ sizeLine) (hdf : d.params.defaults = []) (hr : Room k callerA)
    (F : ∀ (w : World) (mg : Str → Option Value) (fa : Addr) (h : Heap), YP w h → h.Ns mainGlobals mg → mg d.name = some (.ref fa) →
      ∃ (K : PySem.W.Frag) (fd : FuncData) (sp : Sp), K.In h ∧ (∀ (s : Shared) (u : Value), BindsTo s fd ⟨[u], []⟩ [(x, u)]) ∧
        (∀ (H : Hp) (a : Addr) (ns : List Int), ns.length ≤ n → Only H → SqL K H a (ns.map V.int) → sp [.ref a] H (fun v _ => v = .bl true) fun _ _ _ => False) ∧
        ∀ base : Heap, K.In base → base.Ns mainGlobals mg → FnOk l.prog w K mg base (CX w) k fa fd [x] sp)
    (hCX : ∀ (w : World) (H : Hp) (s : Shared) (e : Value) (s' : Shared), CX w [] H s (fun _ _ _ => False) e s' → False) :
    PySem.W.WalkO q loose XP YP l.row.toRowW d [] (fun f vs => PySem.call f vs) := by
  refine Att.attach_call hn hdf fun w' t₀ t₁ mg' mb' fa' o' pm' cd' dc a' vs' ns' G' Y' h1 h2 h3 h4 h5 h6 h7 h8 => ?_
  obtain ⟨K', fd', sp', kx, hb', hs', hF'⟩ := F w' mg' fa' _ Y' G'.T.g h4
  exact law_call kx G'.T.g G'.T.b G'.T.builtins G'.T.nolimit h8 h5 h6 (Nat.le_trans h7 hz) hr hF' hb' (fun H hO hS => hs' H a' ns' h7 hO hS) fun H e s' => hCX w' H t₁ e s'
theorem cx_none {P : Program} {w : World} {l : List PySem.Env} {H : Hp} {s : Shared} {e : Value} {s' : Shared} (h : L2.CX P w l H s (fun _ _ _ => False) e s') : False := by
  obtain ⟨_, _, _, _, _, _, _, _, _, _, _, _, z⟩ := h
  exact z
end PF
namespace PF
open PySem PySem.Spec PyProof.Rows L2
set_option maxHeartbeats 1000000 in
theorem meets_enum1 {v : Value} {o : Obj} {H : Heap → Prop} (B : Begins v o H) :
    Meets (Builtin.«enumerate.__new__» ⟨[.type "enumerate", v], []⟩) (fun _ R s => H s.heap ∧
      R (.ok (.ret (.ref (s.heap.push o).objs.size))) { s with heap := (s.heap.push o).push { cls := .type "enumerate", data := .fields #[.none, .bool false, .ref s.heap.objs.size, rawInt 0, .none, .none] } }) := .of_wp fun prog w A R s h => by
  obtain ⟨hp, g, d, tk, os⟩ := s
  obtain ⟨h1, h⟩ := h
  have hsub := sub_enumerate
  have q1 : ∀ {A' : Around} {E : Value → Shared → Prop} {Q : Value → Shared → Prop}, Q (.ref hp.objs.size) ⟨hp.push o, g, d, tk, os⟩ → wpAny (model prog w) A' (pyIter v) Q E ⟨hp, g, d, tk, os⟩ := fun q => B.iter prog w _ _ ⟨hp, g, d, tk, os⟩ _ h1 q
  wp_walk using q1
  refine wpAny_stack_any fun st => wpAny_pure ?_
  split
  · rename_i c _ _ _ _ _
    cases (c == Value.type "enumerate")
    · wp_walk using q1
      exact ⟨_, rfl, h⟩
    · wp_walk using q1
      exact ⟨_, rfl, h⟩
  · wp_walk using q1
    exact ⟨_, rfl, h⟩
theorem enum_begins1 {prog : Program} {w : World} {A : Around} {E : Value → Shared → Prop} {s : Shared} {v : Value} {o : Obj} {H : Heap → Prop} {Q : Value → Shared → Prop} (B : Begins v o H) (h1 : H s.heap)
    (h : ∀ h', IsEnum h' (s.heap.objs.size + 1) s.heap.objs.size 0 .none → h'.get? s.heap.objs.size = some o → h'.objs.size = s.heap.objs.size + 2 → (∀ b o, s.heap.get? b = some o → h'.get? b = some o) → Q (.ref (s.heap.objs.size + 1)) { s with heap := h' }) :
    wpAny (model prog w) A (call (.type "enumerate") [v]) Q E s := by
  refine callType_new F.called_enumerate (by decide) (F.typeCall_enumerate_1 _) (F.newCall_enumerate_1 _) (fun obj => F.args_object_init_2 obj _) F.entry_enumerate_new (meets_enum1 B) ⟨h1, ?_⟩
  have hz : (s.heap.push o).objs.size = s.heap.objs.size + 1 := Heap.size_push ..
  show _ ∧ _
  rw [hz]
  have he : IsEnum ((s.heap.push o).push { cls := .type "enumerate", data := .fields #[.none, .bool false, .ref s.heap.objs.size, rawInt 0, .none, .none] }) (s.heap.objs.size + 1) s.heap.objs.size 0 .none := by
    have := Heap.get?_push_size (s.heap.push o) (o := { cls := .type "enumerate", data := .fields #[.none, .bool false, .ref s.heap.objs.size, rawInt 0, .none, .none] }) rfl
    rw [hz] at this
    exact this
  exact ⟨⟨_, he, rfl⟩, h _ he (Heap.get?_push_of_some _ (Heap.get?_push_size _ B.free)) (by rw [Heap.size_push, hz]) fun b o x => Heap.get?_push_of_some _ (Heap.get?_push_of_some _ x)⟩
/-- the tuple at a (n items), each item in a new pair with its count from k -/
def ItNT (K : PySem.W.Frag) (a : Addr) (k : Int) (n : Nat) : It :=
  ⟨fun i H => i < n ∧ ∃ (xs : List V) (x : V), SqT K H a xs ∧ xs.length = n ∧ xs[i]? = some x,
    fun i H v H' => ∃ T x, v = .ref T ∧ H T = none ∧ H' = upd H T (.tup [.int (k + (i : Nat)), x]) ∧ ∀ xs, SqT K H a xs → xs[i]? = some x,
    fun i H => n ≤ i ∧ ∃ xs : List V, SqT K H a xs ∧ xs.length = n⟩
theorem turn_nT {P : Program} {w : World} {K : PySem.W.Frag} {elts : List Expr} {kk : Nat} {tpos : Pos} (a e it : Addr) (k : Int) (n : Nat) :
    Turn P w K (.Tuple elts kk tpos) (ItNT K a k n) [e, it] e (fun i h => (∃ old, IsEnum h e it (k + (i : Nat)) old) ∧ h.IsTupleIter it a i ∧ e ≠ it ∧ a ≠ it ∧ a ≠ e ∧ i ≤ n) where
  mem := by simp
  obj := fun i h st b hb => by
    obtain ⟨⟨old, he⟩, ⟨o, ho, hc, hd⟩, _⟩ := st
    have e' : b = e ∨ b = it := by simpa using hb
    rcases e' with z | z
    · rw [z]
      exact ⟨_, he, fun v q => nomatch q⟩
    · rw [z]
      exact ⟨o, ho, fun v q => by rw [hd] at q; cases q⟩
  keep := fun i h h' st k => let ⟨⟨old, he⟩, hi, hne⟩ := st; ⟨⟨old, k e (by simp) _ he⟩, hi.at fun o q => k it (by simp) o q, hne⟩
  item := by
    intro X hP hw hK hc i pins s σ H E I hf st hg
    subst hP hw hK
    obtain ⟨⟨old, he⟩, hit, hne, nai, nae, _⟩ := st
    obtain ⟨hin, xs, x, hq, hxn, hx⟩ := hg
    obtain ⟨its, rv, p, hz⟩ := I.tuple hq
    obtain ⟨u, hu, ru⟩ := rv.get hx
    have hil0 : i < its.length := (List.getElem?_eq_some_iff.mp hu).1
    have hel : e < s.heap.objs.size := Heap.lt_size he
    have hil : it < s.heap.objs.size := by obtain ⟨_, q, _⟩ := hit; exact Heap.lt_size q
    have D := Draws.tuple (prog := X.prog) (w := X.w) (A := X.A.in1) (I.ok.hd hc) it a nai its.toArray
    refine wpAny_pyNext_enum_itemC D he ⟨hit, p⟩ (by simpa using hil0) hne (by simp [hne, Ne.symm nae]) fun x' h' tk hP ho hst hT hsz hk => ?_
    have hxu : x' = u := by
      have : its[i]? = some x' := by simpa using hP
      rw [hu] at this
      exact (Option.some.inj this).symm
    subst hxu
    obtain ⟨hit', _⟩ := hst
    refine ⟨_, rfl, wpAny_letOwnedTupleGo_enum (s := { s with heap := h', toks := tk + 1 }) ho fun h'' he' sb => ?_⟩
    have hT2 : h''.get? s.heap.objs.size = some { cls := .type "tuple", data := .seq #[.int (k + (i : Nat)) tk, x'] } := (sb.2 _ (Nat.ne_of_gt hel)).trans hT
    have new : ObjOk X.prog X.w (upd H s.heap.objs.size (.tup [.int (k + (i : Nat)), x])) h'' s.heap.objs.size (.tup [.int (k + (i : Nat)), x]) := ⟨by show 2 ≤ sizeLine; decide, [.int (k + (i : Nat)) tk, x'], .cons ⟨_, rfl⟩ (.cons ru .nil), ⟨_, hT2, rfl, _, rfl⟩⟩
    have I1 : Inv X pins σ (upd H s.heap.objs.size (.tup [.int (k + (i : Nat)), x])) { s with heap := h'', toks := tk + 1 } := I.turnedNew (ch := [e, it]) (fun b ob hb q => (sb.2 b (fun z => hb (by simp [z]))).trans (hk b ob (fun z => hb (by simp [z])) (fun z => hb (by simp [z])) q)) hf (Nat.le_refl _) new
    refine ⟨.ref s.heap.objs.size, _, I1, rfl, ⟨_, x, rfl, I.hok.fresh (Nat.le_refl _), rfl, fun ys hy => by rw [I.tuple_inj hy hq]; exact hx⟩, ⟨⟨x', ?_⟩, hit'.at fun o q => (sb.2 it (Ne.symm hne)).trans q, hne, nai, nae, hin⟩, fun b hb => ?_⟩
    · have e1 : k + ((i + 1 : Nat) : Int) = k + (i : Int) + 1 := by omega
      rw [e1]
      exact he'
    · have hb' : b < s.heap.objs.size := by
        have e' : b = e ∨ b = it := by simpa using hb
        rcases e' with z | z
        · rw [z]; exact hel
        · rw [z]; exact hil
      rw [upd_ne (Nat.ne_of_lt hb')]
      exact (hf b hb).1
  done := by
    intro X hP hw hK hc i pins s σ H E I hf st hg
    subst hP hw hK
    obtain ⟨⟨old, he⟩, hit, hne, nai, nae, hin⟩ := st
    obtain ⟨hni, xs, hq, hx⟩ := hg
    obtain ⟨its, rv, p, hz⟩ := I.tuple hq
    obtain ⟨f0, f1, f2, f3, f4, f5⟩ := hf it (by simp)
    have hl := rv.length
    have D := Draws.tuple (prog := X.prog) (w := X.w) (A := X.A.in1) (I.ok.hd hc) it a nai its.toArray
    have en : its.toArray.size = i := by simp; omega
    exact wpAny_pyNext_enum_endD D he (by rw [en]; exact ⟨hit, p⟩) fun h' eb => ⟨rfl, I.turned (t' := s.toks) (fun b o hb q => eb b o hb q) f0 f1 f3 f4 f5⟩
  self := fun A i s Q E st h => let ⟨⟨_, he⟩, _⟩ := st; wpAny_pyIter_enum he h
def iEnT (K : PySem.W.Frag) (ta : TA) : TI := fun σ H R => ta σ H fun vs H1 => ∃ a xs k, (vs = [.ref a] ∧ k = 0 ∨ vs = [.ref a, .int k] ∧ -(2 ^ 63) ≤ k ∧ k < 2 ^ 63) ∧ SqT K H1 a xs ∧ R (ItNT K a k xs.length) H1
theorem en_fin_T {X : Cx} {tpos : Pos} {elts : List Expr} {kk : Nat} {pins : List (Addr × Obj)} {σ : St} {H1 : Hp} {s1 : Shared} {R : It → Hp → Prop} {a : Addr} {xs : List V} {k : Int} {h' : Heap} (I1 : Inv X pins σ H1 s1) (al : a < s1.heap.objs.size) (he : IsEnum h' (s1.heap.objs.size + 1) s1.heap.objs.size k .none)
    (hit : h'.get? s1.heap.objs.size = some { cls := .type "tuple_iterator", data := .fields #[.ref a, .int 0 0] }) (hk : ∀ b o, s1.heap.get? b = some o → h'.get? b = some o) (q : R (ItNT X.K a k xs.length) H1) :
    wpAny (model X.prog X.w) X.A (pyIter (.ref (s1.heap.objs.size + 1))) (PIE X pins σ (.Tuple elts kk tpos) R) X.xe { s1 with heap := h' } := by
  refine wpAny_pyIter_enum he ?_
  have I2 : Inv X pins σ H1 { s1 with heap := h' } := I1.kept (t' := s1.toks) hk
  refine ⟨s1.heap.objs.size + 1, [s1.heap.objs.size + 1, s1.heap.objs.size], _, _, H1, rfl, I2, turn_nT a (s1.heap.objs.size + 1) s1.heap.objs.size k xs.length, ⟨⟨.none, ?_⟩, ⟨_, hit, rfl, rfl⟩, Nat.succ_ne_self _, Nat.ne_of_lt al, Nat.ne_of_lt (Nat.lt_succ_of_lt al), Nat.zero_le _⟩, fun b hb => ?_, q⟩
  · have e0 : k + ((0 : Nat) : Int) = k := by simp
    rw [e0]
    exact he
  have e' : b = s1.heap.objs.size + 1 ∨ b = s1.heap.objs.size := by simpa using hb
  have hle : s1.heap.objs.size ≤ b := by
    rcases e' with z | z
    · rw [z]; exact Nat.le_add_right _ _
    · rw [z]; exact Nat.le_refl _
  exact I1.fpOk hle (I1.hok.fresh hle)
theorem pi_enT {X : Cx} {e : Expr} {ta : TA} {p pos tpos : Pos} {elts : List Expr} {kk : Nat} (hg : Gl X "enumerate") (hm : X.mg "enumerate" = none) (ha : PA X [e] ta) (hs : starEach [e] X.env = [(false, eval e X.env)] := by rfl) :
    PI X (.Tuple elts kk tpos) (.Call (.Name "enumerate" p) [e] [] pos) (iEnT X.K ta) := by
  refine ⟨fun pins s σ H R I h => ?_⟩
  refine Call_ (ld_blt I hg hm boot_enumerate (PyProof.Rows.callWith_type1 (thn (ha.run pos pins s σ H _ I h) fun us s1 ⟨vs, H1, I1, r1, q1⟩ => ?_) hs rfl))
  obtain ⟨a, xs, k, ex, hq, q⟩ := q1
  rcases ex with ⟨ex, rfl⟩ | ⟨ex, _, _⟩
  · subst ex
    cases r1 with
    | cons r rr =>
      cases rr
      cases r
      obtain ⟨its, rv, p', hz⟩ := I1.tuple hq
      have al : a < s1.heap.objs.size := by
        obtain ⟨o1, ho1, _⟩ := id p'
        exact Heap.lt_size ho1
      exact enum_begins1 (begins_tuple a its.toArray) p' fun h' he hit hsz hk => en_fin_T I1 al he hit hk q
  · subst ex
    cases r1 with
    | cons r rr =>
      cases rr with
      | cons r' rr =>
        cases rr
        cases r
        obtain ⟨tk, rfl⟩ := r'
        obtain ⟨its, rv, p', hz⟩ := I1.tuple hq
        have al : a < s1.heap.objs.size := by
          obtain ⟨o1, ho1, _⟩ := id p'
          exact Heap.lt_size ho1
        exact enum_begins (begins_tuple a its.toArray) p' (by assumption) (by assumption) fun h' he hit hsz hk => en_fin_T I1 al he hit hk q
theorem pi_enT2 {X : Cx} {e e2 : Expr} {ta : TA} {p pos tpos : Pos} {elts : List Expr} {kk : Nat} (hg : Gl X "enumerate") (hm : X.mg "enumerate" = none) (ha : PA X [e, e2] ta)
    (hs : starEach [e, e2] X.env = (false, eval e X.env) :: starEach [e2] X.env := by rfl) (hpl : (backTo pos (starEach [e2] X.env)).any (·.1) = false := by rfl) :
    PI X (.Tuple elts kk tpos) (.Call (.Name "enumerate" p) [e, e2] [] pos) (iEnT X.K ta) := by
  refine ⟨fun pins s σ H R I h => ?_⟩
  refine Call_ (ld_blt I hg hm boot_enumerate (PyProof.Rows.callWith_type1 (thn (ha.run pos pins s σ H _ I h) fun us s1 ⟨vs, H1, I1, r1, q1⟩ => ?_) hs hpl))
  obtain ⟨a, xs, k, ex, hq, q⟩ := q1
  rcases ex with ⟨ex, rfl⟩ | ⟨ex, _, _⟩
  · subst ex
    cases r1 with
    | cons r rr =>
      cases rr
      cases r
      obtain ⟨its, rv, p', hz⟩ := I1.tuple hq
      have al : a < s1.heap.objs.size := by
        obtain ⟨o1, ho1, _⟩ := id p'
        exact Heap.lt_size ho1
      exact enum_begins1 (begins_tuple a its.toArray) p' fun h' he hit hsz hk => en_fin_T I1 al he hit hk q
  · subst ex
    cases r1 with
    | cons r rr =>
      cases rr with
      | cons r' rr =>
        cases rr
        cases r
        obtain ⟨tk, rfl⟩ := r'
        obtain ⟨its, rv, p', hz⟩ := I1.tuple hq
        have al : a < s1.heap.objs.size := by
          obtain ⟨o1, ho1, _⟩ := id p'
          exact Heap.lt_size ho1
        exact enum_begins (begins_tuple a its.toArray) p' (by assumption) (by assumption) fun h' he hit hsz hk => en_fin_T I1 al he hit hk q
/-- the list at a (n items), each item in a new pair with its count from k -/
def ItNL (K : PySem.W.Frag) (a : Addr) (k : Int) (n : Nat) : It :=
  ⟨fun i H => i < n ∧ ∃ (xs : List V) (x : V), SqL K H a xs ∧ xs.length = n ∧ xs[i]? = some x,
    fun i H v H' => ∃ T x, v = .ref T ∧ H T = none ∧ H' = upd H T (.tup [.int (k + (i : Nat)), x]) ∧ ∀ xs, SqL K H a xs → xs[i]? = some x,
    fun i H => n ≤ i ∧ ∃ xs : List V, SqL K H a xs ∧ xs.length = n⟩
theorem turn_nL {P : Program} {w : World} {K : PySem.W.Frag} {elts : List Expr} {kk : Nat} {tpos : Pos} (a e it : Addr) (k : Int) (n : Nat) :
    Turn P w K (.Tuple elts kk tpos) (ItNL K a k n) [e, it] e (fun i h => (∃ old, IsEnum h e it (k + (i : Nat)) old) ∧ h.IsListIter it a i ∧ e ≠ it ∧ a ≠ it ∧ a ≠ e ∧ i ≤ n) where
  mem := by simp
  obj := fun i h st b hb => by
    obtain ⟨⟨old, he⟩, ⟨o, ho, hc, hd⟩, _⟩ := st
    have e' : b = e ∨ b = it := by simpa using hb
    rcases e' with z | z
    · rw [z]
      exact ⟨_, he, fun v q => nomatch q⟩
    · rw [z]
      exact ⟨o, ho, fun v q => by rw [hd] at q; cases q⟩
  keep := fun i h h' st k => let ⟨⟨old, he⟩, hi, hne⟩ := st; ⟨⟨old, k e (by simp) _ he⟩, hi.at fun o q => k it (by simp) o q, hne⟩
  item := by
    intro X hP hw hK hc i pins s σ H E I hf st hg
    subst hP hw hK
    obtain ⟨⟨old, he⟩, hit, hne, nai, nae, _⟩ := st
    obtain ⟨hin, xs, x, hq, hxn, hx⟩ := hg
    obtain ⟨its, rv, p, hz⟩ := I.list hq
    obtain ⟨u, hu, ru⟩ := rv.get hx
    have hil0 : i < its.length := (List.getElem?_eq_some_iff.mp hu).1
    have hel : e < s.heap.objs.size := Heap.lt_size he
    have hil : it < s.heap.objs.size := by obtain ⟨_, q, _⟩ := hit; exact Heap.lt_size q
    have D := Draws.list (prog := X.prog) (w := X.w) (A := X.A.in1) (I.ok.hd hc) it a nai its.toArray
    refine wpAny_pyNext_enum_itemC D he ⟨hit, p.isList⟩ (by simpa using hil0) hne (by simp [hne, Ne.symm nae]) fun x' h' tk hP ho hst hT hsz hk => ?_
    have hxu : x' = u := by
      have : its[i]? = some x' := by simpa using hP
      rw [hu] at this
      exact (Option.some.inj this).symm
    subst hxu
    obtain ⟨hit', _⟩ := hst
    refine ⟨_, rfl, wpAny_letOwnedTupleGo_enum (s := { s with heap := h', toks := tk + 1 }) ho fun h'' he' sb => ?_⟩
    have hT2 : h''.get? s.heap.objs.size = some { cls := .type "tuple", data := .seq #[.int (k + (i : Nat)) tk, x'] } := (sb.2 _ (Nat.ne_of_gt hel)).trans hT
    have new : ObjOk X.prog X.w (upd H s.heap.objs.size (.tup [.int (k + (i : Nat)), x])) h'' s.heap.objs.size (.tup [.int (k + (i : Nat)), x]) := ⟨by show 2 ≤ sizeLine; decide, [.int (k + (i : Nat)) tk, x'], .cons ⟨_, rfl⟩ (.cons ru .nil), ⟨_, hT2, rfl, _, rfl⟩⟩
    have I1 : Inv X pins σ (upd H s.heap.objs.size (.tup [.int (k + (i : Nat)), x])) { s with heap := h'', toks := tk + 1 } := I.turnedNew (ch := [e, it]) (fun b ob hb q => (sb.2 b (fun z => hb (by simp [z]))).trans (hk b ob (fun z => hb (by simp [z])) (fun z => hb (by simp [z])) q)) hf (Nat.le_refl _) new
    refine ⟨.ref s.heap.objs.size, _, I1, rfl, ⟨_, x, rfl, I.hok.fresh (Nat.le_refl _), rfl, fun ys hy => by rw [I.list_inj hy hq]; exact hx⟩, ⟨⟨x', ?_⟩, hit'.at fun o q => (sb.2 it (Ne.symm hne)).trans q, hne, nai, nae, hin⟩, fun b hb => ?_⟩
    · have e1 : k + ((i + 1 : Nat) : Int) = k + (i : Int) + 1 := by omega
      rw [e1]
      exact he'
    · have hb' : b < s.heap.objs.size := by
        have e' : b = e ∨ b = it := by simpa using hb
        rcases e' with z | z
        · rw [z]; exact hel
        · rw [z]; exact hil
      rw [upd_ne (Nat.ne_of_lt hb')]
      exact (hf b hb).1
  done := by
    intro X hP hw hK hc i pins s σ H E I hf st hg
    subst hP hw hK
    obtain ⟨⟨old, he⟩, hit, hne, nai, nae, hin⟩ := st
    obtain ⟨hni, xs, hq, hx⟩ := hg
    obtain ⟨its, rv, p, hz⟩ := I.list hq
    obtain ⟨f0, f1, f2, f3, f4, f5⟩ := hf it (by simp)
    have hl := rv.length
    have D := Draws.list (prog := X.prog) (w := X.w) (A := X.A.in1) (I.ok.hd hc) it a nai its.toArray
    have en : its.toArray.size = i := by simp; omega
    exact wpAny_pyNext_enum_endD D he (by rw [en]; exact ⟨hit, p.isList⟩) fun h' eb => ⟨rfl, I.turned (t' := s.toks) (fun b o hb q => eb b o hb q) f0 f1 f3 f4 f5⟩
  self := fun A i s Q E st h => let ⟨⟨_, he⟩, _⟩ := st; wpAny_pyIter_enum he h
def iEnL (K : PySem.W.Frag) (ta : TA) : TI := fun σ H R => ta σ H fun vs H1 => ∃ a xs k, (vs = [.ref a] ∧ k = 0 ∨ vs = [.ref a, .int k] ∧ -(2 ^ 63) ≤ k ∧ k < 2 ^ 63) ∧ SqL K H1 a xs ∧ R (ItNL K a k xs.length) H1
theorem en_fin_L {X : Cx} {tpos : Pos} {elts : List Expr} {kk : Nat} {pins : List (Addr × Obj)} {σ : St} {H1 : Hp} {s1 : Shared} {R : It → Hp → Prop} {a : Addr} {xs : List V} {k : Int} {h' : Heap} (I1 : Inv X pins σ H1 s1) (al : a < s1.heap.objs.size) (he : IsEnum h' (s1.heap.objs.size + 1) s1.heap.objs.size k .none)
    (hit : h'.get? s1.heap.objs.size = some { cls := .type "list_iterator", data := .fields #[.ref a, .int 0 0] }) (hk : ∀ b o, s1.heap.get? b = some o → h'.get? b = some o) (q : R (ItNL X.K a k xs.length) H1) :
    wpAny (model X.prog X.w) X.A (pyIter (.ref (s1.heap.objs.size + 1))) (PIE X pins σ (.Tuple elts kk tpos) R) X.xe { s1 with heap := h' } := by
  refine wpAny_pyIter_enum he ?_
  have I2 : Inv X pins σ H1 { s1 with heap := h' } := I1.kept (t' := s1.toks) hk
  refine ⟨s1.heap.objs.size + 1, [s1.heap.objs.size + 1, s1.heap.objs.size], _, _, H1, rfl, I2, turn_nL a (s1.heap.objs.size + 1) s1.heap.objs.size k xs.length, ⟨⟨.none, ?_⟩, ⟨_, hit, rfl, rfl⟩, Nat.succ_ne_self _, Nat.ne_of_lt al, Nat.ne_of_lt (Nat.lt_succ_of_lt al), Nat.zero_le _⟩, fun b hb => ?_, q⟩
  · have e0 : k + ((0 : Nat) : Int) = k := by simp
    rw [e0]
    exact he
  have e' : b = s1.heap.objs.size + 1 ∨ b = s1.heap.objs.size := by simpa using hb
  have hle : s1.heap.objs.size ≤ b := by
    rcases e' with z | z
    · rw [z]; exact Nat.le_add_right _ _
    · rw [z]; exact Nat.le_refl _
  exact I1.fpOk hle (I1.hok.fresh hle)
theorem pi_enL {X : Cx} {e : Expr} {ta : TA} {p pos tpos : Pos} {elts : List Expr} {kk : Nat} (hg : Gl X "enumerate") (hm : X.mg "enumerate" = none) (ha : PA X [e] ta) (hs : starEach [e] X.env = [(false, eval e X.env)] := by rfl) :
    PI X (.Tuple elts kk tpos) (.Call (.Name "enumerate" p) [e] [] pos) (iEnL X.K ta) := by
  refine ⟨fun pins s σ H R I h => ?_⟩
  refine Call_ (ld_blt I hg hm boot_enumerate (PyProof.Rows.callWith_type1 (thn (ha.run pos pins s σ H _ I h) fun us s1 ⟨vs, H1, I1, r1, q1⟩ => ?_) hs rfl))
  obtain ⟨a, xs, k, ex, hq, q⟩ := q1
  rcases ex with ⟨ex, rfl⟩ | ⟨ex, _, _⟩
  · subst ex
    cases r1 with
    | cons r rr =>
      cases rr
      cases r
      obtain ⟨its, rv, p', hz⟩ := I1.list hq
      have al : a < s1.heap.objs.size := by
        obtain ⟨o1, ho1, _⟩ := id p'.isList
        exact Heap.lt_size ho1
      exact enum_begins1 (begins_list a its.toArray) p'.isList fun h' he hit hsz hk => en_fin_L I1 al he hit hk q
  · subst ex
    cases r1 with
    | cons r rr =>
      cases rr with
      | cons r' rr =>
        cases rr
        cases r
        obtain ⟨tk, rfl⟩ := r'
        obtain ⟨its, rv, p', hz⟩ := I1.list hq
        have al : a < s1.heap.objs.size := by
          obtain ⟨o1, ho1, _⟩ := id p'.isList
          exact Heap.lt_size ho1
        exact enum_begins (begins_list a its.toArray) p'.isList (by assumption) (by assumption) fun h' he hit hsz hk => en_fin_L I1 al he hit hk q
theorem pi_enL2 {X : Cx} {e e2 : Expr} {ta : TA} {p pos tpos : Pos} {elts : List Expr} {kk : Nat} (hg : Gl X "enumerate") (hm : X.mg "enumerate" = none) (ha : PA X [e, e2] ta)
    (hs : starEach [e, e2] X.env = (false, eval e X.env) :: starEach [e2] X.env := by rfl) (hpl : (backTo pos (starEach [e2] X.env)).any (·.1) = false := by rfl) :
    PI X (.Tuple elts kk tpos) (.Call (.Name "enumerate" p) [e, e2] [] pos) (iEnL X.K ta) := by
  refine ⟨fun pins s σ H R I h => ?_⟩
  refine Call_ (ld_blt I hg hm boot_enumerate (PyProof.Rows.callWith_type1 (thn (ha.run pos pins s σ H _ I h) fun us s1 ⟨vs, H1, I1, r1, q1⟩ => ?_) hs hpl))
  obtain ⟨a, xs, k, ex, hq, q⟩ := q1
  rcases ex with ⟨ex, rfl⟩ | ⟨ex, _, _⟩
  · subst ex
    cases r1 with
    | cons r rr =>
      cases rr
      cases r
      obtain ⟨its, rv, p', hz⟩ := I1.list hq
      have al : a < s1.heap.objs.size := by
        obtain ⟨o1, ho1, _⟩ := id p'.isList
        exact Heap.lt_size ho1
      exact enum_begins1 (begins_list a its.toArray) p'.isList fun h' he hit hsz hk => en_fin_L I1 al he hit hk q
  · subst ex
    cases r1 with
    | cons r rr =>
      cases rr with
      | cons r' rr =>
        cases rr
        cases r
        obtain ⟨tk, rfl⟩ := r'
        obtain ⟨its, rv, p', hz⟩ := I1.list hq
        have al : a < s1.heap.objs.size := by
          obtain ⟨o1, ho1, _⟩ := id p'.isList
          exact Heap.lt_size ho1
        exact enum_begins (begins_list a its.toArray) p'.isList (by assumption) (by assumption) fun h' he hit hsz hk => en_fin_L I1 al he hit hk q
def enumF (k : Int) : List W → List W
  | [] => []
  | w :: ws => .tup [.int k, w] :: enumF (k + 1) ws
theorem enumF_get : ∀ (ws : List W) (k : Int) (i : Nat), (enumF k ws)[i]? = (ws[i]?).map fun w => .tup [.int (k + (i : Nat)), w]
  | [], k, i => by simp [enumF]
  | w :: ws, k, 0 => by simp [enumF]
  | w :: ws, k, i + 1 => by
    have e : k + 1 + (i : Int) = k + ((i + 1 : Nat) : Int) := by omega
    simp only [enumF, List.getElem?_cons_succ, enumF_get ws (k + 1) i, e]
theorem enumF_length : ∀ (ws : List W) (k : Int), (enumF k ws).length = ws.length
  | [], k => rfl
  | w :: ws, k => by simp [enumF, enumF_length ws (k + 1)]
def zipF : List W → List W → List W
  | w :: ws, u :: us => .tup [w, u] :: zipF ws us
  | _, _ => []
theorem zipF_get : ∀ (ws us : List W) (i : Nat) (x : W), (zipF ws us)[i]? = some x → ∃ w u, ws[i]? = some w ∧ us[i]? = some u ∧ x = .tup [w, u]
  | [], us, i, x, h => by simp [zipF] at h
  | w :: ws, [], i, x, h => by simp [zipF] at h
  | w :: ws, u :: us, 0, x, h => by
    simp [zipF] at h
    exact ⟨w, u, rfl, rfl, h.symm⟩
  | w :: ws, u :: us, i + 1, x, h => by
    simp only [zipF, List.getElem?_cons_succ] at h
    exact zipF_get ws us i x h
theorem zipF_length : ∀ (ws us : List W), (zipF ws us).length = min ws.length us.length
  | [], us => by simp [zipF]
  | w :: ws, [] => by simp [zipF]
  | w :: ws, u :: us => by simp [zipF, zipF_length ws us]
def enW : List W → T (List W)
  | [.tup ws] => .ok (enumF 0 ws)
  | [.lst ws] => .ok (enumF 0 ws)
  | [.tup ws, .int k] => if rngOk k then .ok (enumF k ws) else .bad
  | [.lst ws, .int k] => if rngOk k then .ok (enumF k ws) else .bad
  | _ => .bad
def isT : List W → Bool
  | .tup _ :: _ => true
  | _ => false
def enT (xs : List W) : T (List W) := if isT xs then enW xs else .bad
def enL (xs : List W) : T (List W) := if isT xs then .bad else enW xs
def zpW : List W → T (List W)
  | [.tup ws, .tup us] => .ok (zipF ws us)
  | [.lst ws, .lst us] => .ok (zipF ws us)
  | _ => .bad
section
variable {K : PySem.W.Frag} {c : Cc} {d : Nat} {H H1 : Hp}
theorem new_pair {c : Cc} {d : Nat} {H : Hp} {T : Addr} {a b : W} {x y : V} (wd : Wd c d H) (hT : H T = none) (ra : Rep K c H a x) (rb : Rep K c H b y) :
    Step c H (upd H T (.tup [x, y])) ∧ StOk c d (upd H T (.tup [x, y])) ∧ Rep K c (upd H T (.tup [x, y])) (.tup [a, b]) (.ref T) :=
  ⟨.new hT, wd.st.new hT, .tup (SqT.of upd_same) (.cons (ra.step (.new hT) wd.st wd.ok) (.cons (rb.step (.new hT) wd.st wd.ok) .nil))⟩
theorem it_enT {a : Addr} {vs : List V} {ws : List W} (k : Int) (hq : SqT K H a vs) (rl : RepL K c H ws vs) : ItOk K c H (ItNT K a k vs.length) (enumF k ws) := fun c' H' d' i fw wd => by
  have hq' : SqT K H' a vs := fw.sq a vs hq
  refine ⟨fun w hw => ?_, fun hi => ?_⟩
  · rw [enumF_get] at hw
    cases hu : ws[i]? with
    | none =>
      rw [hu] at hw
      cases hw
    | some u =>
      rw [hu] at hw
      cases hw
      obtain ⟨v, hv, rv⟩ := rl.get hu
      refine ⟨⟨(List.getElem?_eq_some_iff.mp hv).1, vs, v, hq', rfl, hv⟩, fun x H2 y => ?_⟩
      obtain ⟨T, x', rfl, hT, rfl, y⟩ := y
      have ex := y vs hq'
      rw [hv] at ex
      cases ex
      exact new_pair wd hT (.int _) (fw.rep _ _ rv)
  · rw [enumF_length, rl.length] at hi
    exact ⟨hi, vs, hq', rfl⟩
theorem it_enL {a : Addr} {vs : List V} {ws : List W} (k : Int) (ok : CcOk c) (mo : MOk c H) (n : a ∉ c.A) (hq : H a = some (.lst vs)) (rl : RepL K c H ws vs) : ItOk K c H (ItNL K a k vs.length) (enumF k ws) := fun c' H' d' i fw wd => by
  have hq' : SqL K H' a vs := SqL.of (fw.step _ _ hq (ok.neS n) (ok.nela n) fun z => n (mo.inA _ z))
  refine ⟨fun w hw => ?_, fun hi => ?_⟩
  · rw [enumF_get] at hw
    cases hu : ws[i]? with
    | none =>
      rw [hu] at hw
      cases hw
    | some u =>
      rw [hu] at hw
      cases hw
      obtain ⟨v, hv, rv⟩ := rl.get hu
      refine ⟨⟨(List.getElem?_eq_some_iff.mp hv).1, vs, v, hq', rfl, hv⟩, fun x H2 y => ?_⟩
      obtain ⟨T, x', rfl, hT, rfl, y⟩ := y
      have ex := y vs hq'
      rw [hv] at ex
      cases ex
      exact new_pair wd hT (.int _) (fw.rep _ _ rv)
  · rw [enumF_length, rl.length] at hi
    exact ⟨hi, vs, hq', rfl⟩
theorem it_zpT {a b : Addr} {vs us : List V} {ws zs : List W} (hq : SqT K H a vs) (rl : RepL K c H ws vs) (hp : SqT K H b us) (rm : RepL K c H zs us) : ItOk K c H (RZ.ItzT K a b) (zipF ws zs) := fun c' H' d' i fw wd => by
  have hq' : SqT K H' a vs := fw.sq a vs hq
  have hp' : SqT K H' b us := fw.sq b us hp
  refine ⟨fun w hw => ?_, fun hi => ?_⟩
  · obtain ⟨w1, w2, h1, h2, rfl⟩ := zipF_get _ _ _ _ hw
    obtain ⟨v, hv, rv⟩ := rl.get h1
    obtain ⟨u, hu, ru⟩ := rm.get h2
    refine ⟨⟨vs, us, v, u, hq', hp', hv, hu⟩, fun x H2 y => ?_⟩
    obtain ⟨T, x', y', rfl, hT, rfl, y1, y2⟩ := y
    have ex := y1 vs hq'
    have ey := y2 us hp'
    rw [hv] at ex
    rw [hu] at ey
    cases ex
    cases ey
    exact new_pair wd hT (fw.rep _ _ rv) (fw.rep _ _ ru)
  · rw [zipF_length, rl.length, rm.length] at hi
    exact ⟨vs, us, hq', hp', by omega⟩
theorem it_zpL {a b : Addr} {vs us : List V} {ws zs : List W} (ok : CcOk c) (mo : MOk c H) (na : a ∉ c.A) (hq : H a = some (.lst vs)) (rl : RepL K c H ws vs) (nb : b ∉ c.A) (hp : H b = some (.lst us)) (rm : RepL K c H zs us) : ItOk K c H (Itz K a b) (zipF ws zs) := fun c' H' d' i fw wd => by
  have hq' : SqL K H' a vs := SqL.of (fw.step _ _ hq (ok.neS na) (ok.nela na) fun z => na (mo.inA _ z))
  have hp' : SqL K H' b us := SqL.of (fw.step _ _ hp (ok.neS nb) (ok.nela nb) fun z => nb (mo.inA _ z))
  refine ⟨fun w hw => ?_, fun hi => ?_⟩
  · obtain ⟨w1, w2, h1, h2, rfl⟩ := zipF_get _ _ _ _ hw
    obtain ⟨v, hv, rv⟩ := rl.get h1
    obtain ⟨u, hu, ru⟩ := rm.get h2
    refine ⟨⟨vs, us, v, u, hq', hp', hv, hu⟩, fun x H2 y => ?_⟩
    obtain ⟨T, x', y', rfl, hT, rfl, y1, y2⟩ := y
    have ex := y1 vs hq'
    have ey := y2 us hp'
    rw [hv] at ex
    rw [hu] at ey
    cases ex
    cases ey
    exact new_pair wd hT (fw.rep _ _ rv) (fw.rep _ _ ru)
  · rw [zipF_length, rl.length, rm.length] at hi
    exact ⟨vs, us, hq', hp', by omega⟩
end
section
variable {X : Cx} {E : WX} {e e2 : Expr} {fs : En → T (List W)} {p pos tpos : Pos} {elts : List Expr} {kk : Nat}
theorem enT_lift {ta : TA} (hl : ta = liftA X.K E fs) : ∀ σ H R, liftI X.K E (iL enT fs) σ H R → iEnT X.K ta σ H R := fun σ H R q => by
  subst hl
  obtain ⟨c, d, oa, ρ, e, q⟩ := q
  refine liftA_then (P := fun c H => PJ X.K c H R) e q (fun st p => p.later st) fun w v H1 d1 _ r1 e1 h1 => ?_
  cases r1 with
  | nil => exact h1.elim
  | cons r rr =>
    cases r with
    | tup hq rl =>
      cases rr with
      | nil => exact ⟨_, _, 0, .inl ⟨rfl, rfl⟩, hq, PJ.now e1.wd h1 (it_enT 0 hq rl)⟩
      | cons r2 rr =>
        cases rr with
        | cons _ _ => cases r2 <;> exact h1.elim
        | nil =>
          cases r2 with
          | int k =>
            obtain ⟨hb, h1⟩ := T.AllB.ite (show (if rngOk k then T.ok (enumF k _) else .bad).AllB _ _ _ from h1)
            exact ⟨_, _, k, .inr ⟨rfl, by have := rngOk_of hb; omega, by have := rngOk_of hb; omega⟩, hq, PJ.now e1.wd h1 (it_enT k hq rl)⟩
          | _ => exact h1.elim
    | _ => exact h1.elim
theorem enL_lift {ta : TA} (hl : ta = liftA X.K E fs) : ∀ σ H R, liftI X.K E (iL enL fs) σ H R → iEnL X.K ta σ H R := fun σ H R q => by
  subst hl
  obtain ⟨c, d, oa, ρ, e, q⟩ := q
  refine liftA_then (P := fun c H => PJ X.K c H R) e q (fun st p => p.later st) fun w v H1 d1 _ r1 e1 h1 => ?_
  cases r1 with
  | nil => exact h1.elim
  | cons r rr =>
    cases r with
    | lst n hq rl =>
      cases rr with
      | nil => exact ⟨_, _, 0, .inl ⟨rfl, rfl⟩, SqL.of hq, PJ.now e1.wd h1 (it_enL 0 e1.ok e1.m n hq rl)⟩
      | cons r2 rr =>
        cases rr with
        | cons _ _ => cases r2 <;> exact h1.elim
        | nil =>
          cases r2 with
          | int k =>
            obtain ⟨hb, h1⟩ := T.AllB.ite (show (if rngOk k then T.ok (enumF k _) else .bad).AllB _ _ _ from h1)
            exact ⟨_, _, k, .inr ⟨rfl, by have := rngOk_of hb; omega, by have := rngOk_of hb; omega⟩, SqL.of hq, PJ.now e1.wd h1 (it_enL k e1.ok e1.m n hq rl)⟩
          | _ => exact h1.elim
    | _ => exact h1.elim
theorem tri_enT (hg : Gl X "enumerate") (hm : X.mg "enumerate" = none) (ha : TrA X E [e] fs) (hs : starEach [e] X.env = [(false, eval e X.env)] := by rfl) : TrI X E (.Tuple elts kk tpos) (.Call (.Name "enumerate" p) [e] [] pos) (iL enT fs) := pi_imp (pi_enT hg hm ha hs) (enT_lift rfl)
theorem tri_enL (hg : Gl X "enumerate") (hm : X.mg "enumerate" = none) (ha : TrA X E [e] fs) (hs : starEach [e] X.env = [(false, eval e X.env)] := by rfl) : TrI X E (.Tuple elts kk tpos) (.Call (.Name "enumerate" p) [e] [] pos) (iL enL fs) := pi_imp (pi_enL hg hm ha hs) (enL_lift rfl)
theorem tri_enT2 (hg : Gl X "enumerate") (hm : X.mg "enumerate" = none) (ha : TrA X E [e, e2] fs) (hs : starEach [e, e2] X.env = (false, eval e X.env) :: starEach [e2] X.env := by rfl) (hpl : (backTo pos (starEach [e2] X.env)).any (·.1) = false := by rfl) : TrI X E (.Tuple elts kk tpos) (.Call (.Name "enumerate" p) [e, e2] [] pos) (iL enT fs) := pi_imp (pi_enT2 hg hm ha hs hpl) (enT_lift rfl)
theorem tri_enL2 (hg : Gl X "enumerate") (hm : X.mg "enumerate" = none) (ha : TrA X E [e, e2] fs) (hs : starEach [e, e2] X.env = (false, eval e X.env) :: starEach [e2] X.env := by rfl) (hpl : (backTo pos (starEach [e2] X.env)).any (·.1) = false := by rfl) : TrI X E (.Tuple elts kk tpos) (.Call (.Name "enumerate" p) [e, e2] [] pos) (iL enL fs) := pi_imp (pi_enL2 hg hm ha hs hpl) (enL_lift rfl)
theorem tri_zip (hg : Gl X "zip") (hm : X.mg "zip" = none) (ha : TrA X E [e, e2] fs) (hs : starEach [e, e2] X.env = (false, eval e X.env) :: starEach [e2] X.env := by rfl) (hpl : (backTo pos (starEach [e2] X.env)).any (·.1) = false := by rfl) :
    TrI X E (.Tuple elts kk tpos) (.Call (.Name "zip" p) [e, e2] [] pos) (iL zpW fs) := pi_imp (RZ.pi_zipA hg hm ha hs hpl) fun σ H R q => by
  obtain ⟨c, d, oa, ρ, e, q⟩ := q
  refine liftA_then (P := fun c H => PJ X.K c H R) e q (fun st p => p.later st) fun w v H1 d1 _ r1 e1 h1 => ?_
  cases r1 with
  | nil => exact h1.elim
  | cons r rr =>
    cases rr with
    | nil => cases r <;> exact h1.elim
    | cons r2 rr =>
      cases rr with
      | cons _ _ => cases r <;> cases r2 <;> exact h1.elim
      | nil =>
        cases r with
        | tup hq rl =>
          cases r2 with
          | tup hp rm => exact ⟨_, _, _, _, rfl, .inr ⟨hq, hp, PJ.now e1.wd h1 (it_zpT hq rl hp rm)⟩⟩
          | _ => exact h1.elim
        | lst n hq rl =>
          cases r2 with
          | lst n2 hp rm => exact ⟨_, _, _, _, rfl, .inl ⟨SqL.of hq, SqL.of hp, PJ.now e1.wd h1 (it_zpL e1.ok e1.m n hq rl n2 hp rm)⟩⟩
          | _ => exact h1.elim
        | _ => cases r2 <;> exact h1.elim
end
end PF
namespace PF
open PySem PySem.Spec PyProof.Rows L2
section
variable {X : Cx}
theorem callR_or {f : Value} {r r' : List V → Hp → VK → Prop} (h1 : CallR X f r) (h2 : CallR X f r') : CallR X f (fun vs H Q => r vs H Q ∨ r' vs H Q) := fun pins s σ H xs us Q I rv h => h.elim (h1 pins s σ H xs us Q I rv) (h2 pins s σ H xs us Q I rv)
theorem opR_or {f : Value → Value → Sem Value} {r r' : R2} (h1 : OpR X f r) (h2 : OpR X f r') : OpR X f (fun x y H Q => r x y H Q ∨ r' x y H Q) := fun pins s σ H x y v u Q I rx ry h => h.elim (h1 pins s σ H x y v u Q I rx ry) (h2 pins s σ H x y v u Q I rx ry)
def rSumT (K : PySem.W.Frag) : List V → Hp → VK → Prop := fun vs H Q => ∃ (a : Addr) (ns : List Int), vs = [V.ref a] ∧ SqT K H a (ns.map V.int) ∧ Q (.int ns.sum) H
theorem cr_sumT (hc : X.calm = true) : CallR X (.builtin "sum") (rSumT X.K) := by
  intro pins s σ H vs us Q I r h
  obtain ⟨a, ns, rfl, hs, q⟩ := h
  obtain ⟨its, rv, hl, _⟩ := I.tuple hs
  rw [Vals.ref1 r]
  have hi := rv.ints
  obtain ⟨xs, e⟩ := hi.allInts.items
  have hn : numsOf (intItems xs).toList = ns := by rw [← e]; exact hi.numsOf
  rw [nums_intItems] at hn
  rw [e] at hl
  refine PySem.W.ktm_sumG (I.ok.hd hc) hl fun h' tk t' hk => ⟨.int _, H, I.kept hk, ⟨_, rfl⟩, ?_⟩
  rw [preSum_eq, List.take_of_length_le (by simp), hn]
  exact q
theorem slR_or {r r' : V → Option Int → Option Int → Hp → VK → Prop} (h1 : L2.SlR X r) (h2 : L2.SlR X r') : L2.SlR X (fun x l u H Q => r x l u H Q ∨ r' x l u H Q) := fun pins s σ H x v vl vu lo hi sl Q I rx hs pl pu h => h.elim (h1 pins s σ H x v vl vu lo hi sl Q I rx hs pl pu) (h2 pins s σ H x v vl vu lo hi sl Q I rx hs pl pu)
end
theorem tuple_mul1 (l : Addr) (items : Array Value) (n : Nat) (dd : Option Addr) (sl : Array (Option Value)) (u : Tok) :
    Meets (Builtin.«tuple.__mul__» ⟨[.ref l, .int 1 u], []⟩) (fun _ R s => s.heap.get? l = some { cls := .type "tuple", dict := dd, data := .seq items n, slots := sl } ∧ R (.ok (.ret (Value.ref l))) s) :=
  .of_wp fun prog w A R s h => by
    obtain ⟨hp, g, d, tk, os⟩ := s
    obtain ⟨hl, h⟩ := h
    have f1 := AutoSeq1.idx_int
    wp_walk using wpAny_loadPart' hl
    exact ⟨_, rfl, h⟩
def rRep1 (K : PySem.W.Frag) : R2 := fun x y H Q => ∃ l xs, x = .ref l ∧ y = .int 1 ∧ SqT K H l xs ∧ Q (.ref l) H
theorem op_rep1 {X : Cx} : OpR X (binaryOp .Mult) (rRep1 X.K) := by
  intro pins s σ H x y v u Q I rx ry h
  obtain ⟨l, xs, rfl, rfl, hT, q⟩ := h
  cases rx
  obtain ⟨t, rfl⟩ := ry
  obtain ⟨its, r, ⟨⟨cls, dd, data, sl⟩, ho, hc, n, hd⟩, hs⟩ := I.tuple hT
  simp only at hc hd
  subst hc hd
  exact wpAny_binaryOp_repeat_ref (T := "tuple") (U := "int") (by decide) ⟨_, ho, rfl⟩ (fun s' => typeIs_int s' 1 t) noFill_tuple_mul F.fills_int_mul F.slot_int_rmul repeat_tuple F.slot_int_index.lookup
    (call_meets F.slot_int_rmul (typeIs_int s 1 t) F.entry_int_rmul (F.args_int_rmul_2 _ _) (int_rmul_tuple 1 t l its.toArray n dd sl)
      ⟨ho, rfl, ⟨_, ho, rfl⟩, call_meets F.slot_tuple_mul ⟨_, ho, rfl⟩ F.entry_tuple_mul (F.args_tuple_mul_2 _ _) (tuple_mul1 l its.toArray n dd sl t) ⟨ho, ⟨.ref l, H, I, rfl, q⟩⟩⟩)
def intsW : List W → Option (List Int)
  | [] => some []
  | .int b :: ws => (intsW ws).map (b :: ·)
  | _ => none
theorem intsW_map : ∀ {ws : List W} {ns : List Int}, intsW ws = some ns → ws = ns.map W.int
  | [], ns, h => by
    cases h
    rfl
  | w :: ws, ns, h => by
    cases w with
    | int b =>
      simp only [intsW] at h
      cases e : intsW ws with
      | none =>
        rw [e] at h
        cases h
      | some ms =>
        rw [e] at h
        cases h
        rw [intsW_map e]
        rfl
    | _ => cases h
@[simp] theorem intsW_of : ∀ (ns : List Int), intsW (ns.map W.int) = some ns
  | [] => rfl
  | n :: ns => by simp [intsW, intsW_of ns]
def sumW : List W → T W
  | [.lst ws] => match intsW ws with
    | some ns => .ok (.int ns.sum)
    | none => .bad
  | [.tup ws] => match intsW ws with
    | some ns => .ok (.int ns.sum)
    | none => .bad
  | _ => .bad
def greatest : List Int → Int
  | [] => 0
  | n :: ns => ns.foldl max n
def least : List Int → Int
  | [] => 0
  | n :: ns => ns.foldl min n
def maxW : List W → T W
  | [.int i, .int j] => .ok (.int (if j > i then j else i))
  | [.lst ws] => match intsW ws with
    | some (n :: ns) => .ok (.int (greatest (n :: ns)))
    | _ => .bad
  | _ => .bad
def minW : List W → T W
  | [.int i, .int j] => .ok (.int (if j < i then j else i))
  | [.lst ws] => match intsW ws with
    | some (n :: ns) => .ok (.int (least (n :: ns)))
    | _ => .bad
  | _ => .bad
theorem foldl_max_ge : ∀ (ns : List Int) (n : Int), n ≤ ns.foldl max n ∧ (∀ y ∈ ns, y ≤ ns.foldl max n) ∧ (ns.foldl max n = n ∨ ns.foldl max n ∈ ns)
  | [], n => ⟨Int.le_refl _, fun y h => (by cases h), .inl rfl⟩
  | m :: ns, n => by
    obtain ⟨h1, h2, h3⟩ := foldl_max_ge ns (max n m)
    rw [List.foldl_cons]
    refine ⟨by omega, fun y hy => ?_, ?_⟩
    · rcases List.mem_cons.mp hy with rfl | hy
      · omega
      · exact h2 y hy
    · rcases h3 with h3 | h3
      · rw [h3]
        by_cases h : n ≤ m
        · exact .inr (by rw [Int.max_eq_right h]; exact List.mem_cons_self ..)
        · exact .inl (Int.max_eq_left (by omega))
      · exact .inr (List.mem_cons_of_mem _ h3)
theorem foldl_min_le : ∀ (ns : List Int) (n : Int), ns.foldl min n ≤ n ∧ (∀ y ∈ ns, ns.foldl min n ≤ y) ∧ (ns.foldl min n = n ∨ ns.foldl min n ∈ ns)
  | [], n => ⟨Int.le_refl _, fun y h => (by cases h), .inl rfl⟩
  | m :: ns, n => by
    obtain ⟨h1, h2, h3⟩ := foldl_min_le ns (min n m)
    rw [List.foldl_cons]
    refine ⟨by omega, fun y hy => ?_, ?_⟩
    · rcases List.mem_cons.mp hy with rfl | hy
      · omega
      · exact h2 y hy
    · rcases h3 with h3 | h3
      · rw [h3]
        by_cases h : m ≤ n
        · exact .inr (by rw [Int.min_eq_right h]; exact List.mem_cons_self ..)
        · exact .inl (Int.min_eq_left (by omega))
      · exact .inr (List.mem_cons_of_mem _ h3)
theorem greatest_is {ns : List Int} {m : Int} (h0 : 0 < ns.length) (h1 : m ∈ ns) (h2 : ∀ y, y ∈ ns → y ≤ m) : greatest ns = m := by
  cases ns with
  | nil => cases h1
  | cons n ns =>
    obtain ⟨a, b, c⟩ := foldl_max_ge ns n
    show ns.foldl max n = m
    have x1 : ns.foldl max n ≤ m := by
      rcases c with c | c
      · rw [c]
        exact h2 n (List.mem_cons_self ..)
      · exact h2 _ (List.mem_cons_of_mem _ c)
    have x2 : m ≤ ns.foldl max n := by
      rcases List.mem_cons.mp h1 with rfl | h1
      · exact a
      · exact b m h1
    omega
theorem least_is {ns : List Int} {m : Int} (h0 : 0 < ns.length) (h1 : m ∈ ns) (h2 : ∀ y, y ∈ ns → m ≤ y) : least ns = m := by
  cases ns with
  | nil => cases h1
  | cons n ns =>
    obtain ⟨a, b, c⟩ := foldl_min_le ns n
    show ns.foldl min n = m
    have x1 : m ≤ ns.foldl min n := by
      rcases c with c | c
      · rw [c]
        exact h2 n (List.mem_cons_self ..)
      · exact h2 _ (List.mem_cons_of_mem _ c)
    have x2 : ns.foldl min n ≤ m := by
      rcases List.mem_cons.mp h1 with rfl | h1
      · exact a
      · exact b m h1
    omega
def tupOfW : List W → T W
  | [.lst ws] => .ok (.tup ws)
  | [.tup ws] => .ok (.tup ws)
  | _ => .bad
def lstOfW : List W → T W
  | [.lst ws] => .ok (.lst ws)
  | [.tup ws] => .ok (.lst ws)
  | _ => .bad
section
variable {K : PySem.W.Frag}
theorem sem_sum : SemL K (fun vs H Q => rSum K vs H Q ∨ rSumT K vs H Q) sumW := fun c d H x v Q E' wd rx q => by
  cases rx with
  | nil => exact q.elim
  | cons r rr =>
    cases rr with
    | cons _ _ => cases r <;> exact q.elim
    | nil =>
      cases r with
      | lst n h rl =>
        simp only [sumW] at q
        split at q
        · rename_i ns hi
          rw [intsW_map hi] at rl
          rw [rl.ints] at h
          exact .inl ⟨_, ns, rfl, SqL.of h, PQ.now wd q (.int _)⟩
        · exact q.elim
      | tup h rl =>
        simp only [sumW] at q
        split at q
        · rename_i ns hi
          rw [intsW_map hi] at rl
          rw [rl.ints] at h
          exact .inr ⟨_, ns, rfl, h, PQ.now wd q (.int _)⟩
        · exact q.elim
      | _ => exact q.elim
theorem sem_max : SemL K (fun vs H Q => (∃ i j, vs = [.int i, .int j] ∧ Q (.int (if j > i then j else i)) H) ∨ rMax K vs H Q) maxW := fun c d H x v Q E' wd rx q => by
  cases rx with
  | nil => exact q.elim
  | cons r rr =>
    cases rr with
    | cons r2 rr =>
      cases rr with
      | cons _ _ => cases r <;> cases r2 <;> exact q.elim
      | nil => cases r <;> cases r2 <;> first | exact q.elim | exact .inl ⟨_, _, rfl, PQ.now wd q (.int _)⟩
    | nil =>
      cases r with
      | lst n h rl =>
        simp only [maxW] at q
        split at q
        · rename_i m ns hi
          rw [intsW_map hi] at rl
          rw [rl.ints] at h
          refine .inr ⟨_, m :: ns, rfl, SqL.of h, Nat.succ_pos _, fun z h1 h2 => ?_⟩
          rw [← greatest_is (ns := m :: ns) (Nat.succ_pos _) h1 h2]
          exact PQ.now wd q (.int _)
        · exact q.elim
      | _ => exact q.elim
theorem sem_min : SemL K (fun vs H Q => (∃ i j, vs = [.int i, .int j] ∧ Q (.int (if j < i then j else i)) H) ∨ rMin K vs H Q) minW := fun c d H x v Q E' wd rx q => by
  cases rx with
  | nil => exact q.elim
  | cons r rr =>
    cases rr with
    | cons r2 rr =>
      cases rr with
      | cons _ _ => cases r <;> cases r2 <;> exact q.elim
      | nil => cases r <;> cases r2 <;> first | exact q.elim | exact .inl ⟨_, _, rfl, PQ.now wd q (.int _)⟩
    | nil =>
      cases r with
      | lst n h rl =>
        simp only [minW] at q
        split at q
        · rename_i m ns hi
          rw [intsW_map hi] at rl
          rw [rl.ints] at h
          refine .inr ⟨_, m :: ns, rfl, SqL.of h, Nat.succ_pos _, fun z h1 h2 => ?_⟩
          rw [← least_is (ns := m :: ns) (Nat.succ_pos _) h1 h2]
          exact PQ.now wd q (.int _)
        · exact q.elim
      | _ => exact q.elim
theorem sem_tupOf : SemL K (fun xs H Q => ∃ p ys, xs = [.ref p] ∧ ((SqL K H p ys ∧ ∀ l, H l = none → Q (.ref l) (upd H l (.tup ys))) ∨ (SqT K H p ys ∧ Q (.ref p) H))) tupOfW := fun c d H x v Q E' wd rx q => by
  cases rx with
  | nil => exact q.elim
  | cons r rr =>
    cases rr with
    | cons _ _ => cases r <;> exact q.elim
    | nil =>
      cases r with
      | lst n h rl => exact ⟨_, _, rfl, .inl ⟨SqL.of h, fun l hl => q _ _ (.new hl) (wd.st.new hl) (.tup (SqT.of upd_same) (rl.step (.new hl) wd.st wd.ok))⟩⟩
      | tup h rl => exact ⟨_, _, rfl, .inr ⟨h, PQ.now wd q (.tup h rl)⟩⟩
      | _ => exact q.elim
theorem sem_lstOf : SemL K (fun xs H Q => ∃ p ys, xs = [.ref p] ∧ (SqL K H p ys ∨ SqT K H p ys) ∧ ∀ l, H l = none → Q (.ref l) (upd H l (.lst ys))) lstOfW := fun c d H x v Q E' wd rx q => by
  cases rx with
  | nil => exact q.elim
  | cons r rr =>
    cases rr with
    | cons _ _ => cases r <;> exact q.elim
    | nil =>
      cases r with
      | lst n h rl => exact ⟨_, _, rfl, .inl (SqL.of h), fun l hl => q _ _ (.new hl) (wd.st.new hl) (.lst (wd.fresh hl) upd_same (rl.step (.new hl) wd.st wd.ok))⟩
      | tup h rl => exact ⟨_, _, rfl, .inr h, fun l hl => q _ _ (.new hl) (wd.st.new hl) (.lst (wd.fresh hl) upd_same (rl.step (.new hl) wd.st wd.ok))⟩
      | _ => exact q.elim
def cutW (ws : List W) (lo hi : Option Int) : List W := (ws.drop (HT.sIx ws.length 0 lo)).take (HT.sIx ws.length ws.length hi - HT.sIx ws.length 0 lo)
theorem RepL.cut {c : Cc} {H : Hp} {ws : List W} {vs : List V} (r : RepL K c H ws vs) (lo hi : Option Int) : RepL K c H (cutW ws lo hi) (cutV vs lo hi) := by
  unfold cutW cutV
  rw [r.length]
  exact (r.drop _).take _
def slW (x : W) (lo hi : Option Int) : T W := match x with
  | .tup ws => .ok (.tup (cutW ws lo hi))
  | .lst ws => .ok (.lst (cutW ws lo hi))
  | _ => .bad
def pInt : W → T Int
  | .int i => .ok i
  | _ => .bad
def fSl (fa : En → T W) (fl fh : En → T (Option Int)) : En → T W := fun ρ => (fa ρ).bind fun x => (fl ρ).bind fun l => (fh ρ).bind fun u => slW x l u
def pNo : En → T (Option Int) := fun _ => .ok none
def pSome (f : En → T W) : En → T (Option Int) := fun ρ => (f ρ).bind fun x => (pInt x).bind fun i => .ok (some i)
def PO1 (c : Cc) (H : Hp) (Q : Option Int → Hp → Prop) : Nat → Option Int → Prop := fun d o => ∀ H', Step c H H' → StOk c d H' → Q o H'
theorem PO1.later {c : Cc} {H H1 : Hp} {Q : Option Int → Hp → Prop} {d : Nat} {o : Option Int} (s : Step c H H1) (h : PO1 c H Q d o) : PO1 c H1 Q d o := fun H' st so => h H' (s.trans st) so
def liftO (K : PySem.W.Frag) (E : WX) (f : En → T (Option Int)) : TO := fun σ H Q => ∃ c d oa ρ, EnvOk K c d oa ρ σ H ∧ (f ρ).AllB (PO1 c H Q) (PX K c H fun cls dx H' => E cls dx σ H') d
def TrO (X : Cx) (E : WX) (e : Option Expr) (f : En → T (Option Int)) : Prop := PO X e (liftO X.K E f)
theorem po_imp {X : Cx} {e : Option Expr} {t t' : TO} (h : PO X e t) (i : ∀ σ H Q, t' σ H Q → t σ H Q) : PO X e t' := ⟨fun pins s σ H Q I q => h.run pins s σ H Q I (i σ H Q q)⟩
theorem tro_no {X : Cx} {E : WX} : TrO X E none pNo := po_imp po_none fun σ H Q q => by
  obtain ⟨c, d, oa, ρ, e, q⟩ := q
  exact q H (.refl c H) e.st
theorem tro_some {X : Cx} {E : WX} {e : Expr} {f : En → T W} (h : TrE X E e f) : TrO X E (some e) (pSome f) := po_imp (po_some h) fun σ H Q q => by
  obtain ⟨c, d, oa, ρ, e, q⟩ := q
  refine lift_then (P := fun c H => PO1 c H Q) e q (fun st p => p.later st) fun w v H1 d1 _ r1 e1 h1 => ?_
  cases r1 with
  | int i => exact ⟨i, rfl, h1 H1 (.refl c H1) e1.st⟩
  | _ => exact h1.elim
theorem liftO_then {E : WX} {c : Cc} {d : Nat} {oa : Nat → Addr} {ρ : En} {σ : L2.St} {H : Hp} {β : Type} {fo : En → T (Option Int)} {P : Cc → Hp → Nat → β → Prop} {G : Option Int → T β} {R : Option Int → Hp → Prop} (e : EnvOk K c d oa ρ σ H) (h : ((fo ρ).bind G).AllB (P c H) (PX K c H fun cls dx H' => E cls dx σ H') d)
    (lt : ∀ {H1 d a}, Step c H H1 → P c H d a → P c H1 d a) (go : ∀ b H1 d1, Step c H H1 → EnvOk K c d1 oa ρ σ H1 → (G b).AllB (P c H1) (PX K c H1 fun cls dx H' => E cls dx σ H') d1 → R b H1) : liftO K E fo σ H R := by
  refine ⟨c, d, oa, ρ, e, T.AllB.imp (fun d1 w x => ?_) (fun _ _ _ x => x) (T.allB_bind.mp h)⟩
  intro H1 st so
  exact go w H1 d1 st (e.step st so) (T.AllB.imp (fun _ _ y => lt st y) (fun _ _ _ y => y.later st) x)
theorem cut_all {ws : List W} {lo hi : Option Int} {n : Nat} (hn : ws.length = n) (h : HT.sIx n 0 lo = 0 ∧ HT.sIx n n hi = n) : cutW ws lo hi = ws := by
  unfold cutW
  rw [hn, h.1, h.2]
  simp [← hn]
theorem tr_slice {X : Cx} {E : WX} {e : Expr} {lo hi : Option Expr} {fa : En → T W} {fl fh : En → T (Option Int)} {pos p2 : Pos} (ha : TrE X E e fa) (hl : TrO X E lo fl) (hh : TrO X E hi fh) : TrE X E (.Subscript e (.Slice lo hi none p2) pos) (fSl fa fl fh) :=
  pe_imp (pe_slice (slR_or sl_tupA sl_list) ha hl hh) fun σ H Q q => by
  obtain ⟨c, d, oa, ρ, e, q⟩ := q
  refine lift_then (P := fun c H => PQ X.K c H Q) e q (fun st p => p.later st) fun w v H1 d1 st1 r1 e1 h1 => ?_
  refine liftO_then (P := fun c H => PQ X.K c H Q) e1 h1 (fun st p => p.later st) fun l H2 d2 st2 e2 h2 => ?_
  refine liftO_then (P := fun c H => PQ X.K c H Q) e2 h2 (fun st p => p.later st) fun u H3 d3 st3 e3 h3 => ?_
  have r3 := (r1.step st2 e1.st e1.ok).step st3 e2.st e2.ok
  cases r3 with
  | tup hq rl =>
    refine .inl ⟨_, _, rfl, hq, fun z => ?_, fun z p hp => ?_⟩
    · rw [← rl.length] at z
      have h4 : PQ X.K c H3 Q d3 (.tup (cutW _ l u)) := h3
      rw [cut_all rfl z] at h4
      exact PQ.now e3.wd h4 (.tup hq rl)
    · exact h3 _ _ (.new hp) (e3.st.new hp) (.tup (SqT.of upd_same) ((rl.cut l u).step (.new hp) e3.st e3.ok))
  | lst n hq rl => exact .inr ⟨_, _, rfl, SqL.of hq, fun p hp => h3 _ _ (.new hp) (e3.st.new hp) (.lst (e3.wd.fresh hp) upd_same ((rl.cut l u).step (.new hp) e3.st e3.ok))⟩
  | _ => exact h3.elim
def manyW (k : Nat) (ws : List W) : List W := (List.replicate k ws).flatten
theorem RepL.many {c : Cc} {H : Hp} {ws : List W} {vs : List V} (r : RepL K c H ws vs) : ∀ (k : Nat), RepL K c H (manyW k ws) (List.replicate k vs).flatten
  | 0 => by
    unfold manyW
    simp only [List.replicate_zero, List.flatten_nil]
    exact .nil
  | k + 1 => by
    have := RepL.many r k
    unfold manyW at *
    rw [List.replicate_succ, List.replicate_succ, List.flatten_cons, List.flatten_cons]
    exact r.append this
@[irreducible] def tmulOk (n : Nat) (k : Int) : Bool := decide (0 < n ∧ n ≤ 1000 ∧ 2 ≤ k ∧ k ≤ 1000)
@[irreducible] def lmulOk (n : Nat) (k : Int) : Bool := rngOk k && decide (n * k.toNat ≤ 16777216)
def mulT : W → W → T W
  | .tup ws, .int k => if tmulOk ws.length k then .ok (.tup (manyW k.toNat ws)) else .bad
  | _, _ => .bad
def mul1 : W → W → T W
  | .tup ws, .int 1 => .ok (.tup ws)
  | _, _ => .bad
def mulL : W → W → T W
  | .lst ws, .int k => if lmulOk ws.length k then .ok (.lst (manyW k.toNat ws)) else .bad
  | _, _ => .bad
theorem sem_mulT : Sem2 K (rRepT K) mulT := fun c d H x y v u Q E' wd rx ry q => by
  cases rx with
  | tup hq rl =>
    cases ry with
    | int k =>
      obtain ⟨h, q⟩ := T.AllB.ite q
      unfold tmulOk at h
      obtain ⟨h0, h1, h2, h3⟩ := of_decide_eq_true h
      refine ⟨_, k, _, rfl, rfl, hq, fun z => ?_, h2, h3, by rw [← rl.length]; exact h1, fun p hp => q _ _ (.new hp) (wd.st.new hp) (.tup (SqT.of upd_same) ((rl.many _).step (.new hp) wd.st wd.ok))⟩
      rw [rl.length, z] at h0
      cases h0
    | _ => exact q.elim
  | _ => cases ry <;> exact q.elim
theorem sem_mul1 : Sem2 K (rRep1 K) mul1 := fun c d H x y v u Q E' wd rx ry q => by
  cases rx with
  | tup hq rl =>
    cases ry with
    | int k =>
      unfold mul1 at q
      split at q
      · rename_i e1 e2
        cases e1
        cases e2
        exact ⟨_, _, rfl, rfl, hq, PQ.now wd q (.tup hq rl)⟩
      · exact q.elim
    | _ => exact q.elim
  | _ => cases ry <;> exact q.elim
theorem sem_mulL : Sem2 K rRep mulL := fun c d H x y v u Q E' wd rx ry q => by
  cases rx with
  | lst n hq rl =>
    cases ry with
    | int k =>
      obtain ⟨h, q⟩ := T.AllB.ite q
      unfold lmulOk at h
      obtain ⟨h0, h2⟩ := Bool.and_eq_true_iff.mp h
      obtain ⟨h0, h1⟩ := rngOk_of h0
      have h2 := of_decide_eq_true h2
      exact ⟨_, k, _, rfl, rfl, hq, by omega, by omega, by rw [← rl.length, sizeLine_eq]; exact h2, fun p hp => q _ _ (.new hp) (wd.st.new hp) (.lst (wd.fresh hp) upd_same ((rl.many _).step (.new hp) wd.st wd.ok))⟩
    | _ => exact q.elim
  | _ => cases ry <;> exact q.elim
end
end PF
namespace PF
open PySem PySem.Spec PyProof.Rows L2
abbrev Cc.mine (c : Cc) (D : Addr) : Cc := { c with A := D :: c.A, M := D :: c.M }
abbrev Cc.less (c : Cc) (D : Addr) : Cc := { c with A := c.A.filter (fun b => decide (b ≠ D)), M := c.M.filter (fun b => decide (b ≠ D)) }
section
variable {K : PySem.W.Frag} {c : Cc} {d : Nat} {oa : Nat → Addr} {ρ : En} {σ : L2.St} {H H' : Hp} {D : Addr} {i : Nat}
theorem Rep.mine {w : W} {v : V} (h : Rep K (c.more D) H w v) : Rep K (c.mine D) H w v := Rep.weak (c := c.mine D) (c1 := c.more D) rfl (fun _ h => h) h
theorem RepL.mine {w : List W} {v : List V} (h : RepL K (c.more D) H w v) : RepL K (c.mine D) H w v := RepL.weak (c := c.mine D) (c1 := c.more D) rfl (fun _ h => h) h
theorem st_ne (so : StOk c d H) (n : H D = none) : D ∉ [c.S, c.ca, c.la] := by
  obtain ⟨cells, lefts, k, r, h1, h2, h3, _⟩ := so
  simp only [List.mem_cons, not_or, List.not_mem_nil, not_false_eq_true, and_true]
  exact ⟨Ne.symm (ne_of_none h1 n), Ne.symm (ne_of_none h2 n), Ne.symm (ne_of_none h3 n)⟩
/-- a list of the frame's own is laid -/
theorem EnvOk.mine {xs : List V} (e : EnvOk K c d oa ρ σ H) (n : H D = none) : EnvOk K (c.mine D) d oa ρ σ (L2.upd H D (.lst xs)) where
  ok := ⟨List.mem_cons_of_mem _ e.ok.inS, List.mem_cons_of_mem _ e.ok.inla, List.mem_cons_of_mem _ e.ok.inca⟩
  st := e.st.new n
  av := (e.more n).av
  len := e.len
  val := fun i w h => by
    obtain ⟨v, h1, h2⟩ := e.val i w h
    exact ⟨v, h1, (h2.more n (.new n) e.st e.ok).mine⟩
  m := ⟨fun b hb => by
      rcases List.mem_cons.mp hb with rfl | hb
      · exact List.mem_cons_self ..
      · exact List.mem_cons_of_mem _ (e.m.inA b hb), fun b hb => by
      rcases List.mem_cons.mp hb with rfl | hb
      · exact st_ne e.st n
      · exact e.m.nst b hb, fun b hb => by
      rcases List.mem_cons.mp hb with rfl | hb
      · exact ⟨_, upd_same⟩
      · obtain ⟨ys, h⟩ := e.m.ls b hb
        exact ⟨ys, by rw [upd_ne (ne_of_none h n)]; exact h⟩⟩
  own := fun i ws h => by
    obtain ⟨h1, h3, vs, h4, h5⟩ := e.own i ws h
    exact ⟨List.mem_cons_of_mem _ h1, h3, vs, by rw [upd_ne (ne_of_none h4 n)]; exact h4, (h5.more n (.new n) e.st e.ok).mine⟩
  inj := e.inj
theorem Fwd.mine {o : HO} (n : H D = none) (wd : Wd c d H) : Fwd K c H (c.mine D) (L2.upd H D o) where
  S := rfl
  ca := rfl
  la := rfl
  sub := fun b h _ => List.mem_cons_of_mem _ h
  fr := fun b h => by
    rcases List.mem_cons.mp h with rfl | h
    · have h0 := st_ne wd.st n
      simp only [List.mem_cons, not_or] at h0
      exact .inr ⟨wd.fresh n, h0.1, h0.2.2.1, n⟩
    · exact .inl h
  step := fun b o h _ _ _ => by
    rw [upd_ne (ne_of_none h n)]
    exact h
  rep := fun w v r => (r.more n (.new n) wd.st wd.ok).mine
  sq := fun a vs h => (Step.new (c := c) n).sqT wd.st h
/-- a slot takes a list of the frame's own -/
theorem EnvOk.ownSet {ws : List W} {vs : List V} (e : EnvOk K c d oa ρ σ H) (hm : D ∈ c.M) (hl : H D = some (.lst vs)) (rl : RepL K c H ws vs) (ho : ∀ (j : Nat) (us : List W), j ≠ i → ρ[j]? = some (.own us) → oa j ≠ D) :
    EnvOk K c d (fun j => if j = i then D else oa j) (ρ.set i (.own ws)) (σ.set i (some (.ref D))) H where
  ok := e.ok
  st := e.st
  av := e.av
  m := e.m
  len := by rw [List.length_set, List.length_set]; exact e.len
  val := fun j x h => by
    rcases getElem?_set_or h with ⟨ej, ex⟩ | ⟨n, h'⟩
    · cases ex
    · obtain ⟨u, h1, h2⟩ := e.val j x h'
      exact ⟨u, by rw [List.getElem?_set_ne (Ne.symm n)]; exact h1, h2⟩
  own := fun j x h => by
    rcases getElem?_set_or h with ⟨ej, ex⟩ | ⟨n, h'⟩
    · cases ex
      subst ej
      have hj : j < σ.length := by
        by_cases hl : j < ρ.length
        · rw [← e.len]
          exact hl
        · rw [List.getElem?_eq_none (by simpa using hl)] at h
          cases h
      rw [if_pos rfl]
      exact ⟨hm, by rw [List.getElem?_set_self hj], vs, hl, rl⟩
    · obtain ⟨h1, h3, h4⟩ := e.own j x h'
      rw [if_neg n]
      exact ⟨h1, by rw [List.getElem?_set_ne (Ne.symm n)]; exact h3, h4⟩
  inj := fun a b x y h1 h2 he => by
    rcases getElem?_set_or h1 with ⟨ea, _⟩ | ⟨na, h1'⟩
    · rcases getElem?_set_or h2 with ⟨eb, _⟩ | ⟨nb, h2'⟩
      · rw [ea, eb]
      · rw [ea, if_pos rfl, if_neg nb] at he
        exact absurd he.symm (ho b y nb h2')
    · rcases getElem?_set_or h2 with ⟨eb, _⟩ | ⟨nb, h2'⟩
      · rw [eb, if_pos rfl, if_neg na] at he
        exact absurd he (ho a x na h1')
      · rw [if_neg na, if_neg nb] at he
        exact e.inj a b x y h1' h2' he
theorem EnvOk.ownNe {a : Addr} (e : EnvOk K c d oa ρ σ H) (n : H a = none) : ∀ (j : Nat) (us : List W), j ≠ i → ρ[j]? = some (.own us) → oa j ≠ a := fun j us _ h => by
  obtain ⟨_, _, zs, h4, _⟩ := e.own j us h
  exact ne_of_none h4 n
/-- one of them is changed -/
theorem EnvOk.ownUpd {ws us : List W} {ys : List V} (e : EnvOk K c d oa ρ σ H) (h : ρ[i]? = some (.own ws)) (rl : RepL K c H us ys) :
    EnvOk K c d oa (ρ.set i (.own us)) σ (L2.upd H (oa i) (.lst ys)) ∧ Fwd K c H c (L2.upd H (oa i) (.lst ys)) := by
  obtain ⟨h1, h3, vs, h4, h5⟩ := e.own i ws h
  have hA := e.m.inA _ h1
  have hn := e.m.nst _ h1
  have up : ∀ {w : W} {v : V}, Rep K c H w v → Rep K c (L2.upd H (oa i) (.lst ys)) w v := fun r => r.upd hA h4 (fun _ z => by cases z) (fun _ _ z => by cases z)
  have upl : ∀ {w : List W} {v : List V}, RepL K c H w v → RepL K c (L2.upd H (oa i) (.lst ys)) w v := fun r => r.upd hA h4 (fun _ z => by cases z) (fun _ _ z => by cases z)
  refine ⟨?_, rfl, rfl, rfl, fun b hb _ => hb, fun b hb => .inl hb, fun b o hb _ _ nm => ?_, fun w v r => up r, fun a vs h => sqT_upd h4 (fun _ z => by cases z) (fun _ _ z => by cases z) h⟩
  · exact {
      ok := e.ok
      st := e.st.upd hn
      av := fun b hb => by
        by_cases hb' : b = oa i
        · rw [hb']
          exact ⟨_, upd_same⟩
        · obtain ⟨o, h⟩ := e.av b hb
          exact ⟨o, by rw [upd_ne hb']; exact h⟩
      m := ⟨e.m.inA, e.m.nst, fun b hb => by
        by_cases hb' : b = oa i
        · rw [hb']
          exact ⟨_, upd_same⟩
        · obtain ⟨xs, h⟩ := e.m.ls b hb
          exact ⟨xs, by rw [upd_ne hb']; exact h⟩⟩
      len := by rw [List.length_set]; exact e.len
      val := fun j x hx => by
        rcases getElem?_set_or hx with ⟨ej, ex⟩ | ⟨n, h'⟩
        · cases ex
        · obtain ⟨u, g1, g2⟩ := e.val j x h'
          exact ⟨u, g1, up g2⟩
      own := fun j x hx => by
        rcases getElem?_set_or hx with ⟨ej, ex⟩ | ⟨n, h'⟩
        · cases ex
          subst ej
          exact ⟨h1, h3, ys, upd_same, upl rl⟩
        · obtain ⟨g1, g3, zs, g4, g5⟩ := e.own j x h'
          exact ⟨g1, g3, zs, by rw [upd_ne (fun z => n (e.inj j i x ws h' h z))]; exact g4, upl g5⟩
      inj := fun a b x y g1 g2 he => by
        have f : ∀ {a : Nat} {x : List W}, (ρ.set i (.own us))[a]? = some (.own x) → ∃ x', ρ[a]? = some (.own x') := fun g => by
          rcases getElem?_set_or g with ⟨ea, _⟩ | ⟨_, g'⟩
          · exact ⟨ws, by rw [ea]; exact h⟩
          · exact ⟨_, g'⟩
        obtain ⟨x', f1⟩ := f g1
        obtain ⟨y', f2⟩ := f g2
        exact e.inj a b x' y' f1 f2 he }
  · rw [upd_ne (fun z => nm (by rw [z]; exact h1))]
    exact hb
/-- one of them becomes plain data -/
theorem Fwd.less (m : MOk c H) (hm : D ∈ c.M) : Fwd K c H (c.less D) H where
  S := rfl
  ca := rfl
  la := rfl
  sub := fun b h n => List.mem_filter.mpr ⟨h, decide_eq_true (fun z => n (by rw [z]; exact hm))⟩
  fr := fun b h => .inl (List.mem_filter.mp h).1
  step := fun b o h _ _ _ => h
  rep := fun w v r => Rep.weak (c := c.less D) (c1 := c) rfl (fun b hb => (List.mem_filter.mp hb).1) r
  sq := fun a vs h => h
def frz (i : Nat) (ρ : En) : En := match ρ[i]? with
  | some (.own ws) => ρ.set i (.val (.lst ws))
  | _ => ρ
theorem EnvOk.frz (e : EnvOk K c d oa ρ σ H) (i : Nat) : ∃ c', EnvOk K c' d oa (frz i ρ) σ H ∧ Fwd K c H c' H ∧ c'.S = c.S ∧ c'.ca = c.ca ∧ c'.la = c.la := by
  unfold PF.frz
  split
  · rename_i ws h
    obtain ⟨h1, h3, vs, h4, h5⟩ := e.own i ws h
    have hn := e.m.nst _ h1
    simp only [List.mem_cons, not_or] at hn
    have wk : ∀ {w : W} {v : V}, Rep K c H w v → Rep K (c.less (oa i)) H w v := fun r => Rep.weak (c := c.less (oa i)) (c1 := c) rfl (fun b hb => (List.mem_filter.mp hb).1) r
    have wkl : ∀ {w : List W} {v : List V}, RepL K c H w v → RepL K (c.less (oa i)) H w v := fun r => RepL.weak (c := c.less (oa i)) (c1 := c) rfl (fun b hb => (List.mem_filter.mp hb).1) r
    refine ⟨c.less (oa i), ?_, Fwd.less e.m h1, rfl, rfl, rfl⟩
    exact {
      ok := ⟨List.mem_filter.mpr ⟨e.ok.inS, decide_eq_true (Ne.symm hn.1)⟩, List.mem_filter.mpr ⟨e.ok.inla, decide_eq_true (Ne.symm hn.2.2.1)⟩, List.mem_filter.mpr ⟨e.ok.inca, decide_eq_true (Ne.symm hn.2.1)⟩⟩
      st := e.st
      av := fun b hb => e.av b (List.mem_filter.mp hb).1
      m := ⟨fun b hb => List.mem_filter.mpr ⟨e.m.inA b (List.mem_filter.mp hb).1, (List.mem_filter.mp hb).2⟩, fun b hb => e.m.nst b (List.mem_filter.mp hb).1, fun b hb => e.m.ls b (List.mem_filter.mp hb).1⟩
      len := by rw [List.length_set]; exact e.len
      val := fun j x hx => by
        rcases getElem?_set_or hx with ⟨ej, ex⟩ | ⟨n, h'⟩
        · cases ex
          subst ej
          exact ⟨_, h3, .lst (fun z => of_decide_eq_true (List.mem_filter.mp z).2 rfl) h4 (wkl h5)⟩
        · obtain ⟨u, g1, g2⟩ := e.val j x h'
          exact ⟨u, g1, wk g2⟩
      own := fun j x hx => by
        rcases getElem?_set_or hx with ⟨ej, ex⟩ | ⟨n, h'⟩
        · cases ex
        · obtain ⟨g1, g3, zs, g4, g5⟩ := e.own j x h'
          exact ⟨List.mem_filter.mpr ⟨g1, decide_eq_true fun z => n (e.inj j i x ws h' h z)⟩, g3, zs, g4, wkl g5⟩
      inj := fun a b x y g1 g2 he => by
        rcases getElem?_set_or g1 with ⟨_, ex⟩ | ⟨_, g1'⟩
        · cases ex
        · rcases getElem?_set_or g2 with ⟨_, ex⟩ | ⟨_, g2'⟩
          · cases ex
          · exact e.inj a b x y g1' g2' he }
  · exact ⟨c, e, .refl, rfl, rfl, rfl⟩
end
def sOwn (i : Nat) (fs : En → T (List W)) : En → T (Fl × En) := fun ρ => (fs ρ).bind fun ws => if sizeOk ws then .ok (.nx, ρ.set i (.own ws)) else .bad
def seqW : W → T (List W)
  | .lst ws => .ok ws
  | .tup ws => .ok ws
  | _ => .bad
def sOwnOf (i : Nat) (f : En → T W) : En → T (Fl × En) := fun ρ => (f ρ).bind fun w => (seqW w).bind fun ws => .ok (.nx, ρ.set i (.own ws))
def sOwnPar (i j : Nat) (fs : En → T (List W)) : En → T (Fl × En) := fun ρ => (fs ρ).bind fun ws => match ws with
  | [w] => .ok (.nx, (ρ.set i (.own [])).set j (.val w))
  | _ => .bad
@[irreducible] def roomOk (ws : List W) : Bool := decide (ws.length < 16777216)
def sApp (i : Nat) (f : En → T (List W)) : En → T (Fl × En) := fun ρ => match ρ[i]? with
  | some (.own ws) => (f ρ).bind fun xs => match xs with
    | [w] => if roomOk ws then .ok (.nx, ρ.set i (.own (ws ++ [w]))) else .bad
    | _ => .bad
  | _ => .bad
def sExt (i : Nat) (f : En → T (List W)) : En → T (Fl × En) := fun ρ => match ρ[i]? with
  | some (.own ws) => (f ρ).bind fun xs => match xs with
    | [.lst us] => if sizeOk (ws ++ us) then .ok (.nx, ρ.set i (.own (ws ++ us))) else .bad
    | _ => .bad
  | _ => .bad
def onFrz {α : Type} (i : Nat) (g : En → T α) : En → T α := fun ρ => g (frz i ρ)
section
variable {X : Cx} {E : XK} {st : Stmt} {e : Expr} {es : List Expr} {g : En → T (Fl × En)} {f : En → T W} {fs : En → T (List W)} {pos pos' p2 : Pos}
theorem tr_frz (i : Nat) (h : TrS X E st g) : TrS X E st (onFrz i g) := ps_imp h fun D σ H q => by
  obtain ⟨c, d, oa, ρ, e, q⟩ := q
  obtain ⟨c', e', fw, _⟩ := e.frz i
  exact ⟨c', d, oa, _, e', T.AllB.imp (fun _ _ y => y.later fw) (fun _ _ _ y => y.fwd fw) q⟩
theorem PB.of {c c' : Cc} {H : Hp} {Q : Bool → Hp → Prop} {d : Nat} {b : Bool} (hS : c'.S = c.S) (hc : c'.ca = c.ca) (hl : c'.la = c.la) (h : PB c H Q d b) : PB c' H Q d b := fun H' st so => h H' (fun b o hb h1 h2 => st b o hb (by rw [hS]; exact h1) (by rw [hl]; exact h2)) (by
    obtain ⟨cells, lefts, k, r, g1, g2⟩ := so
    rw [hS, hc, hl] at g1
    rw [hc, hl] at g2
    exact ⟨cells, lefts, k, r, g1, g2⟩)
theorem trb_frz {E : WX} {t : En → T Bool} (i : Nat) (h : TrB X E e t) : TrB X E e (onFrz i t) := pt_imp h fun σ H Q q => by
  obtain ⟨c, d, oa, ρ, e, q⟩ := q
  obtain ⟨c', e', fw, h1, h2, h3⟩ := e.frz i
  exact ⟨c', d, oa, _, e', T.AllB.imp (fun _ _ y => PB.of h1 h2 h3 y) (fun _ _ _ _ _ _ _ _ _ r => r.elim) q⟩
def flat : W → T W
  | .non => .ok .non
  | .bl b => .ok (.bl b)
  | .int i => .ok (.int i)
  | .str x => .ok (.str x)
  | _ => .bad
theorem tre_frz {E : WX} (i : Nat) (h : TrE X E e f) : TrE X E e (fun ρ => (onFrz i f ρ).bind flat) := pe_imp h fun σ H Q q => by
  obtain ⟨c, d, oa, ρ, e, q⟩ := q
  obtain ⟨c', e', fw, h1, h2, h3⟩ := e.frz i
  refine ⟨c', d, oa, _, e', T.AllB.imp (fun d1 w y => ?_) (fun _ _ _ _ _ _ _ _ _ r => r.elim) (T.allB_bind.mp q)⟩
  intro v H' st so r
  have st' : Step c H H' := fun b o hb g1 g2 => st b o hb (by rw [h1]; exact g1) (by rw [h3]; exact g2)
  have so' : StOk c d1 H' := by
    obtain ⟨cells, lefts, k, r, g1, g2⟩ := so
    rw [h1, h2, h3] at g1
    rw [h2, h3] at g2
    exact ⟨cells, lefts, k, r, g1, g2⟩
  cases r with
  | non => exact y _ H' st' so' .non
  | bl b => exact y _ H' st' so' (.bl b)
  | int k => exact y _ H' st' so' (.int k)
  | str x => exact y _ H' st' so' (.str x)
  | _ => exact y.elim
theorem tr_own {i : Nat} {x : Str} (hN : X.N.Nodup) (hi : X.N[i]? = some x) (hx : L2.Loc X.env.scope x) (he : TrA X (wOf E) es fs) (hs : swapsWith (.List es p2) (some (.Name x pos')) pos.line X.env = pure false := by rfl)
    (hf : X.fn x = true ∨ X.env.scope.names.lookup x = some .local := by first | exact .inl rfl | exact .inr rfl | assumption) : TrS X E (.Assign [.Name x pos'] (.List es p2) pos) (sOwn i fs) := ps_imp (ps_set hN hi hx (pe_lst he) hs hf) fun D σ H q => by
  obtain ⟨c, d, oa, ρ, e, q⟩ := q
  refine liftA_then (P := fun c H => PSq X.K c H D) e q (fun st p => p.later (.of st e.wd)) fun ws vs H1 d1 _ r1 e1 h1 => ?_
  obtain ⟨hz, h1⟩ := T.AllB.ite h1
  refine ⟨by rw [← r1.length]; exact sizeOk_of hz, fun p hp => ?_⟩
  exact h1 _ _ _ _ (Fwd.mine hp e1.wd) ((e1.mine hp).ownSet (List.mem_cons_self ..) upd_same ((r1.more hp (.new hp) e1.st e1.ok).mine) (EnvOk.ownNe e1 hp))
theorem tr_ownPar {i j : Nat} (ne : i ≠ j) (hp : PS X st (tPar i j (tCons (tLst tNil) (liftA X.K (wOf E) fs)))) : TrS X E st (sOwnPar i j fs) := ps_imp hp fun D σ H q => by
  obtain ⟨c, d, oa, ρ, e, q⟩ := q
  refine ⟨by rw [sizeLine_eq]; decide, fun p hp => ?_⟩
  have e0 := e.mine (xs := []) hp
  have q0 : (sOwnPar i j fs ρ).AllB (PSq X.K (c.mine p) (L2.upd H p (.lst [])) D) (PX X.K (c.mine p) (L2.upd H p (.lst [])) E) d := T.AllB.imp (fun _ _ y => y.later (Fwd.mine hp e.wd)) (fun _ _ _ y => y.fwd (Fwd.mine hp e.wd)) q
  refine liftA_then (P := fun c H => PSq X.K c H D) e0 q0 (fun st p => p.later (.of st e0.wd)) fun ws vs H1 d1 st1 r1 e1 h1 => ?_
  cases r1 with
  | nil => exact h1.elim
  | cons r rr =>
    cases rr with
    | cons _ _ => exact h1.elim
    | nil =>
      have hq : H1 p = some (.lst []) := st1 p _ upd_same (fun z => by have := st_ne e.st hp; simp only [List.mem_cons, not_or] at this; exact this.1 z) (fun z => by have := st_ne e.st hp; simp only [List.mem_cons, not_or] at this; exact this.2.2.1 z)
      refine ⟨_, _, rfl, h1 _ _ _ H1 .refl ((e1.ownSet (D := p) (i := i) (List.mem_cons_self ..) hq .nil (EnvOk.ownNe e hp)).set r)⟩
theorem tr_app {i : Nat} {apos cpos : Pos} (ho : PE X e (tVar i)) (ha : TrA X (wOf E) [a] fs) (hb : attributeBase e "append" X.env (eval e X.env) = eval e X.env := by rfl)
    (h1 : (((backTo cpos (starEach [a] X.env)).all fun x => !x.1) && ((backToKw cpos (keywordEach [] X.env)).all fun x => x.1.isSome) && decide (([a].length + ([] : List Keyword).length + if ([] : List Keyword).isEmpty = true then 0 else 1) < 30)) = true := by rfl) (h2 : (apos.endLine == cpos.line) = true := by rfl)
    (h3 : starEach [a] X.env = (false, eval a X.env) :: starEach [] X.env := by rfl) (h4 : ((backTo cpos (starEach [] X.env)).any fun x => x.1) = false := by rfl)
    (hs : swapsWith (.Call (.Attribute e "append" apos) [a] [] cpos) none pos.line X.env = pure false := by rfl) :
    TrS X E (.Expr (.Call (.Attribute e "append" apos) [a] [] cpos) pos) (sApp i fs) := ps_imp (ps_expr (pe_bm PySem.F.plainAttrs_list PySem.F.slot_list_append PySem.F.type_list_append mt_append ho ha hb h1 h2 h3 h4) hs) fun D σ H q => by
  obtain ⟨c, d, oa, ρ, e, q⟩ := q
  unfold sApp at q
  split at q
  · rename_i ws hw
    obtain ⟨m1, m2, vs, m3, m4⟩ := e.own i ws hw
    refine ⟨_, m2, .inl ⟨rfl, _, SqL.of m3⟩, liftA_then (P := fun c H => PSq X.K c H D) e q (fun st p => p.later (.of st e.wd)) fun us zs H1 d1 st1 r1 e1 h1 => ?_⟩
    cases r1 with
    | nil => exact h1.elim
    | cons r rr =>
      cases rr with
      | cons _ _ => exact h1.elim
      | nil =>
        obtain ⟨hz, h1⟩ := T.AllB.ite h1
        obtain ⟨m1', m2', vs', m3', m4'⟩ := e1.own i ws hw
        obtain ⟨e2, fw2⟩ := e1.ownUpd hw (m4'.append (.cons r .nil))
        unfold roomOk at hz
        exact ⟨_, _, _, rfl, rfl, m3', by rw [← m4'.length, sizeLine_eq]; exact of_decide_eq_true hz, h1 _ _ _ _ fw2 e2⟩
  · exact q.elim
theorem tr_ext {i : Nat} {apos cpos : Pos} (ho : PE X e (tVar i)) (ha : TrA X (wOf E) [a] fs) (hb : attributeBase e "extend" X.env (eval e X.env) = eval e X.env := by rfl)
    (h1 : (((backTo cpos (starEach [a] X.env)).all fun x => !x.1) && ((backToKw cpos (keywordEach [] X.env)).all fun x => x.1.isSome) && decide (([a].length + ([] : List Keyword).length + if ([] : List Keyword).isEmpty = true then 0 else 1) < 30)) = true := by rfl) (h2 : (apos.endLine == cpos.line) = true := by rfl)
    (h3 : starEach [a] X.env = (false, eval a X.env) :: starEach [] X.env := by rfl) (h4 : ((backTo cpos (starEach [] X.env)).any fun x => x.1) = false := by rfl)
    (hs : swapsWith (.Call (.Attribute e "extend" apos) [a] [] cpos) none pos.line X.env = pure false := by rfl) :
    TrS X E (.Expr (.Call (.Attribute e "extend" apos) [a] [] cpos) pos) (sExt i fs) := ps_imp (ps_expr (pe_bm PySem.F.plainAttrs_list PySem.F.slot_list_extend PySem.F.type_list_extend mt_extend ho ha hb h1 h2 h3 h4) hs) fun D σ H q => by
  obtain ⟨c, d, oa, ρ, e, q⟩ := q
  unfold sExt at q
  split at q
  · rename_i ws hw
    obtain ⟨m1, m2, vs, m3, m4⟩ := e.own i ws hw
    refine ⟨_, m2, .inl ⟨rfl, _, SqL.of m3⟩, liftA_then (P := fun c H => PSq X.K c H D) e q (fun st p => p.later (.of st e.wd)) fun us zs H1 d1 st1 r1 e1 h1 => ?_⟩
    cases r1 with
    | nil => exact h1.elim
    | cons r rr =>
      cases rr with
      | cons _ _ => cases r <;> exact h1.elim
      | nil =>
        cases r with
        | lst n hq rl =>
          obtain ⟨hz, h1⟩ := T.AllB.ite h1
          obtain ⟨m1', m2', vs', m3', m4'⟩ := e1.own i ws hw
          obtain ⟨e2, fw2⟩ := e1.ownUpd hw (m4'.append rl)
          have := sizeOk_of hz
          rw [List.length_append, m4'.length, rl.length] at this
          exact ⟨_, _, _, _, rfl, rfl, m3', hq, this, h1 _ _ _ _ fw2 e2⟩
        | _ => exact h1.elim
  · exact q.elim
end
section
variable {X : Cx} {E : WX} {a b cc : Expr} {fa fb fc : En → T W} {g g' : W → W → T W} {r r' : R2} {pos : Pos}
theorem chain_ok (hs : Sem2 X.K r g) (hs' : Sem2 X.K r' g') : ∀ σ H Q, liftE X.K E (fCh g g' fa fb fc) σ H Q → tChain r r' (liftE X.K E fa) (liftE X.K E fb) (liftE X.K E fc) σ H Q := fun σ H Q h => by
  obtain ⟨c, d, oa, ρ, e, h⟩ := h
  refine lift_then (P := fun c H => PQ X.K c H Q) e h (fun st p => p.later st) fun w v H1 d1 _ r1 e1 h1 => ?_
  refine lift_then (P := fun c H => PQ X.K c H Q) e1 h1 (fun st p => p.later st) fun w2 v2 H2 d2 st2 r2 e2 h2 => ?_
  refine hs c d2 H2 w w2 v v2 _ _ e2.wd (r1.step st2 e1.st e1.ok) r2 (T.AllB.imp (fun d3 z hz => ?_) (fun _ _ _ y => y) (T.allB_bind.mp h2))
  intro vz H3 st3 so3 rz
  have e3 := e2.step st3 so3
  cases z with
  | bl k =>
    cases rz
    refine ⟨k, rfl, ?_⟩
    cases k with
    | false => exact iteF (PQ.now e3.wd (PQ.later st3 hz) (.bl false))
    | true =>
      refine iteT (lift_then (P := fun c H => PQ X.K c H Q) e3 (T.AllB.imp (fun _ _ y => y.later st3) (fun _ _ _ y => y.later st3) hz) (fun st p => p.later st) fun w4 v4 H4 d4 st4 r4 e4 h4 => ?_)
      exact hs' c d4 H4 w2 w4 v2 v4 Q _ e4.wd ((r2.step st3 e2.st e2.ok).step st4 e3.st e3.ok) r4 h4
  | _ => exact hz.elim
theorem trb_chain {op op' : CmpOp} (ho : OpR X (compareOp op) r) (ho' : OpR X (compareOp op') r') (hs : Sem2 X.K r g) (hs' : Sem2 X.K r' g') (ha : TrE X E a fa) (hb : TrE X E b fb) (hc : TrE X E cc fc)
    (hm : lastMarks [op, op'] [b, cc] = false := by with_unfolding_all rfl) : TrB X E (.Compare a [op, op'] [b, cc] pos) (fBl (fCh g g' fa fb fc)) := trb_of (pt_chain ho ho' ha hb hc hm) (chain_ok hs hs')
end
def mulTA (x y : W) : T W := match y with
  | .int 1 => mul1 x (.int 1)
  | .int k => mulT x (.int k)
  | _ => .bad
theorem sem_mulTA {K : PySem.W.Frag} : Sem2 K (fun x y H Q => rRep1 K x y H Q ∨ rRepT K x y H Q) mulTA := sem_or1 sem_mul1 sem_mulT fun x y => by
  unfold mulTA
  split
  · exact .inl rfl
  · exact .inr rfl
  · rename_i h1 h2
    right
    cases x <;> cases y <;> first | rfl | exact absurd rfl (h2 _)
theorem op_mulTA {X : Cx} : OpR X (binaryOp .Mult) (fun x y H Q => rRep1 X.K x y H Q ∨ rRepT X.K x y H Q) := opR_or op_rep1 op_repT
section
variable {X : Cx} {E : XK} {elt tg iter : Expr} {ifs : List Expr} {scope : Scope} {own : List (Str × Nat)} {pos spos py : Pos} {fi : En → T (List W)} {ns : List Nat} {G : W → En → Option En} {tt : En → T Bool} {fe : En → T W}
theorem tr_setLc {i : Nat} {y : Str} (hc : X.calm = true) (hN : X.N.Nodup) (hy : X.N[i]? = some y) (hyl : X.env.scope.names.lookup y = some .local) (hsw : swapsWith (.ListComp elt [⟨tg, iter, ifs, 0⟩] scope pos) (some (.Name y py)) spos.line X.env = pure true)
    (hi : TrI X (wOf E) tg iter fi) (ok : BlkOk X.N X.env.scope scope own) (hs : ∀ i ∈ ns, i ∈ own.map (·.2))
    (hg : ∀ (s : Shared) (H : Hp) (C : Addr) (cl : List (Str × Addr)) (fp : List Addr), TrG (X.blk s H scope (compEnvC scope cl C X.env) fp) tg ns G) (ht : ∀ (s : Shared) (H : Hp) (C : Addr) (cl : List (Str × Addr)) (fp : List Addr), TrTs (X.blk s H scope (compEnvC scope cl C X.env) fp) ifs tt)
    (he : ∀ (s : Shared) (H : Hp) (C : Addr) (cl : List (Str × Addr)) (fp : List Addr), TrE (X.blk s H scope (compEnvC scope cl C X.env) fp) noW elt fe) (hf : ∀ x, foldedSetIterable iter X.env x = pure x := by intro _; rfl) :
    TrS X E (.Assign [.Name y py] (.ListComp elt [⟨tg, iter, ifs, 0⟩] scope pos) spos) (sSet i (fComp (own.map (·.2)) fi G tt fe)) := ps_imp (ps_setLc (g := liftG X.K ns G) (tt := liftB X.K noW tt) (te := liftE X.K noW fe) hc hN hy hyl hsw hi ok hg ht he hf) fun D σ H q => by
  obtain ⟨c, d, oa, ρ, e, q⟩ := q
  refine comp_ok (E := wOf E) hs σ H _ (lift_then (P := fun c H => PSq X.K c H D) e q (fun st p => p.later (.of st e.wd)) fun w v H1 d1 _ r1 e1 h1 => ?_)
  exact h1 c oa _ H1 .refl (e1.set r1)
end
@[simp] theorem sumW_lst (ns : List Int) : sumW [.lst (ns.map W.int)] = .ok (.int ns.sum) := by simp [sumW]
@[simp] theorem sumW_tup (ns : List Int) : sumW [.tup (ns.map W.int)] = .ok (.int ns.sum) := by simp [sumW]
@[simp] theorem tupOfW_lst (ws : List W) : tupOfW [.lst ws] = .ok (.tup ws) := rfl
@[simp] theorem tupOfW_tup (ws : List W) : tupOfW [.tup ws] = .ok (.tup ws) := rfl
@[simp] theorem lstOfW_lst (ws : List W) : lstOfW [.lst ws] = .ok (.lst ws) := rfl
@[simp] theorem lstOfW_tup (ws : List W) : lstOfW [.tup ws] = .ok (.lst ws) := rfl
@[simp] theorem max2_int (i j : Int) : maxW [.int i, .int j] = .ok (.int (if j > i then j else i)) := rfl
@[simp] theorem min2_int (i j : Int) : minW [.int i, .int j] = .ok (.int (if j < i then j else i)) := rfl
end PF
namespace PF
open PySem PySem.Spec PyProof.Rows L2
theorem ask_all {α : Type} {P : Nat → α → Prop} {E : Nat → Nat → List W → Prop} {n d : Nat} {k : Nat → T α} (h : 0 < d) (g : ∀ i, i < n → (k i).AllB P E (d - 1)) : (T.ask n k).AllB P E d := ⟨d - 1, by omega, g⟩
theorem draw_run {n : Int} {b : Nat} (h : 0 < n) (hb : n.natAbs < 2 ^ b) (h0 : 0 < b) (h9 : b ≤ 9000) : F__law_draw [.stt, .int n] = .ask n.toNat fun i => .ok (.int i) := by
  simp [F__law_draw, manyOk_is h hb h0 h9]
/-- a draw of n, n small -/
theorem draw_is {n : Int} (h : 0 < n) (hb : n < 2 ^ 60) : F__law_draw [.stt, .int n] = .ask n.toNat fun i => .ok (.int i) := draw_run (b := 60) h (by omega) (by decide) (by decide)
@[simp] theorem sFor_eq (fi : En → T (List W)) (G : W → En → Option En) (gb : En → T (Fl × En)) (ρ : En) : sFor fi G gb ρ = (fi ρ).bind fun ws => forL G gb ws ρ := rfl
theorem rng1_is {n : Int} (h0 : 0 ≤ n) (h1 : n ≤ 2 ^ 60) : rng1 [.int n] = .ok (intsFrom 0 n.toNat) := by
  unfold rng1
  exact if_pos (rngOk_is (by omega) h1)
theorem rng2_is {a b : Int} (h0 : -(2 ^ 60) ≤ a ∧ a ≤ 2 ^ 60) (h1 : -(2 ^ 60) ≤ b ∧ b ≤ 2 ^ 60) : rng2 [.int a, .int b] = .ok (intsFrom a (b - a).toNat) := by
  unfold rng2
  exact if_pos (by rw [rngOk_is h0.1 h0.2, rngOk_is h1.1 h1.2]; rfl)
theorem ints_len : ∀ (n : Nat) (lo : Int), (intsFrom lo n).length = n
  | 0, lo => rfl
  | n + 1, lo => by simp [intsFrom, ints_len n]
theorem forL_all {G : W → En → Option En} {gb : En → T (Fl × En)} {E : Nat → Nat → List W → Prop} (I : List W → Nat → En → Prop) (step : ∀ w ws d ρ, I (w :: ws) d ρ → ∃ ρ1, G w ρ = some ρ1 ∧ (gb ρ1).AllB (fun d x => ∃ ρ2, x = (.nx, ρ2) ∧ I ws d ρ2) E d) :
    ∀ (ws : List W) (d : Nat) (ρ : En), I ws d ρ → (forL G gb ws ρ).AllB (fun d x => ∃ ρ2, x = (.nx, ρ2) ∧ I [] d ρ2) E d
  | [], d, ρ, h => ⟨ρ, rfl, h⟩
  | w :: ws, d, ρ, h => by
    obtain ⟨ρ1, e, s⟩ := step w ws d ρ h
    unfold forL
    rw [e]
    refine T.allB_bind.mpr (T.AllB.imp (fun d1 x hx => ?_) (fun _ _ _ y => y) s)
    obtain ⟨ρ2, rfl, h2⟩ := hx
    exact forL_all I step ws d1 ρ2 h2
theorem noX_ok {α : Type} (a : α) : noX (T.ok a) = .ok a := rfl
@[simp] theorem noX_ok' {α : Type} (a : α) : noX (T.ok a) = .ok a := rfl
@[simp] theorem noX_ask {α : Type} (n : Nat) (k : Nat → T α) : noX (T.ask n k) = .ask n fun i => noX (k i) := rfl
/-- a comprehension whose turns say f -/
theorem compL_map {G : W → En → Option En} {tt : En → T Bool} {fe : En → T W} {ρ : En} {α : Type} (m f : α → W) : ∀ (as : List α), (∀ a ∈ as, ∃ ρ1, G (m a) ρ = some ρ1 ∧ tt ρ1 = .ok true ∧ fe ρ1 = .ok (f a)) → compL G tt fe ρ (as.map m) = .ok (as.map f)
  | [], _ => rfl
  | a :: as, h => by
    obtain ⟨ρ1, h1, h2, h3⟩ := h a (List.mem_cons_self ..)
    have ih := compL_map m f as fun b hb => h b (List.mem_cons_of_mem _ hb)
    simp only [List.map_cons, compL, h1, h2, h3, noX_ok, T.bind_ok, if_true, ih]
/-- one over enumerate -/
theorem compL_enum {G : W → En → Option En} {tt : En → T Bool} {fe : En → T W} {ρ : En} {α : Type} (m : α → W) (f : Int → α → W) : ∀ (as : List α) (k : Int), (∀ (i : Nat) a, as[i]? = some a → ∃ ρ1, G (.tup [.int (k + i), m a]) ρ = some ρ1 ∧ tt ρ1 = .ok true ∧ fe ρ1 = .ok (f (k + i) a)) → compL G tt fe ρ (enumF k (as.map m)) = .ok (as.mapIdx fun i a => f (k + i) a)
  | [], k, _ => rfl
  | a :: as, k, h => by
    obtain ⟨ρ1, h1, h2, h3⟩ := h 0 a rfl
    have ih := compL_enum m f as (k + 1) fun i b hb => by
      have := h (i + 1) b (by simpa using hb)
      have e : k + ((i + 1 : Nat) : Int) = k + 1 + (i : Int) := by omega
      rw [e] at this
      exact this
    have e1 : k + ((0 : Nat) : Int) = k := by simp
    simp only [e1] at h1 h3
    simp only [List.map_cons, enumF, compL, h1, h2, h3, noX_ok, T.bind_ok, if_true, ih, List.mapIdx_cons, e1]
    congr 2
    apply List.ext_getElem?
    intro i
    simp only [List.getElem?_mapIdx]
    have e : k + 1 + (i : Int) = k + ((i + 1 : Nat) : Int) := by omega
    rw [e]
@[simp] theorem blsW_of : ∀ (bs : List Bool), blsW (bs.map W.bl) = some bs
  | [] => rfl
  | b :: bs => by simp [blsW, blsW_of bs]
@[simp] theorem allW_of (bs : List Bool) : allW [.lst (bs.map W.bl)] = .ok (.bl (bs.all id)) := by simp [allW]
@[simp] theorem anyW_of (bs : List Bool) : anyW [.lst (bs.map W.bl)] = .ok (.bl (bs.any id)) := by simp [anyW]
def low (n : Nat) (w : W) : Prop := ∃ d, w.toD = some d ∧ d.canLay0 = true ∧ d.depth ≤ n
def lows (n : Nat) (ws : List W) : Prop := ∃ ds, toDs ws = some ds ∧ PyData.canLayAll0 ds = true ∧ PyData.depthAll ds ≤ n
theorem low_int (i : Int) : low 1 (.int i) := ⟨.int i, rfl, rfl, by simp [PyData.depth]⟩
theorem low_bl (i : Bool) : low 1 (.bl i) := ⟨.bool i, rfl, rfl, by simp [PyData.depth]⟩
theorem low_non : low 1 .non := ⟨.none, rfl, rfl, by simp [PyData.depth]⟩
theorem lows_of {n : Nat} : ∀ {ws : List W}, (∀ w ∈ ws, low n w) → lows n ws
  | [], _ => ⟨[], rfl, rfl, by simp [PyData.depthAll]⟩
  | w :: ws, h => by
    obtain ⟨d, h1, h2, h3⟩ := h w (List.mem_cons_self ..)
    obtain ⟨ds, g1, g2, g3⟩ := lows_of fun u hu => h u (List.mem_cons_of_mem _ hu)
    refine ⟨d :: ds, ?_, ?_, ?_⟩
    · simp [toDs, h1, g1]
    · simp only [PyData.canLayAll0, h2, g2, Bool.and_self]
    · simp only [PyData.depthAll]
      omega
theorem low_tup {n : Nat} {ws : List W} (h : ∀ w ∈ ws, low n w) : low (n + 1) (.tup ws) := by
  obtain ⟨ds, g1, g2, g3⟩ := lows_of h
  refine ⟨.tuple ds, by simp [W.toD, g1], by simp only [PyData.canLay0]; exact g2, by simp only [PyData.depth]; omega⟩
theorem low_lst {n : Nat} {ws : List W} (h : ∀ w ∈ ws, low n w) : low (n + 1) (.lst ws) := by
  obtain ⟨ds, g1, g2, g3⟩ := lows_of h
  refine ⟨.list ds, by simp [W.toD, g1], by simp only [PyData.canLay0]; exact g2, by simp only [PyData.depth]; omega⟩
theorem low_ints (ns : List Int) : low 2 (.tup (ns.map W.int)) := low_tup fun w hw => by
  obtain ⟨i, _, rfl⟩ := List.mem_map.mp hw
  exact low_int i
theorem low_intsL (ns : List Int) : low 2 (.lst (ns.map W.int)) := low_lst fun w hw => by
  obtain ⟨i, _, rfl⟩ := List.mem_map.mp hw
  exact low_int i
theorem eqO_same {n : Nat} {w : W} (h : low n w) (hn : n ≤ 64) : eqO w w = some true := by
  obtain ⟨d, h1, h2, h3⟩ := h
  have hs : SeqAt.shaped d = true := by
    unfold SeqAt.shaped
    rw [h2, decide_eq_true (by omega)]
    rfl
  unfold eqO
  rw [h1]
  simp only [hs, Bool.and_self, if_true]
  rw [PySem.SeqAt.eqv_refl d h2]
theorem eq_same {n : Nat} {w : W} (h : low n w) (hn : n ≤ 64) : eqW w w = .ok (.bl true) := by
  unfold eqW
  rw [eqO_same h hn]
theorem ne_same {n : Nat} {w : W} (h : low n w) (hn : n ≤ 64) : neW w w = .ok (.bl false) := by
  unfold neW
  rw [eqO_same h hn]
  rfl
@[simp] theorem eqO_int (i j : Int) : eqO (.int i) (.int j) = some (i == j) := rfl
@[simp] theorem eqW_int (i j : Int) : eqW (.int i) (.int j) = .ok (.bl (i == j)) := rfl
@[simp] theorem neW_int (i j : Int) : neW (.int i) (.int j) = .ok (.bl !(i == j)) := rfl
@[simp] theorem ne_ints (ns : List Int) : neW (.tup (ns.map W.int)) (.tup (ns.map W.int)) = .ok (.bl false) := ne_same (low_ints ns) (by decide)
@[simp] theorem eq_ints (ns : List Int) : eqW (.tup (ns.map W.int)) (.tup (ns.map W.int)) = .ok (.bl true) := eq_same (low_ints ns) (by decide)
@[simp] theorem ne_intsL (ns : List Int) : neW (.lst (ns.map W.int)) (.lst (ns.map W.int)) = .ok (.bl false) := ne_same (low_intsL ns) (by decide)
@[simp] theorem eq_intsL (ns : List Int) : eqW (.lst (ns.map W.int)) (.lst (ns.map W.int)) = .ok (.bl true) := eq_same (low_intsL ns) (by decide)
@[simp] theorem ne_non : neW .non .non = .ok (.bl false) := rfl
@[simp] theorem eq_non : eqW .non .non = .ok (.bl true) := rfl
end PF
namespace PF
open PySem PySem.Spec PyProof.Rows L2
structure FnG (P : Program) (w : World) (K : PySem.W.Frag) (mg : Str → Option Value) (base : Heap) (k : Nat) (f : Addr) (fd : FuncData) (ps : List Str) (sp : Sp) : Prop where
  len : ∀ vs H Q E, sp vs H Q E → vs.length = ps.length
  go : ∀ (A : Around) (o : List PySem.Env) (s : Shared) (H : Hp) (ar : Args) (us : List Value) (vs : List V) (Q : VK) (E : XK), A.guards = some [] → Room k A → Env0 P w K mg base A o s H → BindsTo s fd ar (ps.zip us) → Vals vs us → sp vs H Q E →
    codeAny (model P w) A (.call (.ref f) ar) (CR (L2.CX P w) o P w H s Q E) s
theorem FnG.of {P : Program} {w : World} {K : PySem.W.Frag} {mg : Str → Option Value} {base : Heap} {k : Nat} {f : Addr} {fd : FuncData} {ps : List Str} {sp : Sp} (F : FnOk P w K mg base (L2.CX P w) k f fd ps sp) : FnG P w K mg base k f fd ps sp :=
  ⟨F.len, fun A o s H ar us vs Q E _ hr e b r h => F.run A o s H ar us vs Q E hr e b r h⟩
section
variable {P : Program} {w : World} {K : PySem.W.Frag} {mg : Str → Option Value} {base : Heap} {x qual : Str} {params : Arguments} {body : List Stmt} {scope : Scope} {dvs : List V} {kws : List (Str × V)} {f : Addr} {fd : FuncData}
theorem gdef {N ps : List Str} {k : Nat} {sp : Sp} (F : FunD K x qual params body scope dvs kws f fd) (S : FnScope N ps scope) (len : ∀ vs H Q E, sp vs H Q E → vs.length = ps.length)
    (bd : ∀ (cdv : Value) (A : Around) (o : List PySem.Env) (s : Shared) (H : Hp) (vs : List V) (Q : VK) (E : XK), A.guards = some [] → Room k (A.deeper (envOfC qual scope s.heap.objs.size f cdv)) → sp vs H Q E →
      ∃ t, PSs (cxOf (L2.CX P w) P w K mg base N qual scope f cdv A o s H E) body t ∧ t { nx := fun _ H' => Q .non H', rt := Q } (start N vs) H) : FnG P w K mg base (k + 1) f fd ps sp := by
  obtain ⟨oc, od, dV, kV, dc, pm, an, cdv, ct, osl, rfl, lk, hcd, _, _⟩ := F.ex
  refine ⟨len, fun A o s H ar us vs Q E hg hr e0 hb r q => ?_⟩
  have hlen := len _ _ _ _ q
  have kin : K.In s.heap := e0.mod.kin.keeps fun b u e => (e0.bs b u e).1
  have nol : s.heap.NoLimit := e0.mod.nolimit.keeps fun b u e => (e0.bs b u e).1
  have hk : ∀ y ∈ ps.zip us, scope.names.lookup y.1 = some .local ∨ (scope.names.lookup y.1 = some .cell ∧ ((cellsFrom (s.heap.objs.size + 1) scope.names []).lookup y.1).isSome = true) := fun y hy => by
    obtain ⟨n, v⟩ := y
    have hn := S.par n (List.of_mem_zip hy).1
    exact hn.imp id fun z => ⟨z, PySem.W.cellsFrom_some _ _ _ (.inl z)⟩
  refine codeAny_call_function hr.depth (kin _ _ lk) rfl S.co S.gen rfl (PySem.W.codeRec_of kin hcd) (hb _ _ _ _ (wpAny_newFunctionEnv_cells S.kind hk fun env he s1 z => ?_))
  subst he
  refine ⟨nol.keeps z.toInCall.keep, codeAny_func ?_⟩
  obtain ⟨t, ht, hq⟩ := bd cdv A o s H vs Q E hg (hr.deeper _) q
  have J0 : Inv (cxOf (L2.CX P w) P w K mg base N qual scope f cdv A o s H E) [] (start N vs) H s1 := inv_start S hr.hd e0 hlen r z
  refine wpAny_mono (ht.run [] s1 (start N vs) H _ J0 hq) (fun fl s' hs => ?_) fun e s' hs => hs
  match fl, hs with
  | .ret u, ⟨v, σ', H', J, rv, q'⟩ => exact ⟨v, H', J.os, J.bare, J.base, J.hok, rv, q'⟩
  | .next, ⟨σ', H', J, q'⟩ => exact ⟨V.non, H', J.os, J.bare, J.base, J.hok, rfl, q'⟩
  | .brk, ⟨_, _, _, z⟩ => exact z.elim
  | .cont, ⟨_, _, _, z⟩ => exact z.elim
/-- THE RULE, where no guard stands around -/
theorem fn_trG {k : Nat} {N ps : List Str} {g : En → T (Fl × En)} (F : FunD K x qual params body scope [] [] f fd) (S : FnScope N ps scope)
    (hb : ∀ (cdv : Value) (A : Around) (o : List PySem.Env) (s : Shared) (H : Hp) (E : XK), A.guards = some [] → Room k (A.deeper (envOfC qual scope s.heap.objs.size f cdv)) → TrSs (cxOf (L2.CX P w) P w K mg base N qual scope f cdv A o s H E) E body g) :
    FnG P w K mg base (k + 1) f fd ps (SpF K (defF N.length ps.length g)) := by
  refine gdef F S (SpF.len fun ws h => ?_) fun cdv A o s H vs Q E hg hr h => ⟨_, hb cdv A o s H E hg hr, ?_⟩
  · unfold defF
    rw [if_neg]
    intro z
    exact h (eq_of_beq z)
  · obtain ⟨c, d, ws, wd, r, h⟩ := h
    obtain ⟨_, h⟩ := T.AllB.ite h
    refine ⟨c.bare, d, fun _ => 0, startE N.length ws, start_ok ⟨⟨wd.ok.inS, wd.ok.inla, wd.ok.inca⟩, wd.st, wd.av⟩ rfl (RepL.weak (c := c.bare) (c1 := c) rfl (fun _ h => h) r), T.AllB.imp (fun d1 x hx => ?_) (fun _ _ _ y => y) (T.allB_bind.mp h)⟩
    obtain ⟨fl, ρ'⟩ := x
    intro c' oa' σ' H' fw e'
    have so : StOk c d1 H' := by
      obtain ⟨cells, lefts, k, r, h1, h2⟩ := e'.st
      rw [fw.S, fw.ca, fw.la] at h1
      rw [fw.ca, fw.la] at h2
      exact ⟨cells, lefts, k, r, h1, h2⟩
    have st : Step c H H' := fun b o hb h1 h2 => fw.step b o hb h1 h2 fun z => by cases z
    cases fl with
    | nx => exact hx _ H' st so .non
    | rt w => exact fun v rv => hx v H' st so (Rep.weak (c := c) (c1 := c') fw.S (fun b hb => fw.sub b hb fun z => by cases z) rv)
    | bk => exact hx.elim
    | ct => exact hx.elim
end
/-- the module's name x is a def that does what the run F does -/
def FnGs (P : Program) (w : World) (K : PySem.W.Frag) (mg : Str → Option Value) (base : Heap) (k : Nat) (x : Str) (ps : List Str) (F : List W → T W) : Prop :=
  ∃ f fd, FnG P w K mg base k f fd ps (SpF K F) ∧ mg x = some (.ref f) ∧ PySem.W.keepIn K (.ref f) = true ∧ Binds K fd ps []
theorem FnIs.toG {P : Program} {w : World} {K : PySem.W.Frag} {mg : Str → Option Value} {base : Heap} {k : Nat} {x : Str} {ps : List Str} {F : List W → T W} (h : FnIs P w K mg base k x ps F) : FnGs P w K mg base k x ps F := by
  obtain ⟨f, fd, a, b, c, d⟩ := h
  exact ⟨f, fd, .of a, b, c, d⟩
section
variable {X : Cx} {E : WX} {e : Expr} {es : List Expr} {fs : En → T (List W)} {pos p : Pos} {F : List W → T W} {k : Nat} {f : Addr} {fd : FuncData} {ps : List Str} {x : Str} {sp : Sp}
theorem run_g {pins : List (Addr × Obj)} {σ : L2.St} {H : Hp} {s : Shared} {Q : VK} {us : List Value} {vs : List V} {E' : XK} (G : FnG X.prog X.w X.K X.mg X.base k f fd ps sp) (hg : X.A.guards = some []) (hr : Room k X.A) (hb : Binds X.K fd ps []) (hx : PassesAt (L2.CX X.prog X.w) X σ E')
    (I : Inv X pins σ H s) (r : Vals vs us) (h : sp vs H Q E') : wpAny (model X.prog X.w) X.A (call (.ref f) us) (EP X pins σ Q) X.xe s := by
  have hl : (us ++ []).length = ps.length := by rw [List.append_nil, ← r.length]; exact G.len _ _ _ _ h
  have bt := hb s us I.kIn hl
  rw [List.append_nil] at bt
  refine wpAny_call (codeAny_mono (G.go X.A X.stack s H ⟨us, []⟩ us vs Q E' hg hr I.env0 bt r h) fun r s' hq => ?_)
  match r, hq with
  | .error e, hq => exact hx pins H s e s' I hq
  | .ok (.ret u), hq => exact I.after hq
  | .ok .next, hq => exact False.elim hq
  | .ok .brk, hq => exact False.elim hq
  | .ok .cont, hq => exact False.elim hq
theorem pe_g {t : TA} {EE : L2.St → XK} (G : FnG X.prog X.w X.K X.mg X.base k f fd ps sp) (hgd : X.A.guards = some []) (hr : Room k X.A) (hg : Gl X x) (hm : X.mg x = some (.ref f)) (hk : PySem.W.keepIn X.K (.ref f) = true) (hb : Binds X.K fd ps []) (hx : ∀ σ, PassesAt (L2.CX X.prog X.w) X σ (EE σ))
    (ha : PA X (e :: es) t) (hdb : (x == ("__debug__" : Str)) = false := by decide) (he : starEach (e :: es) X.env = (false, eval e X.env) :: starEach es X.env := by rfl) (hpl : (backTo pos (starEach es X.env)).any (·.1) = false := by rfl) :
    PE X (.Call (.Name x p) (e :: es) [] pos) (fun σ H Q => t σ H fun vs H1 => sp vs H1 Q (EE σ)) := by
  constructor
  intro pins s σ H Q I h
  refine wpAny_Call_Name_kw (ld_glob I hg hm (PySem.W.callWith_K (h₀ := X.base) I.ok.mod.kin hk (thn (ha.run pos pins s σ H _ I h) fun us s1 z => ?_) he hpl) hdb)
  obtain ⟨vs, H1, I1, r, q⟩ := z
  exact ⟨I1.kIn, run_g G hgd hr hb (hx σ) I1 r q⟩
theorem tr_callG (h : FnGs X.prog X.w X.K X.mg X.base k x ps F) (hgd : X.A.guards = some []) (hr : Room k X.A) (tk : Takes X E) (hg : Gl X x) (ha : TrA X E (e :: es) fs)
    (hdb : (x == ("__debug__" : Str)) = false := by decide) (he : starEach (e :: es) X.env = (false, eval e X.env) :: starEach es X.env := by rfl) (hpl : (backTo pos (starEach es X.env)).any (·.1) = false := by rfl) :
    TrE X E (.Call (.Name x p) (e :: es) [] pos) (fL fs F) := by
  obtain ⟨f, fd, G, hm, hk, hb⟩ := h
  refine pe_imp (pe_g (EE := fun σ => WE E σ) G hgd hr hg hm hk hb (fun σ => passAt tk σ) ha hdb he hpl) fun σ H Q h => ?_
  obtain ⟨c, d, oa, ρ, e, h⟩ := h
  exact liftA_then (P := fun c H => PQ X.K c H Q) e h (fun st p => p.later st) fun w v H1 d1 _ r1 e1 h1 => ⟨c, d1, w, e1.wd, r1, h1⟩
/-- f() -/
theorem tr_callG0 (h : FnGs X.prog X.w X.K X.mg X.base k x ps F) (hgd : X.A.guards = some []) (hr : Room k X.A) (tk : Takes X E) (hg : Gl X x)
    (hdb : (x == ("__debug__" : Str)) = false := by decide) : TrE X E (.Call (.Name x p) [] [] pos) (fun _ => F []) := by
  obtain ⟨f, fd, G, hm, hk, hb⟩ := h
  constructor
  intro pins s σ H Q I h
  obtain ⟨c, d, oa, ρ, e, h⟩ := h
  refine wpAny_Call_Name_kw (ld_glob I hg hm (PySem.W.callWith_K0 I.kIn hk (run_g (us := []) (vs := []) G hgd hr hb (passAt tk σ) I .nil ⟨c, d, [], e.wd, .nil, h⟩)) hdb)
end
theorem end_call {P : Program} {w : World} {K : PySem.W.Frag} {mg mb : Str → Option Value} {k : Nat} {fa a : Addr} {fd : FuncData} {x : Str} {sp : Sp} {s₁ : Shared} {vs : List Value} {ns : List Int}
    (KX : K.In s₁.heap) (hns : s₁.heap.Ns mainGlobals mg) (hb : s₁.heap.Ns builtinsNs mb) (hbb : ∀ x : Str, x ≠ "__name__" → mb x = bootBuiltins x) (hlim : s₁.heap.NoLimit) (hg : s₁.gens = #[])
    (ha : s₁.heap.get? a = some { cls := .type "list", data := .seq vs.toArray }) (hi : IntsAre vs ns) (hl : ns.length ≤ sizeLine) (hr : Room k callerA)
    (F : ∀ base : Heap, K.In base → base.Ns mainGlobals mg → FnG P w K mg base k fa fd [x] sp) (hbind : ∀ (s : Shared) (u : Value), BindsTo s fd ⟨[u], []⟩ [(x, u)])
    (hsp : ∀ H : Hp, Only H → SqL K H a (ns.map V.int) → sp [.ref a] H (fun v _ => v = .bl true) fun _ _ _ => False)
    (hCX : ∀ H e s', L2.CX P w [] H s₁ (fun _ _ _ => False) e s' → False) :
    codeAny (model P w) callerA (.call (.ref fa) ⟨[.ref a], []⟩) (fun r s' => r = .ok (.ret (.bool true)) ∧ OldK s₁.heap s'.heap ∧ s'.os = s₁.os ∧ AllBare s'.gens) s₁ := by
  have core : ∀ H : Hp, Only H → SqL K H a (ns.map V.int) → HOk P w H s₁.heap → (∀ b, H b ≠ none → b = a) → (H a ≠ none → K.lookup a = none) →
      codeAny (model P w) callerA (.call (.ref fa) ⟨[.ref a], []⟩) (fun r s' => r = .ok (.ret (.bool true)) ∧ OldK s₁.heap s'.heap ∧ s'.os = s₁.os ∧ AllBare s'.gens) s₁ := fun H hO hS hok hA hK => by
    have only : ∀ {b : Addr}, (b = a → False) → H b = none := fun {b} n => by
      cases z : H b with
      | none => rfl
      | some u => exact (n (hA b (by rw [z]; exact nofun))).elim
    have dict : ∀ {b : Addr} {u : Obj} {es : Array DictEntry} {ep : Nat}, s₁.heap.get? b = some u → u.data = .dict es ep → H b = none := fun {b u es ep} e dd => only fun z => by
      rw [z, ha] at e
      cases e
      cases (show Data.seq vs.toArray _ = Data.dict es ep from dd)
    have nsK : ∀ {b : Addr} {m : Str → Option Value}, s₁.heap.Ns b m → (hidT s₁.heap H).Ns b m := fun {b m} z => by
      obtain ⟨u, es, ep, e, dd, r⟩ := z
      exact ⟨u, es, ep, hidT_get e (dict e dd), dd, r⟩
    have kb : K.In (hidT s₁.heap H) := fun b u e => hidT_get (KX b u e) (by
      cases z : H b with
      | none => rfl
      | some v =>
        have q : b = a := hA b (by rw [z]; exact nofun)
        rw [q] at e z
        rw [hK (by rw [z]; exact nofun)] at e
        cases e)
    have hM : Mod K mg (hidT s₁.heap H) := ⟨kb, nsK hns, ⟨mb, nsK hb, hbb⟩, by
      obtain ⟨mc, h1, h2⟩ := hlim
      exact ⟨mc, nsK h1, h2⟩⟩
    have e0 : Env0 P w K mg (hidT s₁.heap H) callerA [] s₁ H := ⟨rfl, hM, fun b u e => of_hidT e, Nat.le_of_eq (hidT_size _ _), trivial, fun b hb => (by cases hb), hok, .of_eq hg⟩
    refine codeAny_mono ((F _ kb (nsK hns)).go callerA [] s₁ H ⟨[.ref a], []⟩ [.ref a] [.ref a] _ _ rfl hr e0 (hbind s₁ (.ref a)) (.cons rfl .nil) (hsp H hO hS)) fun r s' h => ?_
    match r, h with
    | .error e, h => exact (hCX H e s' h).elim
    | .ok .next, h => exact False.elim h
    | .ok .brk, h => exact False.elim h
    | .ok .cont, h => exact False.elim h
    | .ok (.ret u), h =>
      obtain ⟨v, H', os, bare, un, hok', rv, q⟩ := h
      have q : v = .bl true := q
      rw [q] at rv
      have rv : u = Value.bool true := rv
      rw [rv]
      refine ⟨rfl, OldK.of_keep fun b u e => ?_, os, bare⟩
      rcases hO b with z | ⟨ob, xs, z⟩
      · exact un.keep b u e z (fun z => (by cases z)) (fun z => (by cases z))
      · have z1 := (hok b _ z).1
        have z2 := (hok' b _ (un.frzs b ob _ z)).1
        rw [e] at z1
        cases z1
        exact z2
  have rv := vals_ints hi
  cases hk : K.lookup a with
  | some o =>
    have e := KX a o hk
    rw [ha] at e
    cases e
    exact core (fun _ => none) (fun _ => .inl rfl) (.inr ⟨_, vs.toArray, _, hk, rfl, rfl, rfl, by rw [List.size_toArray, hi.length]; exact hl, by simpa using rv⟩) (fun b u z => by cases z) (fun b z => (z rfl).elim) fun z => (z rfl).elim
  | none =>
    have at_ : ∀ b, b = a ∨ b ≠ a := fun b => Decidable.em _
    refine core (fun b => if b = a then some (.frz { cls := .type "list", data := .seq vs.toArray } (.lst (ns.map V.int))) else none) (fun b => ?_) (.inl (.inr ⟨{ cls := .type "list", data := .seq vs.toArray }, if_pos rfl⟩)) (fun b u z => ?_) (fun b z => ?_) fun _ => hk
    · rcases at_ b with q | q
      · exact .inr ⟨_, _, if_pos q⟩
      · exact .inl (if_neg q)
    · rcases at_ b with q | q
      · have z := (if_pos q).symm.trans z
        cases z
        rw [q]
        exact ⟨ha, by rw [List.length_map]; exact hl, vs, _, rv, ha⟩
      · have z := (if_neg q).symm.trans z
        cases z
    · rcases at_ b with q | q
      · exact q
      · exact absurd (if_neg q) z
theorem walk_g {l : PySem.W.OpenLaw} {n k : Nat} {q : Program} {loose : List Str} {XP : (Str → Option Value) → Heap → Prop} {YP : World → Heap → Prop} {d : DefRec} {x : Str}
    (hn : l.most = some n) (hz : n ≤ sizeLine) (hdf : d.params.defaults = []) (hr : Room k callerA)
    (F : ∀ (w : World) (mg : Str → Option Value) (fa : Addr) (h : Heap), YP w h → h.Ns mainGlobals mg → mg d.name = some (.ref fa) →
      ∃ (K : PySem.W.Frag) (fd : FuncData) (sp : Sp), K.In h ∧ (∀ (s : Shared) (u : Value), BindsTo s fd ⟨[u], []⟩ [(x, u)]) ∧
        (∀ (H : Hp) (a : Addr) (ns : List Int), ns.length ≤ n → Only H → SqL K H a (ns.map V.int) → sp [.ref a] H (fun v _ => v = .bl true) fun _ _ _ => False) ∧
        ∀ base : Heap, K.In base → base.Ns mainGlobals mg → FnG l.prog w K mg base k fa fd [x] sp) :
    PySem.W.WalkO q loose XP YP l.row.toRowW d [] (fun f vs => PySem.call f vs) := by
  refine Att.attach_call hn hdf fun w' t₀ t₁ mg' mb' fa' o' pm' cd' dc a' vs' ns' G' Y' h1 h2 h3 h4 h5 h6 h7 h8 => ?_
  obtain ⟨K', fd', sp', kx, hb', hs', hF'⟩ := F w' mg' fa' _ Y' G'.T.g h4
  exact end_call kx G'.T.g G'.T.b G'.T.builtins G'.T.nolimit h8 h5 h6 (Nat.le_trans h7 hz) hr hF' hb' (fun H hO hS => hs' H a' ns' h7 hO hS) fun H e s' h => cx_none h
end PF
namespace PF
open PySem PySem.Spec PyProof.Rows L2
def rRepr (K : PySem.W.Frag) : List V → Hp → VK → Prop := fun vs H Q => ∃ (v : V) (d : PyData), vs = [v] ∧ Dp K H v d ∧ d.showable = true ∧ d.hasDict = false ∧ d.depth ≤ 60 ∧ d.shown.length ≤ sizeLine ∧ Q (.str d.shown) H
theorem cr_repr {X : Cx} (hgd : X.A.guards = some []) (hu : X.A.units + 64 < cLine) : CallR X (.builtin "repr") (rRepr X.K) := by
  intro pins s σ H vs us Q I r h
  obtain ⟨v, d, rfl, hd, h1, h2, h3, h4, q⟩ := h
  obtain ⟨u, rfl, ru⟩ := vals1 r
  cases hd with
  | non =>
    cases ru
    refine PySem.P.repr_of_none ⟨.str _, H, I.tok _, ⟨_, rfl⟩, ?_⟩
    simpa [PyData.shown] using q
  | bl b =>
    cases ru
    refine PySem.P.repr_of_bool ⟨.str _, H, I.tok _, ⟨_, rfl⟩, ?_⟩
    simpa [PyData.shown] using q
  | int i =>
    obtain ⟨t, rfl⟩ := ru
    refine PySem.P.repr_of_int (by simpa [PyData.showable] using h1) ⟨.str _, H, I.tok _, ⟨_, rfl⟩, ?_⟩
    simpa [PyData.shown] using q
  | str x =>
    obtain ⟨t, rfl⟩ := ru
    refine PySem.P.repr_of_str ⟨.str _, H, I.tok _, ⟨_, rfl⟩, ?_⟩ (by simpa [PyData.shown] using h4)
    simpa [PyData.shown] using q
  | lst hs ha =>
    cases ru
    obtain ⟨as, rd⟩ := Dp.reads I _ _ _ (Dp.lst hs ha) rfl
    exact repr_of_reads' rd h1 (PyData.noDict_hsm h2) hgd (by omega) (fun _ _ e => e) (fun h' u tk hk => ⟨.str _, H, I.kept hk, ⟨_, rfl⟩, q⟩) h4
  | tup hs ha =>
    cases ru
    obtain ⟨as, rd⟩ := Dp.reads I _ _ _ (Dp.tup hs ha) rfl
    exact repr_of_reads' rd h1 (PyData.noDict_hsm h2) hgd (by omega) (fun _ _ e => e) (fun h' u tk hk => ⟨.str _, H, I.kept hk, ⟨_, rfl⟩, q⟩) h4
@[irreducible] def reprOk (d : PyData) : Bool := d.showable && !d.hasDict && decide (d.depth ≤ 60) && decide (d.shown.length ≤ 16777216)
def reprW : List W → T W
  | [w] => match w.toD with
    | some d => if reprOk d then .ok (.str d.shown) else .bad
    | none => .bad
  | _ => .bad
theorem sem_repr {K : PySem.W.Frag} : SemL K (rRepr K) reprW := fun c d H x v Q E' wd rx q => by
  cases rx with
  | nil => exact q.elim
  | cons r rr =>
    cases rr with
    | cons _ _ => exact q.elim
    | nil =>
      simp only [reprW] at q
      split at q
      · rename_i e he
        obtain ⟨hz, q⟩ := T.AllB.ite q
        unfold reprOk at hz
        simp only [Bool.and_eq_true, decide_eq_true_eq, Bool.not_eq_true'] at hz
        exact ⟨_, e, rfl, r.dp he, hz.1.1.1, hz.1.1.2, hz.1.2, by rw [sizeLine_eq]; exact hz.2, PQ.now wd q (.str _)⟩
      · exact q.elim
theorem bo_repr : bootBuiltins "repr" = some (.builtin "repr") := by decide +kernel
def eqS (x y : W) : T W := match x, y with
  | .str a, .str b => .ok (.bl (decide (a = b)))
  | _, _ => eqW x y
def neS (x y : W) : T W := match x, y with
  | .str a, .str b => .ok (.bl (!decide (a = b)))
  | _, _ => neW x y
theorem dec_str {a b : Str} : decide (V.str a = V.str b) = decide (a = b) := by
  by_cases h : a = b <;> simp [h]
theorem sem_eqS {K : PySem.W.Frag} : Sem2 K (fun x y H Q => rEq x y H Q ∨ rEqD K x y H Q) eqS := fun c d H x y v u Q E' wd rx ry q => by
  unfold eqS at q
  split at q
  · cases rx
    cases ry
    exact .inl ⟨rfl, by rw [dec_str]; exact PQ.now wd q (.bl _)⟩
  · exact .inr (sem_eq c d H x y v u Q E' wd rx ry q)
theorem sem_neS {K : PySem.W.Frag} : Sem2 K (fun x y H Q => rNe x y H Q ∨ rNeD K x y H Q) neS := fun c d H x y v u Q E' wd rx ry q => by
  unfold neS at q
  split at q
  · cases rx
    cases ry
    exact .inl ⟨rfl, by rw [dec_str]; exact PQ.now wd q (.bl _)⟩
  · exact .inr (sem_ne c d H x y v u Q E' wd rx ry q)
theorem op_eqS {X : Cx} (hu : X.A.units + 64 < cLine) : OpR X (compareOp .Eq) (fun x y H Q => rEq x y H Q ∨ rEqD X.K x y H Q) := opR_or op_eq (op_eqD hu)
theorem op_neS {X : Cx} (hu : X.A.units + 64 < cLine) : OpR X (compareOp .NotEq) (fun x y H Q => rNe x y H Q ∨ rNeD X.K x y H Q) := opR_or op_ne (op_neD hu)
@[simp] theorem eqS_str (s : Str) : eqS (.str s) (.str s) = .ok (.bl true) := by simp [eqS]
@[simp] theorem neS_str (s : Str) : neS (.str s) (.str s) = .ok (.bl false) := by simp [neS]
@[simp] theorem eqS_int (i j : Int) : eqS (.int i) (.int j) = .ok (.bl (i == j)) := rfl
@[simp] theorem neS_int (i j : Int) : neS (.int i) (.int j) = .ok (.bl !(i == j)) := rfl
@[simp] theorem eqS_tup (ws : List W) (y : W) : eqS (.tup ws) y = eqW (.tup ws) y := by cases y <;> rfl
@[simp] theorem neS_tup (ws : List W) (y : W) : neS (.tup ws) y = neW (.tup ws) y := by cases y <;> rfl
@[simp] theorem eqS_lst (ws : List W) (y : W) : eqS (.lst ws) y = eqW (.lst ws) y := by cases y <;> rfl
@[simp] theorem neS_lst (ws : List W) (y : W) : neS (.lst ws) y = neW (.lst ws) y := by cases y <;> rfl
@[simp] theorem eqS_non (y : W) : eqS .non y = eqW .non y := by cases y <;> rfl
@[simp] theorem neS_non (y : W) : neS .non y = neW .non y := by cases y <;> rfl
@[simp] theorem eqS_bl (b : Bool) (y : W) : eqS (.bl b) y = eqW (.bl b) y := by cases y <;> rfl
@[simp] theorem neS_bl (b : Bool) (y : W) : neS (.bl b) y = neW (.bl b) y := by cases y <;> rfl
def fStar (fa : En → T W) (fs : En → T (List W)) : En → T (List W) := fun ρ => (fa ρ).bind fun x => (seqW x).bind fun xs => (fs ρ).bind fun ys => .ok (xs ++ ys)
section
variable {X : Cx} {E : WX} {e : Expr} {es : List Expr} {fa : En → T W} {fs : En → T (List W)} {pos p : Pos}
theorem tra_star (ha : TrE X E e fa) (hr : TrA X E es fs) (hs : starEach (.Starred e p :: es) X.env = (true, eval e X.env) :: starEach es X.env := by rfl) : TrA X E (.Starred e p :: es) (fStar fa fs) := pa_imp (StX.pa_star ha hr hs) fun σ H Q h => by
  obtain ⟨c, d, oa, ρ, e, h⟩ := h
  refine lift_then (P := fun c H => PQL X.K c H Q) e h (fun st p => p.later st) fun w v H1 d1 _ r1 e1 h1 => ?_
  have fin : ∀ {ws : List W} {vs : List V}, RepL X.K c H1 ws vs → ((fs ρ).bind fun ys => T.ok (ws ++ ys)).AllB (PQL X.K c H1 Q) (PX X.K c H1 fun cls dx H' => E cls dx σ H') d1 → liftA X.K E fs σ H1 fun ys H2 => Q (vs ++ ys) H2 := fun rl h => by
    refine liftA_then (P := fun c H => PQL X.K c H Q) e1 h (fun st p => p.later st) fun w2 v2 H2 d2 st2 r2 e2 h2 => ?_
    exact h2 _ H2 (.refl c H2) e2.st ((rl.step st2 e1.st e1.ok).append r2)
  cases r1 with
  | tup hq rl => exact ⟨_, _, rfl, .inl hq, fin rl h1⟩
  | lst n hq rl => exact ⟨_, _, rfl, .inr (SqL.of hq), fin rl h1⟩
  | _ => exact h1.elim
end
theorem RepL.erase {K : PySem.W.Frag} {c : Cc} {H : Hp} : ∀ {ws : List W} {vs : List V} (n : Nat), RepL K c H ws vs → RepL K c H (ws.eraseIdx n) (vs.eraseIdx n)
  | _, _, _, .nil => .nil
  | _, _, 0, .cons _ r => r
  | _, _, n + 1, .cons h r => .cons h (RepL.erase n r)
theorem RepL.dropLast {K : PySem.W.Frag} {c : Cc} {H : Hp} {ws : List W} {vs : List V} (r : RepL K c H ws vs) : RepL K c H ws.dropLast vs.dropLast := by
  rw [List.dropLast_eq_take, List.dropLast_eq_take, r.length]
  exact r.take _
/-- pop(i), i a place from 0 on -/
def popW (ws : List W) (xs : List W) : Option (W × List W) := match xs with
  | [.int i] => if 0 ≤ i ∧ i.toNat < ws.length ∧ ws.length ≤ 16777216 then match ws[i.toNat]? with
      | some w => some (w, ws.eraseIdx i.toNat)
      | none => none
    else none
  | _ => none
theorem seqIx_at {i : Int} {n : Nat} (h : 0 ≤ i) (h2 : i.toNat < n) : seqIndex? i n = some i.toNat := by
  unfold seqIndex?
  simp only []
  have e1 : ¬ i < 0 := by omega
  simp [e1]
  omega
def sPop (i : Nat) (fs : En → T (List W)) (G : W → En → Option En) : En → T (Fl × En) := fun ρ => match ρ[i]? with
  | some (.own ws) => (fs ρ).bind fun xs => match popW ws xs with
    | some (w, us) => match G w (ρ.set i (.own us)) with
      | some ρ' => .ok (.nx, ρ')
      | none => .bad
    | none => .bad
  | _ => .bad
section
variable {X : Cx} {E : XK} {e a tg : Expr} {G : W → En → Option En} {ns : List Nat} {fs : En → T (List W)} {pos : Pos}
theorem tr_popAt {i : Nat} {apos cpos : Pos} (ho : PE X e (tVar i)) (ha : TrA X (wOf E) [a] fs) (hg : TrG X tg ns G) (hb : attributeBase e "pop" X.env (eval e X.env) = eval e X.env := by rfl)
    (h1 : (((backTo cpos (starEach [a] X.env)).all fun x => !x.1) && ((backToKw cpos (keywordEach [] X.env)).all fun x => x.1.isSome) && decide (([a].length + ([] : List Keyword).length + if ([] : List Keyword).isEmpty = true then 0 else 1) < 30)) = true := by rfl) (h2 : (apos.endLine == cpos.line) = true := by rfl)
    (h3 : starEach [a] X.env = (false, eval a X.env) :: starEach [] X.env := by rfl) (h4 : ((backTo cpos (starEach [] X.env)).any fun x => x.1) = false := by rfl)
    (hs : swapsWithSole [tg] (.Call (.Attribute e "pop" apos) [a] [] cpos) pos.line X.env = pure false := by rfl) (hw : swappedStores [tg] (.Call (.Attribute e "pop" apos) [a] [] cpos) X.env = pure none := by rfl)
    (ht : (assignEach [tg] X.env).map (·.2) = [assign tg X.env] := by rfl) :
    TrS X E (.Assign [tg] (.Call (.Attribute e "pop" apos) [a] [] cpos) pos) (sPop i fs G) := ps_imp (ps_asg (pe_bm PySem.F.plainAttrs_list PySem.F.slot_list_pop PySem.F.type_list_pop mt_popAt ho ha hb h1 h2 h3 h4) hg hs hw ht) fun D σ H q => by
  obtain ⟨c, d, oa, ρ, e, q⟩ := q
  unfold sPop at q
  split at q
  · rename_i ws hw
    obtain ⟨m1, m2, vs, m3, m4⟩ := e.own i ws hw
    refine ⟨_, m2, .inl ⟨rfl, _, SqL.of m3⟩, liftA_then (P := fun c H => PSq X.K c H D) e q (fun st p => p.later (.of st e.wd)) fun us zs H1 d1 st1 r1 e1 h1 => ?_⟩
    cases r1 with
    | nil => exact h1.elim
    | cons r rr =>
      cases rr with
      | cons _ _ => cases r <;> exact h1.elim
      | nil =>
        cases r with
        | int k =>
          obtain ⟨m1', m2', vs', m3', m4'⟩ := e1.own i ws hw
          simp only [popW] at h1
          split at h1
          · rename_i w us hp
            split at hp
            · rename_i hk
              split at hp
              · rename_i y hy
                simp only [Option.some.injEq, Prod.mk.injEq] at hp
                obtain ⟨rfl, rfl⟩ := hp
                obtain ⟨v, hv, rv⟩ := m4'.get hy
                obtain ⟨e2, fw2⟩ := e1.ownUpd hw (m4'.erase k.toNat)
                split at h1
                · rename_i ρ' hG
                  refine ⟨_, _, k, k.toNat, v, rfl, rfl, m3', by omega, by omega, ?_, hv, c, d1, oa, _, y, ρ', e2, fw2.rep _ _ rv, hG, fun σ' _ e' => h1 c oa σ' _ fw2 e'⟩
                  exact seqIx_at hk.1 (by rw [← m4'.length]; exact hk.2.1)
                · exact h1.elim
              · cases hp
            · cases hp
          · exact h1.elim
        | _ => exact h1.elim
  · exact q.elim
def sPop0 (i : Nat) (G : W → En → Option En) : En → T (Fl × En) := fun ρ => match ρ[i]? with
  | some (.own ws) => match ws[ws.length - 1]? with
    | some w => match G w (ρ.set i (.own ws.dropLast)) with
      | some ρ' => .ok (.nx, ρ')
      | none => .bad
    | none => .bad
  | _ => .bad
theorem tr_pop0 {i : Nat} {apos cpos : Pos} (ho : PE X e (tVar i)) (hg : TrG X tg ns G) (hb : attributeBase e "pop" X.env (eval e X.env) = eval e X.env := by rfl) (h2 : (apos.endLine == cpos.line) = true := by rfl)
    (hs : swapsWithSole [tg] (.Call (.Attribute e "pop" apos) [] [] cpos) pos.line X.env = pure false := by rfl) (hw : swappedStores [tg] (.Call (.Attribute e "pop" apos) [] [] cpos) X.env = pure none := by rfl)
    (ht : (assignEach [tg] X.env).map (·.2) = [assign tg X.env] := by rfl) :
    TrS X E (.Assign [tg] (.Call (.Attribute e "pop" apos) [] [] cpos) pos) (sPop0 i G) := ps_imp (ps_asg (pe_bm0 PySem.F.plainAttrs_list PySem.F.slot_list_pop PySem.F.type_list_pop mt_pop ho hb h2) hg hs hw ht) fun D σ H q => by
  obtain ⟨c, d, oa, ρ, e, q⟩ := q
  unfold sPop0 at q
  split at q
  · rename_i ws hw
    obtain ⟨m1, m2, vs, m3, m4⟩ := e.own i ws hw
    split at q
    · rename_i y hy
      split at q
      · rename_i ρ' hG
        obtain ⟨v, hv, rv⟩ := m4.get hy
        obtain ⟨e2, fw2⟩ := e.ownUpd hw m4.dropLast
        refine ⟨_, m2, .inl ⟨rfl, _, SqL.of m3⟩, _, _, v, rfl, rfl, m3, by rw [← m4.length]; exact hv, c, d, oa, _, y, ρ', e2, fw2.rep _ _ rv, hG, fun σ' _ e' => q c oa σ' _ fw2 e'⟩
      · exact q.elim
    · exact q.elim
  · exact q.elim
end
section
variable {X : Cx} {E : XK} {e : Expr} {f : En → T W} {pos pos' p p2 : Pos}
theorem tr_ownOf {i : Nat} {x : Str} (hN : X.N.Nodup) (hi : X.N[i]? = some x) (hx : L2.Loc X.env.scope x) (hg : Gl X "list") (hm : X.mg "list" = none) (he : TrE X (wOf E) e f)
    (hs : swapsWith (.Call (.Name "list" p) [e] [] p2) (some (.Name x pos')) pos.line X.env = pure false := by rfl) (hst : starEach [e] X.env = (false, eval e X.env) :: starEach [] X.env := by rfl) (hpl : (backTo p2 (starEach [] X.env)).any (·.1) = false := by rfl)
    (hf : X.fn x = true ∨ X.env.scope.names.lookup x = some .local := by first | exact .inl rfl | exact .inr rfl | assumption) : TrS X E (.Assign [.Name x pos'] (.Call (.Name "list" p) [e] [] p2) pos) (sOwnOf i f) :=
  ps_imp (ps_set hN hi hx (pe_callTy call_list_of hg hm bo_list (pa_cons he pa_nil hst) (by decide) (by decide) hst hpl) hs hf) fun D σ H q => by
  obtain ⟨c, d, oa, ρ, e, q⟩ := q
  refine lift_then (P := fun c H => PSq X.K c H D) e q (fun st p => p.later (.of st e.wd)) fun w v H1 d1 _ r1 e1 h1 => ?_
  have fin : ∀ {ws : List W} {vs : List V} {p : Addr}, RepL X.K c H1 ws vs → H1 p = none → (T.ok (Fl.nx, ρ.set i (.own ws)) : T (Fl × En)).AllB (PSq X.K c H1 D) (PX X.K c H1 E) d1 → D.nx (σ.set i (some (.ref p))) (L2.upd H1 p (.lst vs)) := fun r hp h =>
    h _ _ _ _ (Fwd.mine hp e1.wd) ((e1.mine hp).ownSet (List.mem_cons_self ..) upd_same ((r.more hp (.new hp) e1.st e1.ok).mine) (EnvOk.ownNe e1 hp))
  cases r1 with
  | tup hq rl => exact ⟨_, _, rfl, .inr hq, fun p hp => fin rl hp h1⟩
  | lst n hq rl => exact ⟨_, _, rfl, .inl (SqL.of hq), fun p hp => fin rl hp h1⟩
  | _ => exact h1.elim
end
end PF
namespace PF
open PySem PySem.Spec PyProof.Rows L2
def sOwnParOf (i j : Nat) (f : En → T W) (fs : En → T (List W)) : En → T (Fl × En) := fun ρ => (f ρ).bind fun w => (seqW w).bind fun ws => (fs ρ).bind fun us => match us with
  | [u] => .ok (.nx, (ρ.set i (.own ws)).set j (.val u))
  | _ => .bad
theorem tr_ownParOf {X : Cx} {E : XK} {st : Stmt} {f : En → T W} {fs : En → T (List W)} {i j : Nat} (ne : i ≠ j) (hp : PS X st (tPar i j (tCons (tCB (fun xs H Q => ∃ p ys, xs = [.ref p] ∧ (SqL X.K H p ys ∨ SqT X.K H p ys) ∧ ∀ l, H l = none → Q (.ref l) (L2.upd H l (.lst ys))) (tCons (liftE X.K (wOf E) f) tNil)) (liftA X.K (wOf E) fs)))) : TrS X E st (sOwnParOf i j f fs) := ps_imp hp fun D σ H q => by
  obtain ⟨c, d, oa, ρ, e, q⟩ := q
  refine lift_then (P := fun c H => PSq X.K c H D) e q (fun st p => p.later (.of st e.wd)) fun w v H0 d0 _ r0 e00 h0 => ?_
  have fin : ∀ {ws : List W} {vs : List V} {p : Addr}, RepL X.K c H0 ws vs → H0 p = none → ((fs ρ).bind fun us => match us with
      | [u] => .ok (.nx, (ρ.set i (.own ws)).set j (.val u))
      | _ => .bad : T (Fl × En)).AllB (PSq X.K c H0 D) (PX X.K c H0 E) d0 → liftA X.K (wOf E) fs σ (L2.upd H0 p (.lst vs)) fun ys H1 => ∃ v w, V.ref p :: ys = [v, w] ∧ D.nx ((σ.set i (some v)).set j (some w)) H1 := fun {ws vs p} r hp h => by
    have e0 := e00.mine (xs := vs) hp
    have q0 := T.AllB.imp (fun _ _ y => PSq.later (Fwd.mine (o := .lst vs) hp e00.wd) y) (fun _ _ _ y => y.fwd (Fwd.mine (o := .lst vs) hp e00.wd)) h
    refine liftA_then (P := fun c H => PSq X.K c H D) e0 q0 (fun st p => p.later (.of st e0.wd)) fun us zs H1 d1 st1 r1 e1 h1 => ?_
    cases r1 with
    | nil => exact h1.elim
    | cons r' rr =>
      cases rr with
      | cons _ _ => exact h1.elim
      | nil =>
        have n1 := st_ne e00.st hp
        simp only [List.mem_cons, not_or] at n1
        have hq : H1 p = some (.lst vs) := st1 p _ upd_same n1.1 n1.2.2.1
        exact ⟨_, _, rfl, h1 _ _ _ H1 .refl ((e1.ownSet (D := p) (i := i) (List.mem_cons_self ..) hq (((r.more hp (.new hp) e00.st e00.ok).mine).step st1 e0.st e0.ok) (EnvOk.ownNe e00 hp)).set r')⟩
  cases r0 with
  | tup hq rl => exact ⟨_, _, rfl, .inr hq, fun p hp => fin rl hp h0⟩
  | lst n hq rl => exact ⟨_, _, rfl, .inl (SqL.of hq), fun p hp => fin rl hp h0⟩
  | _ => exact h0.elim
end PF
namespace PF
open PySem PySem.Spec PyProof.Rows L2
def wLen (i : Nat) (ρ : En) : Nat := match ρ[i]? with
  | some (.own ws) => ws.length
  | some (.val (.lst ws)) => ws.length
  | some (.val (.tup ws)) => ws.length
  | _ => 0
def wGap (i j : Nat) (ρ : En) : Nat := match ρ[i]?, ρ[j]? with
  | some (.val (.int a)), some (.val (.int b)) => (b - a).toNat
  | _, _ => 0
def T.chk {α : Type} (p : α → Bool) : T α → Nat → Bool
  | .ok a, _ => p a
  | .exc _ _, _ => false
  | .bad, _ => false
  | .ask _ _, 0 => false
  | .ask n k, e + 1 => (List.range n).all fun i => T.chk p (k i) e
theorem T.chk_all {α : Type} {p : α → Bool} {E : Nat → Nat → List W → Prop} : ∀ {t : T α} {d : Nat}, t.chk p d = true → t.AllB (fun _ a => p a = true) E d
  | .ok a, d, h => h
  | .exc _ _, d, h => by cases h
  | .bad, d, h => by cases h
  | .ask n k, 0, h => by cases h
  | .ask n k, d + 1, h => by
    have h : ((List.range n).all fun i => T.chk p (k i) d) = true := h
    refine ⟨d, rfl, fun i hi => T.chk_all ?_⟩
    exact List.all_eq_true.mp h i (List.mem_range.mpr hi)
theorem T.AllB.more {α : Type} {P : Nat → α → Prop} {E : Nat → Nat → List W → Prop} : ∀ {t : T α} {d e : Nat}, t.AllB (fun _ a => P 0 a) (fun _ c fs => E 0 c fs) d → d ≤ e → t.AllB (fun _ a => P 0 a) (fun _ c fs => E 0 c fs) e
  | .ok a, d, e, h, _ => h
  | .exc _ _, d, e, h, _ => h
  | .bad, d, e, h, _ => h
  | .ask n k, d, e, h, l => by
    obtain ⟨d', rfl, h⟩ := h
    exact ⟨e - 1, by omega, fun i hi => T.AllB.more (h i hi) (by omega)⟩
def yes : Fl × En → Bool
  | (.rt (.bl true), _) => true
  | _ => false
theorem yes_is {x : Fl × En} (h : yes x = true) : ∃ ρ, x = (.rt (.bl true), ρ) := by
  obtain ⟨fl, ρ⟩ := x
  match fl, h with
  | .rt (.bl true), _ => exact ⟨ρ, rfl⟩
/-- the written end of a law -/
theorem law_tail {t : T (Fl × En)} {d k : Nat} (h : t.chk yes k = true) (hk : k ≤ d) : t.AllB (fun _ x => ∃ ρ, x = (.rt (.bl true), ρ)) (fun _ _ _ => False) d := by
  have h1 : t.AllB (fun _ a => yes a = true) (fun _ _ _ => False) k := T.chk_all h
  have h2 := T.AllB.more (P := fun _ a => yes a = true) (E := fun _ _ _ => False) h1 hk
  exact T.AllB.imp (fun _ x hx => yes_is hx) (fun _ _ _ z => z) h2
theorem compL_filter {G : W → En → Option En} {tt : En → T Bool} {fe : En → T W} {ρ : En} {α : Type} (m f : α → W) (t : α → Bool) : ∀ (as : List α), (∀ a ∈ as, ∃ ρ1, G (m a) ρ = some ρ1 ∧ tt ρ1 = .ok (t a) ∧ (t a = true → fe ρ1 = .ok (f a))) → compL G tt fe ρ (as.map m) = .ok ((as.filter t).map f)
  | [], _ => rfl
  | a :: as, h => by
    obtain ⟨ρ1, h1, h2, h3⟩ := h a (List.mem_cons_self ..)
    have ih := compL_filter m f t as fun b hb => h b (List.mem_cons_of_mem _ hb)
    cases ht : t a with
    | true => simp only [List.map_cons, compL, h1, h2, h3 ht, ht, noX_ok, T.bind_ok, if_true, ih, List.filter_cons]
    | false => simp only [List.map_cons, compL, h1, h2, ht, noX_ok, T.bind_ok, if_false, Bool.false_eq_true, ih, List.filter_cons]
inductive All2 {α : Type} (R : α → W → Prop) : List α → List W → Prop
  | nil : All2 R [] []
  | cons {a : α} {w : W} {as : List α} {ws : List W} : R a w → All2 R as ws → All2 R (a :: as) (w :: ws)
/-- a comprehension with draws -/
theorem compL_draw {G : W → En → Option En} {tt : En → T Bool} {fe : En → T W} {ρ : En} {α : Type} {R : α → W → Prop} {E : Nat → Nat → List W → Prop} (c : Nat) (m : α → W) : ∀ (as : List α) {P : Nat → List W → Prop} {d : Nat},
    (∀ a ∈ as, ∃ ρ1, G (m a) ρ = some ρ1 ∧ tt ρ1 = .ok true ∧ ∀ (Q : Nat → W → Prop) (d : Nat), c ≤ d → (∀ w d', R a w → d ≤ d' + c → Q d' w) → (noX (fe ρ1)).AllB Q E d) → c * as.length ≤ d → (∀ ws d', All2 R as ws → d ≤ d' + c * as.length → P d' ws) → (compL G tt fe ρ (as.map m)).AllB P E d
  | [], P, d, _, _, h => h [] d .nil (by omega)
  | a :: as, P, d, h, hd, hP => by
    obtain ⟨ρ1, h1, h2, h3⟩ := h a (List.mem_cons_self ..)
    rw [List.length_cons, Nat.mul_add, Nat.mul_one] at hd hP
    simp only [List.map_cons, compL, h1, h2, noX_ok, T.bind_ok, if_true]
    refine T.allB_bind.mpr (h3 _ d (by omega) fun w d' hw hd' => T.allB_bind.mpr ?_)
    exact compL_draw c m as (fun b hb => h b (List.mem_cons_of_mem _ hb)) (by omega) fun ws d'' hws hd'' => hP (w :: ws) d'' (.cons hw hws) (by omega)
theorem fComp_eq (vs : List Nat) (fi : En → T (List W)) (G : W → En → Option En) (tt : En → T Bool) (fe : En → T W) (ρ : En) : fComp vs fi G tt fe ρ = (fi ρ).bind fun ws => if sizeOk ws then (compL G tt fe (wipeE ρ vs) ws).bind fun xs => .ok (.lst xs) else .bad := rfl
theorem fCh_eq (g g' : W → W → T W) (fa fb fc : En → T W) (ρ : En) : fCh g g' fa fb fc ρ = (fa ρ).bind fun x => (fb ρ).bind fun y => (g x y).bind fun z => match z with
  | .bl true => (fc ρ).bind fun w => g' y w
  | .bl false => .ok (.bl false)
  | _ => .bad := rfl
theorem fSl_eq (fa : En → T W) (fl fh : En → T (Option Int)) (ρ : En) : fSl fa fl fh ρ = (fa ρ).bind fun x => (fl ρ).bind fun l => (fh ρ).bind fun u => slW x l u := rfl
theorem pNo_eq (ρ : En) : pNo ρ = .ok none := rfl
theorem pSome_eq (f : En → T W) (ρ : En) : pSome f ρ = (f ρ).bind fun x => (pInt x).bind fun i => .ok (some i) := rfl
theorem fStar_eq (fa : En → T W) (fs : En → T (List W)) (ρ : En) : fStar fa fs ρ = (fa ρ).bind fun x => (seqW x).bind fun xs => (fs ρ).bind fun ys => .ok (xs ++ ys) := rfl
theorem defF_eq (n np : Nat) (g : En → T (Fl × En)) (ws : List W) (h : (ws.length == np) = true) : defF n np g ws = (g (startE n ws)).bind endOf := by
  unfold defF
  rw [if_pos h]
theorem whileL_all {t : En → T Bool} {gb : En → T (Fl × En)} {E : Nat → Nat → List W → Prop} {Z : Nat → En → Prop} (I : Nat → Nat → En → Prop)
    (step : ∀ m d ρ, I m d ρ → (t ρ).AllB (fun d b => if b then ∃ m', m = m' + 1 ∧ (gb ρ).AllB (fun d x => ∃ ρ2, x = (.nx, ρ2) ∧ I m' d ρ2) E d else Z d ρ) E d) :
    ∀ (m n d : Nat) (ρ : En), m < n → I m d ρ → (whileL t gb n ρ).AllB (fun d x => ∃ ρ2, x = (.nx, ρ2) ∧ Z d ρ2) E d
  | m, 0, d, ρ, h, _ => by omega
  | m, n + 1, d, ρ, h, hi => by
    unfold whileL
    refine T.allB_bind.mpr (T.AllB.imp (fun d1 b hb => ?_) (fun _ _ _ y => y) (step m d ρ hi))
    cases b with
    | false => exact ⟨ρ, rfl, hb⟩
    | true =>
      obtain ⟨m', rfl, hb⟩ := hb
      refine T.allB_bind.mpr (T.AllB.imp (fun d2 x hx => ?_) (fun _ _ _ y => y) hb)
      obtain ⟨ρ2, rfl, h2⟩ := hx
      exact whileL_all I step m' n d2 ρ2 (by omega) h2
theorem toDs_ints : ∀ ns : List Int, toDs (ns.map W.int) = some (ns.map PyData.int)
  | [] => rfl
  | n :: ns => by simp [toDs, toDs_ints ns, W.toD]
theorem shaped_intsT (ns : List Int) : SeqAt.shaped (.tuple (ns.map PyData.int)) = true := by
  have h := dep_ints ns
  unfold SeqAt.shaped
  rw [Bool.and_eq_true]
  exact ⟨lay_ints ns, decide_eq_true (by simp only [PyData.depth]; omega)⟩
theorem eqO_intsT (xs ys : List Int) : eqO (.tup (xs.map W.int)) (.tup (ys.map W.int)) = some (decide (xs = ys)) := by
  unfold eqO
  simp only [W.toD, toDs_ints, Option.map_some, shaped_intsT, Bool.and_self, if_true]
  simp only [PyData.eqv, PySem.W.ked_eqvAll]
theorem eqO_intsL (xs ys : List Int) : eqO (.lst (xs.map W.int)) (.lst (ys.map W.int)) = some (decide (xs = ys)) := by
  unfold eqO
  simp only [W.toD, toDs_ints, Option.map_some, shaped_ints, Bool.and_self, if_true]
  simp only [PyData.eqv, PySem.W.ked_eqvAll]
theorem eqW_intsT (xs ys : List Int) : eqW (.tup (xs.map W.int)) (.tup (ys.map W.int)) = .ok (.bl (decide (xs = ys))) := by
  unfold eqW
  rw [eqO_intsT]
theorem neW_intsT (xs ys : List Int) : neW (.tup (xs.map W.int)) (.tup (ys.map W.int)) = .ok (.bl (!decide (xs = ys))) := by
  unfold neW
  rw [eqO_intsT]
theorem eqW_intsL (xs ys : List Int) : eqW (.lst (xs.map W.int)) (.lst (ys.map W.int)) = .ok (.bl (decide (xs = ys))) := by
  unfold eqW
  rw [eqO_intsL]
theorem neW_intsL (xs ys : List Int) : neW (.lst (xs.map W.int)) (.lst (ys.map W.int)) = .ok (.bl (!decide (xs = ys))) := by
  unfold neW
  rw [eqO_intsL]
theorem eqW_none {α : Type} (as : List α) : eqW (.lst (as.map fun _ => W.int 1)) (.lst []) = .ok (.bl as.isEmpty) := by
  have e : (as.map fun _ => W.int 1) = (as.map fun _ => (1 : Int)).map W.int := by rw [List.map_map]; rfl
  rw [e, show (W.lst [] : W) = .lst (([] : List Int).map W.int) from rfl, eqW_intsL]
  cases as <;> simp
theorem neW_none {α : Type} (as : List α) : neW (.lst (as.map fun _ => W.int 1)) (.lst []) = .ok (.bl (!as.isEmpty)) := by
  have e : (as.map fun _ => W.int 1) = (as.map fun _ => (1 : Int)).map W.int := by rw [List.map_map]; rfl
  rw [e, show (W.lst [] : W) = .lst (([] : List Int).map W.int) from rfl, neW_intsL]
  cases as <;> simp
theorem greatest_ge {ns : List Int} {x : Int} (h : x ∈ ns) : x ≤ greatest ns := by
  cases ns with
  | nil => cases h
  | cons n ns =>
    obtain ⟨a, b, _⟩ := foldl_max_ge ns n
    rcases List.mem_cons.mp h with rfl | h
    · exact a
    · exact b x h
theorem greatest_mem {n : Int} {ns : List Int} : greatest (n :: ns) ∈ n :: ns := by
  obtain ⟨_, _, c⟩ := foldl_max_ge ns n
  rcases c with c | c
  · exact List.mem_cons.mpr (.inl c)
  · exact List.mem_cons.mpr (.inr c)
theorem all2_ints {R : Nat → Int → Prop} : ∀ {as : List Nat} {ws : List W}, All2 (fun a w => ∃ x, w = W.int x ∧ R a x) as ws → as.Nodup → ∃ f : Nat → Int, ws = as.map (fun i => W.int (f i)) ∧ ∀ a ∈ as, R a (f a)
  | _, _, .nil, _ => ⟨fun _ => 0, rfl, fun a h => by cases h⟩
  | _, _, .cons (a := a) (as := as) h r, nd => by
    obtain ⟨x, rfl, hx⟩ := h
    obtain ⟨f, e, hf⟩ := all2_ints r (List.nodup_cons.mp nd).2
    have na := (List.nodup_cons.mp nd).1
    refine ⟨fun i => if i = a then x else f i, ?_, fun b hb => ?_⟩
    · rw [List.map_cons, e]
      simp only [if_true]
      congr 1
      refine List.map_congr_left fun i hi => ?_
      have : i ≠ a := fun z => na (z ▸ hi)
      simp [this]
    · rcases List.mem_cons.mp hb with rfl | hb
      · simpa using hx
      · have : b ≠ a := fun z => na (z ▸ hb)
        simp [this]
        exact hf b hb
/-- drawn ints, one for each of 0, 1, .. -/
theorem compL_ints {G : W → En → Option En} {tt : En → T Bool} {fe : En → T W} {ρ : En} {E : Nat → Nat → List W → Prop} {P : Nat → List W → Prop} {n d : Nat} {m : Nat → W} (R : Nat → Int → Prop) (c : Nat)
    (h : ∀ a, a < n → ∃ ρ1, G (m a) ρ = some ρ1 ∧ tt ρ1 = .ok true ∧ ∀ (Q : Nat → W → Prop) (d : Nat), c ≤ d → (∀ x d', R a x → d ≤ d' + c → Q d' (.int x)) → (noX (fe ρ1)).AllB Q E d) (hd : c * n ≤ d)
    (hP : ∀ (f : Nat → Int) d', (∀ a, a < n → R a (f a)) → d ≤ d' + c * n → P d' ((List.range n).map fun i => W.int (f i))) : (compL G tt fe ρ ((List.range n).map m)).AllB P E d := by
  refine compL_draw (R := fun a w => ∃ x, w = W.int x ∧ R a x) c m (List.range n) (fun a ha => ?_) (by rw [List.length_range]; exact hd) fun ws d' hw hd' => ?_
  · obtain ⟨ρ1, h1, h2, h3⟩ := h a (List.mem_range.mp ha)
    exact ⟨ρ1, h1, h2, fun Q d hd hQ => h3 Q d hd fun x d' hx hd' => hQ _ d' ⟨x, rfl, hx⟩ hd'⟩
  · obtain ⟨f, e, hf⟩ := all2_ints hw List.nodup_range
    rw [e]
    rw [List.length_range] at hd'
    exact hP f d' (fun a ha => hf a (List.mem_range.mpr ha)) hd'
def Sh (n k : Nat) (w : W) : Prop := ∃ d, w.toD = some d ∧ d.showable = true ∧ d.hasDict = false ∧ d.depth ≤ k ∧ d.shown.length ≤ n ∧ d.canLay0 = true
def Shs (n k : Nat) (ws : List W) : Prop := ∃ ds, toDs ws = some ds ∧ PyData.showableAll ds = true ∧ PyData.hasDictAll ds = false ∧ PyData.depthAll ds ≤ k ∧ (∀ t ∈ PyData.shownAll ds, t.length ≤ n) ∧ (PyData.shownAll ds).length = ws.length ∧ PyData.canLayAll0 ds = true
theorem Sh.mono {n k n' k' : Nat} {w : W} (h : Sh n k w) (hn : n ≤ n') (hk : k ≤ k') : Sh n' k' w := by
  obtain ⟨d, h1, h2, h3, h4, h5, h6⟩ := h
  exact ⟨d, h1, h2, h3, by omega, by omega, h6⟩
theorem sh_int {i : Int} (h : i.natAbs < 2 ^ 400) : Sh 402 1 (.int i) := by
  have hl : i.natAbs.log2 < 400 := by
    by_cases h0 : i.natAbs = 0
    · rw [h0]; decide
    · exact (Nat.log2_lt h0).mpr h
  refine ⟨.int i, rfl, by simp [PyData.showable]; omega, by simp [PyData.hasDict], by simp [PyData.depth], ?_, rfl⟩
  have := int_text_length_le (a := i) (k := 400) (by decide) hl
  show (Str.ofString (toString i)).length ≤ 402
  rw [PySem.ofString_length]
  omega
theorem sh_bl (b : Bool) : Sh 402 1 (.bl b) := ⟨.bool b, rfl, by simp [PyData.showable], by simp [PyData.hasDict], by simp [PyData.depth], by cases b <;> decide +kernel, rfl⟩
theorem sh_non : Sh 402 1 .non := ⟨.none, rfl, by simp [PyData.showable], by simp [PyData.hasDict], by simp [PyData.depth], by decide +kernel, rfl⟩
theorem shs_of {n k : Nat} : ∀ {ws : List W}, (∀ w ∈ ws, Sh n k w) → Shs n k ws
  | [], _ => ⟨[], rfl, by simp [PyData.showableAll], by simp [PyData.hasDictAll], by simp [PyData.depthAll], fun t ht => (by simp [PyData.shownAll] at ht), by simp [PyData.shownAll], rfl⟩
  | w :: ws, h => by
    obtain ⟨d, a1, a2, a3, a4, a5, a6⟩ := h w (List.mem_cons_self ..)
    obtain ⟨ds, b1, b2, b3, b4, b5, b6, b7⟩ := shs_of fun u hu => h u (List.mem_cons_of_mem _ hu)
    refine ⟨d :: ds, by simp [toDs, a1, b1], by simp [PyData.showableAll, a2, b2], by simp [PyData.hasDictAll, a3, b3], by simp only [PyData.depthAll]; omega, fun t ht => ?_, by simp [PyData.shownAll, b6], by simp only [PyData.canLayAll0, a6, b7, Bool.and_self]⟩
    simp only [PyData.shownAll, List.mem_cons] at ht
    rcases ht with rfl | ht
    · exact a5
    · exact b5 t ht
theorem piled_le {n : Nat} : ∀ {ts : List Str}, (∀ t ∈ ts, t.length ≤ n) → piled ts ≤ (n + 2) * ts.length
  | [], _ => by simp [piled_nil]
  | t :: ts, h => by
    have h1 := h t (List.mem_cons_self ..)
    have h2 := piled_le (n := n) fun u hu => h u (List.mem_cons_of_mem _ hu)
    rw [piled_cons, List.length_cons, Nat.mul_add]
    omega
theorem listText_le (ts : List Str) : (listText ts).length ≤ piled ts + 2 := by
  unfold listText
  rw [strLen_append]
  have e1 : ((("]" : String) : Str)).length = 1 := rfl
  have e2 : ((("[" : String) : Str)).length = 1 := rfl
  cases ts with
  | nil =>
    show (("[" : String) : Str).length + _ ≤ _
    rw [e1, e2]
    omega
  | cons t ts =>
    have e : textFrom 0 "[" (t :: ts) = textFrom 1 ((("[" : String) : Str) ++ (("" : String) : Str) ++ t) ts := rfl
    have e3 : ((("" : String) : Str)).length = 0 := rfl
    rw [e, textFrom_length_pos _ _ _ (by decide), strLen_append, strLen_append, e1, e2, e3, piled_cons]
    omega
theorem tupleText_le (ts : List Str) : (tupleText ts).length ≤ piled ts + 3 := by
  unfold tupleText
  rw [strLen_append, strLen_append]
  have e1 : ((("(" : String) : Str)).length = 1 := rfl
  have e3 : (((if ts.length == 1 then ",)" else ")" : String) : Str)).length ≤ 2 := by split <;> decide
  cases ts with
  | nil =>
    have : (Str.join ", " []).length = 0 := rfl
    rw [e1, this]
    omega
  | cons t ts =>
    have := join_length_add (t :: ts) (by simp)
    rw [e1]
    omega
theorem sh_tup {n k : Nat} {ws : List W} (h : ∀ w ∈ ws, Sh n k w) : Sh ((n + 2) * ws.length + 4) (k + 1) (.tup ws) := by
  obtain ⟨ds, b1, b2, b3, b4, b5, b6, b7⟩ := shs_of h
  refine ⟨.tuple ds, by simp [W.toD, b1], by simp only [PyData.showable]; exact b2, by simp only [PyData.hasDict]; exact b3, by simp only [PyData.depth]; omega, ?_, by simp only [PyData.canLay0]; exact b7⟩
  simp only [PyData.shown]
  have h1 := tupleText_le (PyData.shownAll ds)
  have h2 := piled_le b5
  rw [b6] at h2
  omega
theorem sh_lst {n k : Nat} {ws : List W} (h : ∀ w ∈ ws, Sh n k w) : Sh ((n + 2) * ws.length + 4) (k + 1) (.lst ws) := by
  obtain ⟨ds, b1, b2, b3, b4, b5, b6, b7⟩ := shs_of h
  refine ⟨.list ds, by simp [W.toD, b1], by simp only [PyData.showable]; exact b2, by simp only [PyData.hasDict]; exact b3, by simp only [PyData.depth]; omega, ?_, by simp only [PyData.canLay0]; exact b7⟩
  simp only [PyData.shown]
  have h1 := listText_le (PyData.shownAll ds)
  have h2 := piled_le b5
  rw [b6] at h2
  omega
theorem repr_is {n k : Nat} {w : W} (h : Sh n k w) (hn : n ≤ 16777216) (hk : k ≤ 60) : ∃ s, reprW [w] = .ok (.str s) := by
  obtain ⟨d, h1, h2, h3, h4, h5, h6⟩ := h
  refine ⟨d.shown, ?_⟩
  have : reprOk d = true := by
    unfold reprOk
    rw [h2, h3, decide_eq_true (by omega), decide_eq_true (by omega)]
    rfl
  simp only [reprW, h1, this, if_true]
theorem sh_ints {ns : List Int} {N : Nat} (hl : ns.length ≤ N) (h : ∀ x ∈ ns, -(2 ^ 399) < x ∧ x < 2 ^ 399) : Sh (404 * N + 4) 2 (.tup (ns.map W.int)) := by
  refine (sh_tup (n := 402) (k := 1) fun w hw => ?_).mono ?_ (by omega)
  · obtain ⟨i, hi, rfl⟩ := List.mem_map.mp hw
    have := h i hi
    exact sh_int (by omega)
  · rw [List.length_map]
    have := Nat.mul_le_mul_left 404 hl
    omega
theorem Sh.low {n k : Nat} {w : W} (h : Sh n k w) : low k w := by
  obtain ⟨d, h1, h2, h3, h4, h5, h6⟩ := h
  exact ⟨d, h1, h6, h4⟩
end PF
namespace PF
open PySem PySem.Spec PyProof.Rows L2
def rInT (K : PySem.W.Frag) (neg : Bool) : R2 := fun x y H Q => ∃ d ds, Dp K H x d ∧ Dp K H y (.tuple ds) ∧ SeqAt.shaped d = true ∧ SeqAt.shaped (.tuple ds) = true ∧ Q (.bl (if neg then !ds.any fun z => PyData.eqv z d else ds.any fun z => PyData.eqv z d)) H
theorem op_inT {X : Cx} (hu : X.A.units + 65 < cLine) : OpR X (compareOp .In) (rInT X.K false) := by
  intro pins s σ H x y v u Q I rx ry h
  obtain ⟨d, ds, hd, he, sd, se, q⟩ := h
  obtain ⟨as, ra⟩ := Dp.reads I d x v hd rx
  obtain ⟨bs, rb⟩ := Dp.reads I (.tuple ds) y u he ry
  exact SeqAt.in_tuple_reads rb ra (SeqAt.canLay_of_shaped se) (SeqAt.canLay_of_shaped sd) (room_in_shaped sd hu) ⟨.bl _, H, I, rfl, q⟩
theorem op_ninT {X : Cx} (hu : X.A.units + 65 < cLine) : OpR X (compareOp .NotIn) (rInT X.K true) := by
  intro pins s σ H x y v u Q I rx ry h
  obtain ⟨d, ds, hd, he, sd, se, q⟩ := h
  obtain ⟨as, ra⟩ := Dp.reads I d x v hd rx
  obtain ⟨bs, rb⟩ := Dp.reads I (.tuple ds) y u he ry
  exact SeqAt.notIn_tuple_reads rb ra (SeqAt.canLay_of_shaped se) (SeqAt.canLay_of_shaped sd) (room_in_shaped sd hu) ⟨.bl _, H, I, rfl, q⟩
def seqD : PyData → Option (List PyData)
  | .list ds => some ds
  | .tuple ds => some ds
  | _ => none
/-- whether x is among y's things -/
def inO (x y : W) : Option Bool := match x.toD, y.toD with
  | some d, some e => match seqD e with
    | some ds => if SeqAt.shaped d && SeqAt.shaped e then some (ds.any fun z => PyData.eqv z d) else none
    | none => none
  | _, _ => none
def inW (x y : W) : T W := match inO x y with
  | some b => .ok (.bl b)
  | none => .bad
def ninW (x y : W) : T W := match inO x y with
  | some b => .ok (.bl !b)
  | none => .bad
theorem inO_some {x y : W} {b : Bool} (h : inO x y = some b) : ∃ d e ds, x.toD = some d ∧ y.toD = some e ∧ seqD e = some ds ∧ SeqAt.shaped d = true ∧ SeqAt.shaped e = true ∧ (ds.any fun z => PyData.eqv z d) = b := by
  unfold inO at h
  split at h
  · rename_i d e h1 h2
    split at h
    · rename_i ds h3
      split at h
      · rename_i hc
        obtain ⟨c1, c2⟩ := Bool.and_eq_true_iff.mp hc
        exact ⟨d, e, ds, h1, h2, h3, c1, c2, Option.some.inj h⟩
      · cases h
    · cases h
  · cases h
theorem seqD_is {e : PyData} {ds : List PyData} (h : seqD e = some ds) : e = .list ds ∨ e = .tuple ds := by
  cases e <;> first | cases h | skip
  · exact .inl rfl
  · exact .inr rfl
theorem sem_in {K : PySem.W.Frag} : Sem2 K (fun x y H Q => rInD K x y H Q ∨ rInT K false x y H Q) inW := fun c d H x y v u Q E' wd rx ry q => by
  unfold inW at q
  split at q
  · rename_i b hb
    obtain ⟨d1, e1, ds, h1, h2, h3, s1, s2, eb⟩ := inO_some hb
    have q := PQ.now wd q (.bl _)
    rw [← eb] at q
    rcases seqD_is h3 with rfl | rfl
    · exact .inl ⟨d1, ds, rx.dp h1, ry.dp h2, s1, s2, q⟩
    · exact .inr ⟨d1, ds, rx.dp h1, ry.dp h2, s1, s2, q⟩
  · exact q.elim
theorem sem_nin {K : PySem.W.Frag} : Sem2 K (fun x y H Q => rNotInD K x y H Q ∨ rInT K true x y H Q) ninW := fun c d H x y v u Q E' wd rx ry q => by
  unfold ninW at q
  split at q
  · rename_i b hb
    obtain ⟨d1, e1, ds, h1, h2, h3, s1, s2, eb⟩ := inO_some hb
    have q := PQ.now wd q (.bl _)
    rw [← eb] at q
    rcases seqD_is h3 with rfl | rfl
    · exact .inl ⟨d1, ds, rx.dp h1, ry.dp h2, s1, s2, q⟩
    · exact .inr ⟨d1, ds, rx.dp h1, ry.dp h2, s1, s2, q⟩
  · exact q.elim
theorem Room.units65 {k : Nat} {A : Around} (r : Room k A) : A.units + 65 < cLine := by
  have := r.un
  omega
theorem op_inW {X : Cx} (hu : X.A.units + 65 < cLine) : OpR X (compareOp .In) (fun x y H Q => rInD X.K x y H Q ∨ rInT X.K false x y H Q) := opR_or (op_inD hu) (op_inT hu)
theorem op_ninW {X : Cx} (hu : X.A.units + 65 < cLine) : OpR X (compareOp .NotIn) (fun x y H Q => rNotInD X.K x y H Q ∨ rInT X.K true x y H Q) := opR_or (op_notInD hu) (op_ninT hu)
def sPar3 (i j l : Nat) (fs : En → T (List W)) : En → T (Fl × En) := fun ρ => (fs ρ).bind fun xs => match xs with
  | [x, y, z] => .ok (.nx, ((ρ.set i (.val x)).set j (.val y)).set l (.val z))
  | _ => .bad
theorem tr_par3 {X : Cx} {E : XK} {st : Stmt} {fs : En → T (List W)} {i j l : Nat} (hp : PS X st (tPar3 i j l (liftA X.K (wOf E) fs))) : TrS X E st (sPar3 i j l fs) := ps_imp hp fun D σ H q => by
  obtain ⟨c, d, oa, ρ, e, q⟩ := q
  refine liftA_then (P := fun c H => PSq X.K c H D) e q (fun st p => p.later (.of st e.wd)) fun w v H1 d1 _ r1 e1 h1 => ?_
  cases r1 with
  | nil => exact h1.elim
  | cons r1 r2 =>
    cases r2 with
    | nil => exact h1.elim
    | cons r2 r3 =>
      cases r3 with
      | nil => exact h1.elim
      | cons r3 r4 =>
        cases r4 with
        | nil => exact ⟨_, _, _, rfl, h1 c oa _ H1 .refl (((e1.set r1).set r2).set r3)⟩
        | cons _ _ => exact h1.elim
@[simp] theorem sPar3_eq (i j l : Nat) (fs : En → T (List W)) (ρ : En) : sPar3 i j l fs ρ = (fs ρ).bind fun xs => match xs with
  | [x, y, z] => .ok (.nx, ((ρ.set i (.val x)).set j (.val y)).set l (.val z))
  | _ => .bad := rfl
end PF
namespace PF
open PySem PySem.Spec PyProof.Rows L2
/-- a loop that goes on, or returns w at the first thing of which t holds -/
theorem forL_any {G : W → En → Option En} {gb : En → T (Fl × En)} {α : Type} {I : En → Prop} (m : α → W) (t : α → Bool) (w : W) : ∀ (as : List α), (∀ a ∈ as, ∀ ρ, I ρ → ∃ ρ1, G (m a) ρ = some ρ1 ∧ (t a = true → ∃ ρ2, gb ρ1 = .ok (.rt w, ρ2)) ∧ (t a = false → ∃ ρ2, gb ρ1 = .ok (.nx, ρ2) ∧ I ρ2)) →
    ∀ ρ, I ρ → (as.any t = true → ∃ ρ2, forL G gb (as.map m) ρ = .ok (.rt w, ρ2)) ∧ (as.any t = false → ∃ ρ2, forL G gb (as.map m) ρ = .ok (.nx, ρ2) ∧ I ρ2)
  | [], _, ρ, h => ⟨fun z => (by cases z), fun _ => ⟨ρ, rfl, h⟩⟩
  | a :: as, step, ρ, h => by
    obtain ⟨ρ1, g, s1, s2⟩ := step a (List.mem_cons_self ..) ρ h
    cases ht : t a with
    | true =>
      obtain ⟨ρ2, e⟩ := s1 ht
      refine ⟨fun _ => ⟨ρ2, ?_⟩, fun z => ?_⟩
      · simp only [List.map_cons, forL, g, e, T.bind_ok]
      · simp [ht] at z
    | false =>
      obtain ⟨ρ2, e, h2⟩ := s2 ht
      have ih := forL_any m t w as (fun b hb => step b (List.mem_cons_of_mem _ hb)) ρ2 h2
      simp only [List.any_cons, ht, Bool.false_or]
      refine ⟨fun z => ?_, fun z => ?_⟩
      · obtain ⟨ρ3, e3⟩ := ih.1 z
        exact ⟨ρ3, by simp only [List.map_cons, forL, g, e, T.bind_ok, e3]⟩
      · obtain ⟨ρ3, e3, h3⟩ := ih.2 z
        exact ⟨ρ3, by simp only [List.map_cons, forL, g, e, T.bind_ok, e3], h3⟩
end PF
namespace PF
open PySem PySem.Spec PyProof.Rows L2
def lexI : List Int → List Int → Bool
  | [], [] => false
  | [], _ :: _ => true
  | _ :: _, [] => false
  | x :: xs, y :: ys => if x = y then lexI xs ys else decide (x < y)
theorem lexI_asym : ∀ {x y : List Int}, lexI x y = true → lexI y x = false
  | [], [], h => by cases h
  | [], _ :: _, _ => rfl
  | _ :: _, [], h => by cases h
  | x :: xs, y :: ys, h => by
    unfold lexI at h ⊢
    by_cases e : x = y
    · rw [if_pos e] at h
      rw [if_pos e.symm]
      exact lexI_asym h
    · rw [if_neg e] at h
      rw [if_neg (Ne.symm e)]
      have := of_decide_eq_true h
      exact decide_eq_false (by omega)
theorem lexI_tri : ∀ {x y : List Int}, lexI x y = false → lexI y x = false → x = y
  | [], [], _, _ => rfl
  | [], _ :: _, h, _ => by cases h
  | _ :: _, [], _, h => by cases h
  | x :: xs, y :: ys, h, g => by
    unfold lexI at h g
    by_cases e : x = y
    · rw [if_pos e] at h
      rw [if_pos e.symm] at g
      rw [e, lexI_tri h g]
    · rw [if_neg e] at h
      rw [if_neg (Ne.symm e)] at g
      have := of_decide_eq_false h
      have := of_decide_eq_false g
      omega
theorem lexI_trans : ∀ {x y z : List Int}, lexI x y = true → lexI y z = true → lexI x z = true
  | [], [], _, h, _ => by cases h
  | _ :: _, [], _, h, _ => by cases h
  | [], _ :: _, [], _, h => by cases h
  | [], _ :: _, _ :: _, _, _ => rfl
  | _ :: _, _ :: _, [], _, h => by cases h
  | x :: xs, y :: ys, z :: zs, h, g => by
    unfold lexI at h g ⊢
    by_cases e : x = y
    · rw [if_pos e] at h
      by_cases e2 : y = z
      · rw [if_pos e2] at g
        rw [if_pos (e.trans e2)]
        exact lexI_trans h g
      · rw [if_neg e2] at g
        rw [if_neg (by rw [e]; exact e2), e]
        exact g
    · rw [if_neg e] at h
      have h := of_decide_eq_true h
      by_cases e2 : y = z
      · rw [if_neg (by rw [← e2]; exact e), ← e2]
        exact decide_eq_true h
      · rw [if_neg e2] at g
        have g := of_decide_eq_true g
        rw [if_neg (by omega)]
        exact decide_eq_true (by omega)
theorem lexI_le {x y z : List Int} (h1 : lexI y x = false) (h2 : lexI z y = false) : lexI z x = false := by
  cases h : lexI z x with
  | false => rfl
  | true =>
    cases g : lexI x y with
    | true =>
      have := lexI_trans h g
      rw [this] at h2
      cases h2
    | false =>
      have e := lexI_tri g h1
      rw [e] at h
      rw [h] at h2
      cases h2
def insK (x : List Int) : List (List Int) → List (List Int)
  | [] => [x]
  | y :: ys => if lexI y x then y :: insK x ys else x :: y :: ys
def sortK : List (List Int) → List (List Int)
  | [] => []
  | x :: xs => insK x (sortK xs)
theorem insK_perm (x : List Int) : ∀ l, (insK x l).Perm (x :: l)
  | [] => .refl _
  | y :: ys => by
    unfold insK
    split
    · exact ((insK_perm x ys).cons y).trans (.swap x y ys)
    · exact .refl _
theorem sortK_perm : ∀ l, (sortK l).Perm l
  | [] => .refl _
  | x :: xs => (insK_perm x _).trans ((sortK_perm xs).cons x)
abbrev SrtK (l : List (List Int)) : Prop := l.Pairwise fun x y => lexI y x = false
theorem insK_srt {x : List Int} : ∀ {l}, SrtK l → SrtK (insK x l)
  | [], _ => List.pairwise_singleton _ _
  | y :: ys, h => by
    obtain ⟨h1, h2⟩ := List.pairwise_cons.mp h
    unfold insK
    cases hl : lexI y x with
    | true =>
      rw [if_pos rfl]
      refine List.pairwise_cons.mpr ⟨fun z hz => ?_, insK_srt h2⟩
      rcases List.mem_cons.mp ((insK_perm x ys).mem_iff.mp hz) with rfl | hz
      · exact lexI_asym hl
      · exact h1 z hz
    | false =>
      rw [if_neg (by simp)]
      refine List.pairwise_cons.mpr ⟨fun z hz => ?_, h⟩
      rcases List.mem_cons.mp hz with rfl | hz
      · exact hl
      · exact lexI_le hl (h1 z hz)
theorem sortK_srt : ∀ l, SrtK (sortK l)
  | [] => List.Pairwise.nil
  | x :: xs => insK_srt (sortK_srt xs)
theorem srtK_uniq {l m : List (List Int)} (h : SrtK l) (g : SrtK m) (p : l.Perm m) : l = m := List.Perm.eq_of_pairwise (fun a b _ _ h1 h2 => lexI_tri h2 h1) h g p
def TupI (h : Heap) (v : Value) (ns : List Int) : Prop := ∃ (a : Addr) (o : Obj) (its : List Value) (n : Nat), v = .ref a ∧ h.get? a = some o ∧ o.cls = .type "tuple" ∧ o.data = .seq its.toArray n ∧ IntsAre its ns
theorem TupI.keeps {h h' : Heap} {v : Value} {ns : List Int} (t : TupI h v ns) (k : ∀ b o, h.get? b = some o → o.cls = .type "tuple" → h'.get? b = some o) : TupI h' v ns := by
  obtain ⟨a, o, its, n, e, ho, hc, hd, hi⟩ := t
  exact ⟨a, o, its, n, e, k _ _ ho hc, hc, hd, hi⟩
def numV : Value → Int
  | .int i _ => i
  | _ => 0
def kH (h : Heap) (v : Value) : List Int := match v with
  | .ref a => match h.get? a with
    | some o => match o.data with
      | .seq its _ => its.toList.map numV
      | _ => []
    | none => []
  | _ => []
theorem ints_num : ∀ {its : List Value} {ns : List Int}, IntsAre its ns → its.map numV = ns
  | _, _, .nil => rfl
  | _, _, .cons n t h => by
    rw [List.map_cons, ints_num h]
    rfl
theorem TupI.kH {h : Heap} {v : Value} {ns : List Int} (t : TupI h v ns) : kH h v = ns := by
  obtain ⟨a, o, its, n, rfl, ho, hc, hd, hi⟩ := t
  unfold PF.kH
  simp only [ho, hd]
  exact ints_num hi
section
variable {prog : Program} {w : World} {A : Around} {E : Value → Shared → Prop} {s : Shared} {Q : Bool → Shared → Prop}
theorem kat_ints {b fin : Bool} : ∀ {xs ys : List Value} {ns ms : List Int} (i : Nat), IntsAre xs ns → IntsAre ys ms → fin = decide (ns.length < ms.length) → Q (lexI ns ms) s → PySem.W.KatLex prog w A b fin Q (xs.zip ys) i s
  | _, _, _, _, i, .nil, .nil, hf, q => PySem.W.kat_nil (by rw [hf]; exact q)
  | _, _, _, _, i, .nil, .cons m u _, hf, q => PySem.W.kat_nil (by rw [hf]; exact q)
  | _, _, _, _, i, .cons n t _, .nil, hf, q => PySem.W.kat_nil (by rw [hf]; exact q)
  | _, _, _, _, i, .cons n t (ns := ns) hx, .cons m u (ns := ms) hy, hf, q => by
    refine PySem.W.kat_cons (SeqAt.EqAt.int_int n t m u prog w _ _ ?_)
    refine PySem.W.kat_go (fun e => ?_) (fun e => ?_)
    · have e : n = m := by simpa using e
      refine PySem.W.kat_yes (kat_ints (i + 1) hx hy (by rw [hf]; simp) ?_)
      unfold lexI at q
      rw [if_pos e] at q
      exact q
    · have e : ¬ n = m := by simpa using e
      unfold lexI at q
      rw [if_neg e] at q
      exact PySem.W.kat_no (TS.oneLt_ints _ q)
theorem tup_cmp {vs : List Value} (hp : ∀ v ∈ vs, TupI s.heap v (kH s.heap v)) : SrtO.Cmp prog w A s (tuples' true) (fun p => p.1 ∈ vs) (SrtO.lt2 fun v u => lexI (kH s.heap v) (kH s.heap u)) := by
  intro p q hm hm'
  have h1 := hp _ hm
  have h2 := hp _ hm'
  show wpAny (model prog w) A (keyLt' (tuples' true) p.1 q.1) (fun r s' => s' = s ∧ r = lexI (kH s.heap p.1) (kH s.heap q.1)) (fun _ _ => False) s
  generalize kH s.heap p.1 = x at h1 ⊢
  generalize kH s.heap q.1 = y at h2 ⊢
  obtain ⟨a, o, its, n, e, ho, hc, hd, hi⟩ := h1
  obtain ⟨a', o', its', n', e', ho', hc', hd', hi'⟩ := h2
  rw [e, e']
  refine PySem.W.kat_lt ho hd ho' hd' ?_
  have l1 := hi.length
  have l2 := hi'.length
  exact kat_ints 0 hi hi' (by simp only [List.size_toArray]; rw [l1, l2]) ⟨rfl, rfl⟩
theorem tup_firsts {h : Heap} : ∀ {vs : List Value}, (∀ v ∈ vs, ∃ ns, TupI h v ns ∧ ns ≠ []) → ∃ fs : List Value, PySem.W.KatTups h vs fs ∧ fs.length = vs.length ∧ ∀ f ∈ fs, ∃ x t, f = Value.int x t
  | [], _ => ⟨[], PySem.W.KatTups.nil, rfl, fun _ hm => by simp at hm⟩
  | v :: vs, hp => by
    obtain ⟨fs, h1, h2, h3⟩ := tup_firsts (vs := vs) fun u hm => hp u (List.mem_cons_of_mem _ hm)
    obtain ⟨ns, ⟨a, o, its, n, rfl, ho, hc, hd, hi⟩, hne⟩ := hp v (List.mem_cons_self ..)
    cases hi with
    | nil => exact absurd rfl hne
    | cons x t r =>
      refine ⟨.int x t :: fs, PySem.W.KatTups.cons ho hc hd rfl h1, by rw [List.length_cons, List.length_cons, h2], fun f hm => ?_⟩
      rcases List.mem_cons.mp hm with rfl | hm
      · exact ⟨x, t, rfl⟩
      · exact h3 f hm
theorem tup_sortable {a : Addr} {vs : List Value} {k : Value → List Int} (h0 : 0 < vs.length) (hp : ∀ v ∈ vs, TupI s.heap v (k v) ∧ k v ≠ []) (ha : ∀ o, s.heap.get? a = some o → o.cls ≠ .type "tuple") : SrtO.SortableO prog w A s a vs fun v u => lexI (k v) (k u) := by
  intro h' keep
  have hp' : ∀ v ∈ vs, TupI h' v (k v) := fun v hm => (hp v hm).1.keeps fun b o e c => keep b o (fun z => by subst z; exact ha o e c) e
  obtain ⟨fs, h1, h2, h3⟩ := tup_firsts fun v hm => ⟨_, hp' v hm, (hp v hm).2⟩
  refine ⟨tuples' true, fun Q E hq => ?_, fun p q hm hm' => ?_⟩
  · refine PySem.W.kat_kind (T := .type "int") h1 (by omega) (fun f hm => ?_) (by rfl) ?_
    · obtain ⟨x, t, rfl⟩ := h3 f hm
      exact PySem.W.Looks.now
    · have e : (Value.type "int" != Value.type "tuple") = true := by first | decide +kernel | rfl | decide
      rw [e]
      exact hq
  · have c := tup_cmp (prog := prog) (w := w) (A := A) (s := { s with heap := h' }) (vs := vs) (fun v hv => by rw [(hp' v hv).kH]; exact hp' v hv) p q hm hm'
    have e1 : kH h' p.1 = k p.1 := (hp' _ hm).kH
    have e2 : kH h' q.1 = k q.1 := (hp' _ hm').kH
    refine wpAny_mono c (fun r s' z => ⟨z.1, z.2.trans ?_⟩) fun _ _ z => z
    show lexI (kH h' p.1) (kH h' q.1) = lexI (k p.1) (k q.1)
    rw [e1, e2]
end
theorem swoI (k : Value → List Int) : SrtO.Swo fun v u => lexI (k v) (k u) := ⟨fun _ _ h => lexI_asym h, fun _ _ _ h1 h2 => lexI_le h1 h2⟩
theorem sorted_tups {prog : Program} {w : World} {A : Around} {E : Value → Shared → Prop} {s : Shared} {l : Addr} {vs : List Value} {k : Value → List Int} {Q : Value → Shared → Prop} (hl : s.heap.IsList l vs.toArray) (hz : vs.length ≤ sizeLine) (hp : ∀ v ∈ vs, TupI s.heap v (k v) ∧ k v ≠ [])
    (h : ∀ (h' : Heap) (d : Addr) (out : List Value), SrtO.Srtd (fun v u => lexI (k v) (k u)) out → out.Perm vs → (∀ b o, s.heap.get? b = some o → h'.get? b = some o) → s.heap.objs.size ≤ d → (∃ n, h'.get? d = some (seqObj "list" out.toArray n)) → Q (.ref d) { s with heap := h' }) :
    wpAny (model prog w) A (call (.builtin "sorted") [.ref l]) Q E s := by
  refine SrtO.sorted_ord (swoI k) hl hz (fun h2 h₁ a ha kk => ?_) fun out hs hb => ?_
  · refine tup_sortable (s := { s with heap := h₁ }) (by omega) (fun v hm => ⟨(hp v hm).1.keeps fun b o e _ => (kk b o e).2, (hp v hm).2⟩) fun o e => ?_
    have e' : some o = some (seqObj "list" vs.toArray 0) := e.symm.trans ha
    cases e'
    exact fun c => absurd (Value.type.inj c) (by decide)
  · exact h _ _ out hs hb.perm (fun b o e => sortedAll_old e) (Nat.le_succ _) (sortedAll_at s.heap vs out.toArray)
inductive PT (K : PySem.W.Frag) (H : Hp) : List (List Int) → List V → Prop
  | nil : PT K H [] []
  | cons {ns : List Int} {t : Addr} {kss : List (List Int)} {xs : List V} : SqT K H t (ns.map V.int) → PT K H kss xs → PT K H (ns :: kss) (.ref t :: xs)
def rSortT (K : PySem.W.Frag) : List V → Hp → VK → Prop := fun vs H Q => ∃ (a : Addr) (xs : List V) (kss : List (List Int)), vs = [V.ref a] ∧ SqL K H a xs ∧ PT K H kss xs ∧ (∀ ns ∈ kss, ns ≠ []) ∧ ∀ ys p, PT K H (sortK kss) ys → H p = none → Q (.ref p) (L2.upd H p (.lst ys))
section
variable {X : Cx} {pins : List (Addr × Obj)} {σ : L2.St} {H : Hp} {s : Shared}
theorem ints_of : ∀ {ns : List Int} {us : List Value}, Vals (ns.map V.int) us → IntsAre us ns
  | [], _, .nil => .nil
  | n :: ns, _, .cons r t => by
    obtain ⟨u, rfl⟩ := r
    exact .cons n u (ints_of t)
theorem PT.tups (I : Inv X pins σ H s) : ∀ {kss : List (List Int)} {xs : List V} {us : List Value}, PT X.K H kss xs → Vals xs us → xs = us.map backV ∧ us.map (kH s.heap) = kss ∧ (∀ u ∈ us, ∃ t, u = .ref t ∧ TupI s.heap u (kH s.heap u) ∧ SqT X.K H t ((kH s.heap u).map V.int))
  | _, _, _, .nil, .nil => ⟨rfl, rfl, fun u h => by cases h⟩
  | _, _, _, .cons (ns := ns) (t := t) hs r, .cons (b := u) ru rr => by
    have ru : u = Value.ref t := ru
    subst ru
    obtain ⟨e1, e2, e3⟩ := PT.tups I r rr
    obtain ⟨its, rv, ⟨o, ho, hc, n, hd⟩, _⟩ := I.tuple hs
    have ti : TupI s.heap (.ref t) ns := ⟨t, o, its, n, rfl, ho, hc, hd, ints_of rv⟩
    refine ⟨by rw [e1]; rfl, by rw [List.map_cons, e2, ti.kH], fun v hv => ?_⟩
    rcases List.mem_cons.mp hv with rfl | hv
    · exact ⟨t, rfl, by rw [ti.kH]; exact ti, by rw [ti.kH]; exact hs⟩
    · exact e3 v hv
theorem PT.back {K : PySem.W.Frag} {h : Heap} : ∀ {out : List Value}, (∀ u ∈ out, ∃ t, u = Value.ref t ∧ SqT K H t ((kH h u).map V.int)) → PT K H (out.map (kH h)) (out.map backV)
  | [], _ => .nil
  | u :: out, hp => by
    obtain ⟨t, rfl, hs⟩ := hp u (List.mem_cons_self ..)
    exact .cons hs (PT.back fun v hv => hp v (List.mem_cons_of_mem _ hv))
theorem cr_sortT : CallR X (.builtin "sorted") (rSortT X.K) := by
  intro pins s σ H vs us Q I r h
  obtain ⟨a, xs, kss, rfl, hs, hp, hne, q⟩ := h
  obtain ⟨its, rv, hl, hz⟩ := I.list hs
  obtain ⟨u, rfl, ru⟩ := vals1 r
  obtain rfl : u = Value.ref a := ru
  obtain ⟨e1, e2, e3⟩ := PT.tups I hp rv
  refine sorted_tups (k := kH s.heap) hl.isList (by rw [← rv.length]; exact hz) (fun v hv => ?_) fun h' d out h1 h2 kp hd hn => ?_
  · obtain ⟨t, _, ti, _⟩ := e3 v hv
    exact ⟨ti, hne _ (by rw [← e2]; exact List.mem_map.mpr ⟨v, hv, rfl⟩)⟩
  · have h3 : ∀ u ∈ out, ∃ t, u = Value.ref t ∧ SqT X.K H t ((kH s.heap u).map V.int) := fun u hu => by
      obtain ⟨t, e, _, z⟩ := e3 u (h2.mem_iff.mp hu)
      exact ⟨t, e, z⟩
    obtain ⟨n, hn⟩ := hn
    have ek : out.map (kH s.heap) = sortK kss := by
      refine srtK_uniq (List.pairwise_map.mpr h1) (sortK_srt kss) ?_
      exact (h2.map _).trans (by rw [e2]; exact (sortK_perm kss).symm)
    have pb := PT.back h3
    rw [ek] at pb
    refine ⟨.ref d, L2.upd H d (.lst (out.map backV)), I.laid (t' := s.toks) kp hd ⟨?_, out, n, vals_back fun u hu => ?_, hn⟩, rfl, q _ d pb (I.hok.fresh hd)⟩
    · rw [List.length_map, h2.length_eq, ← rv.length]
      exact hz
    · obtain ⟨t, e, _⟩ := h3 u hu
      exact ⟨t, e⟩
end
def rowsW : List W → Option (List (List Int))
  | [] => some []
  | .tup us :: ws => match intsW us, rowsW ws with
    | some (n :: ns), some kss => some ((n :: ns) :: kss)
    | _, _ => none
  | _ => none
theorem rowsW_map : ∀ {ws : List W} {kss : List (List Int)}, rowsW ws = some kss → ws = kss.map (fun ns => W.tup (ns.map W.int)) ∧ ∀ ns ∈ kss, ns ≠ []
  | [], kss, h => by
    cases h
    exact ⟨rfl, fun _ h => by cases h⟩
  | w :: ws, kss, h => by
    cases w with
    | tup us =>
      simp only [rowsW] at h
      split at h
      · rename_i n ns ks h1 h2
        cases h
        obtain ⟨e, hn⟩ := rowsW_map h2
        refine ⟨by rw [e, intsW_map h1]; rfl, fun x hx => ?_⟩
        rcases List.mem_cons.mp hx with rfl | hx
        · simp
        · exact hn x hx
      · cases h
    | _ => cases h
theorem rowsW_of : ∀ {kss : List (List Int)}, (∀ ns ∈ kss, ns ≠ []) → rowsW (kss.map (fun ns => W.tup (ns.map W.int))) = some kss
  | [], _ => rfl
  | [] :: kss, h => absurd rfl (h [] (List.mem_cons_self ..))
  | (n :: ns) :: kss, h => by
    have ih := rowsW_of fun x hx => h x (List.mem_cons_of_mem _ hx)
    have e : intsW ((n :: ns).map W.int) = some (n :: ns) := intsW_of _
    simp only [List.map_cons] at e ⊢
    simp only [rowsW, e, ih]
def sortedW : List W → T W
  | [.lst ws] => match rowsW ws with
    | some kss => .ok (.lst ((sortK kss).map fun ns => W.tup (ns.map W.int)))
    | none => .bad
  | _ => .bad
theorem RepL.pt {K : PySem.W.Frag} {c : Cc} {H : Hp} : ∀ {kss : List (List Int)} {xs : List V}, RepL K c H (kss.map fun ns => W.tup (ns.map W.int)) xs → PT K H kss xs
  | [], _, .nil => .nil
  | ns :: kss, _, .cons h r => by
    cases h with
    | tup hs rl =>
      rw [rl.ints] at hs
      exact .cons hs (RepL.pt r)
theorem PT.rep {K : PySem.W.Frag} {c : Cc} {H : Hp} : ∀ {kss : List (List Int)} {xs : List V}, PT K H kss xs → RepL K c H (kss.map fun ns => W.tup (ns.map W.int)) xs
  | _, _, .nil => .nil
  | _, _, .cons h r => .cons (.tup h (RepL.ofInts _)) (PT.rep r)
theorem sem_sorted {K : PySem.W.Frag} : SemL K (rSortT K) sortedW := fun c d H x v Q E' wd rx q => by
  cases rx with
  | nil => exact q.elim
  | cons r rr =>
    cases rr with
    | cons _ _ => cases r <;> exact q.elim
    | nil =>
      cases r with
      | lst n hq rl =>
        simp only [sortedW] at q
        split at q
        · rename_i kss hk
          obtain ⟨e, hn⟩ := rowsW_map hk
          rw [e] at rl
          refine ⟨_, _, kss, rfl, SqL.of hq, rl.pt, hn, fun ys p hp hf => ?_⟩
          exact q _ _ (.new hf) (wd.st.new hf) (.lst (wd.fresh hf) upd_same ((hp.rep).step (.new hf) wd.st wd.ok))
        · exact q.elim
      | _ => exact q.elim
theorem bo_sorted : bootBuiltins "sorted" = some (.builtin "sorted") := by decide +kernel
end PF
namespace PF
open PySem PySem.Spec PyProof.Rows L2
def SqB (K : PySem.W.Frag) (b : Bool) (H : Hp) (a : Addr) (xs : List V) : Prop := match b with
  | true => SqT K H a xs
  | false => SqL K H a xs
def hpB (b : Bool) (h : Heap) (a : Addr) (its : Array Value) : Prop := match b with
  | true => h.IsTuple a its
  | false => h.IsList a its
def itB (b : Bool) (h : Heap) (it a : Addr) (i : Nat) : Prop := match b with
  | true => h.IsTupleIter it a i
  | false => h.IsListIter it a i
def obB (b : Bool) (a : Addr) : Obj := { cls := .type (match b with | true => "tuple_iterator" | false => "list_iterator"), data := .fields #[.ref a, .int 0 0] }
theorem seqB {X : Cx} {pins : List (Addr × Obj)} {σ : L2.St} {H : Hp} {s : Shared} {b : Bool} {a : Addr} {xs : List V} (I : Inv X pins σ H s) (h : SqB X.K b H a xs) : ∃ its, Vals xs its ∧ hpB b s.heap a its.toArray := by
  cases b with
  | true =>
    obtain ⟨its, rv, p, _⟩ := I.tuple h
    exact ⟨its, rv, p⟩
  | false =>
    obtain ⟨its, rv, p, _⟩ := I.list h
    exact ⟨its, rv, p.isList⟩
theorem seqB_inj {X : Cx} {pins : List (Addr × Obj)} {σ : L2.St} {H : Hp} {s : Shared} {b : Bool} {a : Addr} {xs ys : List V} (I : Inv X pins σ H s) (h : SqB X.K b H a xs) (g : SqB X.K b H a ys) : xs = ys := by
  cases b with
  | true => exact I.tuple_inj h g
  | false => exact I.list_inj h g
theorem hpB.lt {b : Bool} {h : Heap} {a : Addr} {its : Array Value} (p : hpB b h a its) : a < h.objs.size := by
  cases b with
  | true =>
    obtain ⟨_, q, _⟩ := id (show h.IsTuple a its from p)
    exact Heap.lt_size q
  | false =>
    obtain ⟨_, q, _⟩ := id (show h.IsList a its from p)
    exact Heap.lt_size q
theorem itB.keep {b : Bool} {h h' : Heap} {it a : Addr} {i : Nat} (p : itB b h it a i) (k : ∀ o, h.get? it = some o → h'.get? it = some o) : itB b h' it a i := by
  cases b with
  | true => exact Heap.IsTupleIter.at (show h.IsTupleIter it a i from p) k
  | false => exact Heap.IsListIter.at (show h.IsListIter it a i from p) k
theorem itB.obj {b : Bool} {h : Heap} {it a : Addr} {i : Nat} (p : itB b h it a i) : ∃ o fs, h.get? it = some o ∧ o.data = .fields fs := by
  cases b with
  | true =>
    obtain ⟨o, q, _, d⟩ := (show h.IsTupleIter it a i from p)
    exact ⟨o, _, q, d⟩
  | false =>
    obtain ⟨o, q, _, d⟩ := (show h.IsListIter it a i from p)
    exact ⟨o, _, q, d⟩
theorem drawsB {prog : Program} {w : World} {A : Around} (hh : A.handled = none) (b : Bool) (it a : Addr) (n : a ≠ it) (its : Array Value) : Draws prog w A it [it, a] its.size (fun i v => its[i]? = some v) (fun i h => itB b h it a i ∧ hpB b h a its) := by
  cases b with
  | true => exact Draws.tuple hh it a n its
  | false => exact Draws.list hh it a n its
theorem beginsB (b : Bool) (a : Addr) (its : Array Value) : Begins (.ref a) (obB b a) fun h => hpB b h a its := by
  cases b with
  | true => exact begins_tuple a its
  | false => exact begins_list a its
theorem itB.first {b : Bool} {h : Heap} {it a : Addr} (p : h.get? it = some (obB b a)) : itB b h it a 0 := by
  cases b with
  | true => exact ⟨_, p, rfl, rfl⟩
  | false => exact ⟨_, p, rfl, rfl⟩
/-- two rows of either kind, item by item in new pairs -/
def ItzB (K : PySem.W.Frag) (b1 b2 : Bool) (a b : Addr) (n m : Nat) : It :=
  ⟨fun i H => (i < n ∧ i < m) ∧ ∃ (xs ys : List V) (x y : V), SqB K b1 H a xs ∧ SqB K b2 H b ys ∧ (xs.length = n ∧ ys.length = m) ∧ xs[i]? = some x ∧ ys[i]? = some y,
    fun i H v H' => ∃ T x y, v = .ref T ∧ H T = none ∧ H' = upd H T (.tup [x, y]) ∧ (∀ xs, SqB K b1 H a xs → xs[i]? = some x) ∧ ∀ ys, SqB K b2 H b ys → ys[i]? = some y,
    fun i H => (n ≤ i ∨ m ≤ i) ∧ ∃ xs ys : List V, SqB K b1 H a xs ∧ SqB K b2 H b ys ∧ xs.length = n ∧ ys.length = m⟩
theorem in5 {P : Addr → Prop} {z TI TO i1 i2 : Addr} (h1 : P z) (h2 : P TI) (h3 : P TO) (h4 : P i1) (h5 : P i2) : ∀ c, c ∈ [z, TI, TO, i1, i2] → P c := fun c hc => by
  simp only [List.mem_cons, List.not_mem_nil, or_false] at hc
  rcases hc with e | e | e | e | e <;> (rw [e]; assumption)
theorem turn_zB {P : Program} {w : World} {K : PySem.W.Frag} {elts : List Expr} {kk : Nat} {tpos : Pos} {b1 b2 : Bool} {a b z TI TO i1 i2 : Addr} (n m : Nat) (D : ZipSep2 z TI TO i1 i2 [i1, a] [i2, b]) (na : a ≠ i1) (nb : b ≠ i2) :
    Turn P w K (.Tuple elts kk tpos) (ItzB K b1 b2 a b n m) [z, TI, TO, i1, i2] z (fun i h => IsZip h z TI TO .none ∧ IsTupOf2 h TI (.ref i1) (.ref i2) ∧ (∃ x y, IsTupOf2 h TO x y) ∧ itB b1 h i1 a i ∧ itB b2 h i2 b i ∧ i ≤ n ∧ i ≤ m) where
  mem := List.mem_cons_self ..
  obj := fun i h st => by
    obtain ⟨hz, hTI, ⟨x, y, hTO⟩, p1, p2, _⟩ := st
    obtain ⟨o1, f1, e1, d1⟩ := p1.obj
    obtain ⟨o2, f2, e2, d2⟩ := p2.obj
    refine in5 ⟨_, hz, fun v q => nomatch q⟩ ⟨_, hTI, fun v q => nomatch q⟩ ⟨_, hTO, fun v q => nomatch q⟩ ⟨o1, e1, fun v q => ?_⟩ ⟨o2, e2, fun v q => ?_⟩
    · rw [d1] at q
      cases q
    · rw [d2] at q
      cases q
  keep := fun i h h' st k => by
    obtain ⟨hz, hTI, ⟨x, y, hTO⟩, p1, p2, le⟩ := st
    exact ⟨k z (by simp) _ hz, k TI (by simp) _ hTI, ⟨x, y, k TO (by simp) _ hTO⟩, p1.keep (k i1 (by simp)), p2.keep (k i2 (by simp)), le⟩
  item := by
    intro X hP hw hK hc i pins s σ H E I hf st hg
    subst hP hw hK
    obtain ⟨hz, hTI, ⟨x0, y0, hTO⟩, p1, p2, _⟩ := st
    obtain ⟨hi, xs, ys, x, y, qx, qy, hl, hx, hy⟩ := hg
    obtain ⟨its, rv, r1⟩ := seqB I qx
    obtain ⟨its2, rv2, r2⟩ := seqB I qy
    obtain ⟨u, hu, ru⟩ := rv.get hx
    obtain ⟨u2, hu2, ru2⟩ := rv2.get hy
    have l1 := rv.length
    have l2 := rv2.length
    have zl : z < s.heap.objs.size := Heap.lt_size hz
    have D1 := drawsB (prog := X.prog) (w := X.w) (A := X.A.in1) (I.ok.hd hc) b1 i1 a na its.toArray
    have D2 := drawsB (prog := X.prog) (w := X.w) (A := X.A.in1) (I.ok.hd hc) b2 i2 b nb its2.toArray
    refine wpAny_pyNext_zipD2_item D D1 D2 hz hTI hTO ⟨p1, r1⟩ ⟨p2, r2⟩ (by simp; omega) (by simp; omega) fun x1 x2 h' tk g1 g2 z' TO' s1 s2 hT hsz hk => ?_
    have eu : x1 = u := by
      have g1 : its[i]? = some x1 := by simpa using g1
      rw [hu] at g1
      exact (Option.some.inj g1).symm
    have eu2 : x2 = u2 := by
      have g2 : its2[i]? = some x2 := by simpa using g2
      rw [hu2] at g2
      exact (Option.some.inj g2).symm
    subst eu eu2
    refine ⟨_, rfl, wpAny_letOwnedTupleGo_zip (s := { s with heap := h', toks := tk }) z' fun h'' z'' sb => ?_⟩
    have hT2 : h''.get? s.heap.objs.size = some { cls := .type "tuple", data := .seq #[x1, x2] } := (sb.2 _ (Nat.ne_of_gt zl)).trans hT
    have nw : ObjOk X.prog X.w (upd H s.heap.objs.size (.tup [x, y])) h'' s.heap.objs.size (.tup [x, y]) := ⟨by show 2 ≤ sizeLine; decide, [x1, x2], .cons ru (.cons ru2 .nil), ⟨_, hT2, rfl, _, rfl⟩⟩
    have out : ∀ c o, c ∉ [z, TI, TO, i1, i2] → s.heap.get? c = some o → h''.get? c = some o := fun c o hb q => by
      simp only [List.mem_cons, List.not_mem_nil, or_false, not_or] at hb
      exact (sb.2 c hb.1).trans (hk c o hb.1 hb.2.2.1 hb.2.2.2.1 hb.2.2.2.2 q)
    have I1 : Inv X pins σ (upd H s.heap.objs.size (.tup [x, y])) { s with heap := h'', toks := tk } := I.turnedNew (ch := [z, TI, TO, i1, i2]) out hf (Nat.le_refl _) nw
    refine ⟨.ref s.heap.objs.size, _, I1, rfl, ⟨_, x, y, rfl, I.hok.fresh (Nat.le_refl _), rfl, fun l q => by rw [seqB_inj I q qx]; exact hx, fun l q => by rw [seqB_inj I q qy]; exact hy⟩, ⟨z'', ?_, ⟨x1, x2, ?_⟩, ?_, ?_, hi.1, hi.2⟩, fun c hcm => ?_⟩
    · exact (sb.2 _ D.TIz).trans (hk _ _ D.TIz D.TITO D.TIi1 D.TIi2 hTI)
    · exact (sb.2 _ D.TOz).trans TO'
    · exact s1.1.keep fun o q => (sb.2 _ (Ne.symm D.zi1)).trans q
    · exact s2.1.keep fun o q => (sb.2 _ (Ne.symm D.zi2)).trans q
    · obtain ⟨_, _, e1, _⟩ := p1.obj
      obtain ⟨_, _, e2, _⟩ := p2.obj
      have hlt : c < s.heap.objs.size := in5 (P := fun c => c < s.heap.objs.size) zl (Heap.lt_size hTI) (Heap.lt_size hTO) (Heap.lt_size e1) (Heap.lt_size e2) c hcm
      rw [upd_ne (Nat.ne_of_lt hlt)]
      exact (hf c hcm).1
  done := by
    intro X hP hw hK hc i pins s σ H E I hf st hg
    subst hP hw hK
    obtain ⟨hz, hTI, ⟨x0, y0, hTO⟩, p1, p2, le1, le2⟩ := st
    obtain ⟨he, xs, ys, qx, qy, lx, ly⟩ := hg
    obtain ⟨its, rv, r1⟩ := seqB I qx
    obtain ⟨its2, rv2, r2⟩ := seqB I qy
    have l1 := rv.length
    have l2 := rv2.length
    have D1 := drawsB (prog := X.prog) (w := X.w) (A := X.A.in1) (I.ok.hd hc) b1 i1 a na its.toArray
    have D2 := drawsB (prog := X.prog) (w := X.w) (A := X.A.in1) (I.ok.hd hc) b2 i2 b nb its2.toArray
    refine wpAny_pyNext_zipD2_end D D1 D2 hz hTI hTO ⟨p1, r1⟩ ⟨p2, r2⟩ (by simp; omega) (by simp; omega) (by simp; omega) fun h' tk hk => ⟨rfl, I.turnedL (ch := [z, TI, TO, i1, i2]) (fun c o hb q => ?_) hf⟩
    simp only [List.mem_cons, List.not_mem_nil, or_false, not_or] at hb
    exact hk c o hb.1 hb.2.2.1 hb.2.2.2.1 hb.2.2.2.2 q
  self := fun A i s Q E st h => wpAny_pyIter_zip st.1 h
theorem sep_zB {I l m : Nat} (h1 : l < I) (h2 : m < I) : ZipSep2 (I + 4) (I + 2) (I + 3) I (I + 1) [I, l] [I + 1, m] := by
  have no : ∀ {x y z : Nat}, x ≠ y → x ≠ z → x ∉ [y, z] := fun a b q => by
    rcases List.mem_cons.mp q with q | q
    · exact a q
    · exact b (List.mem_singleton.mp q)
  have mm : ∀ {x y : Nat}, x ∈ [x, y] := List.mem_cons_self ..
  exact ⟨by show (_ : Nat) ≠ _; omega, by show (_ : Nat) ≠ _; omega, by show (_ : Nat) ≠ _; omega, by show (_ : Nat) ≠ _; omega, mm, no (by omega) (by omega), no (by omega) (by omega), by show (_ : Nat) ≠ _; omega, mm, no (by omega) (by omega), no (by omega) (by omega), no (by omega) (by omega), no (by omega) (by omega)⟩
def iZB (K : PySem.W.Frag) (ta : TA) : TI := fun σ H R => ta σ H fun vs H1 => ∃ b1 b2 a b xs ys, vs = [.ref a, .ref b] ∧ SqB K b1 H1 a xs ∧ SqB K b2 H1 b ys ∧ R (ItzB K b1 b2 a b xs.length ys.length) H1
theorem pi_zB {X : Cx} {e e2 : Expr} {ta : TA} {p pos tpos : Pos} {elts : List Expr} {kk : Nat} (hg : Gl X "zip") (hm : X.mg "zip" = none) (ha : PA X [e, e2] ta)
    (hs : starEach [e, e2] X.env = (false, eval e X.env) :: starEach [e2] X.env := by rfl) (hpl : (backTo pos (starEach [e2] X.env)).any (·.1) = false := by rfl) :
    PI X (.Tuple elts kk tpos) (.Call (.Name "zip" p) [e, e2] [] pos) (iZB X.K ta) := by
  refine ⟨fun pins s σ H R I h => Call_ (ld_blt I hg hm PyProof.Rows.boot_zip (PyProof.Rows.callWith_type1 (thn (ha.run pos pins s σ H _ I h) fun us s1 ⟨vs, H1, I1, r1, q1⟩ => ?_) hs hpl))⟩
  obtain ⟨b1, b2, a, b, xs, ys, rfl, qx, qy, q⟩ := q1
  cases r1 with
  | cons r rr =>
    cases rr with
    | cons r' rr =>
      cases rr
      cases r
      cases r'
      obtain ⟨its, rv, p1⟩ := seqB I1 qx
      obtain ⟨its2, rv2, p2⟩ := seqB I1 qy
      have la := p1.lt
      have lb := p2.lt
      refine zip_begins2 (beginsB b1 a its.toArray) (beginsB b2 b its2.toArray) p1 p2 fun h' hz hTI hTO g1 g2 hsz hk => wpAny_pyIter_zip hz ?_
      have I2 : Inv X pins σ H1 { s1 with heap := h' } := I1.kept (t' := s1.toks) hk
      have fp : ∀ c, s1.heap.objs.size ≤ c → FpOk X pins H1 c := fun c hle => I1.fpOk hle (I1.hok.fresh hle)
      exact ⟨_, [s1.heap.objs.size + 4, s1.heap.objs.size + 2, s1.heap.objs.size + 3, s1.heap.objs.size, s1.heap.objs.size + 1], _, _, H1, rfl, I2, turn_zB xs.length ys.length (sep_zB la lb) (Nat.ne_of_lt la) (Nat.ne_of_lt (Nat.lt_succ_of_lt lb)), ⟨hz, hTI, ⟨_, _, hTO⟩, .first g1, .first g2, Nat.zero_le _, Nat.zero_le _⟩, in5 (fp _ (Nat.le_add_right _ _)) (fp _ (Nat.le_add_right _ _)) (fp _ (Nat.le_add_right _ _)) (fp _ (Nat.le_refl _)) (fp _ (Nat.le_add_right _ _)), q⟩
def isTW : W → Option (Bool × List W)
  | .tup ws => some (true, ws)
  | .lst ws => some (false, ws)
  | _ => none
/-- zip of rows of either kind -/
def zbW : List W → T (List W)
  | [x, y] => match isTW x, isTW y with
    | some (_, ws), some (_, us) => .ok (zipF ws us)
    | _, _ => .bad
  | _ => .bad
section
variable {K : PySem.W.Frag} {c : Cc} {d : Nat} {H H1 : Hp}
/-- a row that is plain data -/
def RowB (K : PySem.W.Frag) (c : Cc) (H : Hp) (b : Bool) (a : Addr) (vs : List V) : Prop := match b with
  | true => SqT K H a vs
  | false => a ∉ c.A ∧ H a = some (.lst vs)
theorem RowB.sq {b : Bool} {a : Addr} {vs : List V} (h : RowB K c H b a vs) : SqB K b H a vs := by
  cases b with
  | true => exact h
  | false => exact SqL.of h.2
theorem RowB.fwd {c' : Cc} {H' : Hp} {b : Bool} {a : Addr} {vs : List V} (ok : CcOk c) (mo : MOk c H) (h : RowB K c H b a vs) (fw : Fwd K c H c' H') : SqB K b H' a vs := by
  cases b with
  | true => exact fw.sq a vs h
  | false => exact SqL.of (fw.step _ _ h.2 (ok.neS h.1) (ok.nela h.1) fun z => h.1 (mo.inA _ z))
theorem it_zB {b1 b2 : Bool} {a b : Addr} {vs us : List V} {ws zs : List W} (ok : CcOk c) (mo : MOk c H) (hq : RowB K c H b1 a vs) (rl : RepL K c H ws vs) (hp : RowB K c H b2 b us) (rm : RepL K c H zs us) : ItOk K c H (ItzB K b1 b2 a b vs.length us.length) (zipF ws zs) := fun c' H' d' i fw wd => by
  have hq' := hq.fwd ok mo fw
  have hp' := hp.fwd ok mo fw
  refine ⟨fun w hw => ?_, fun hi => ?_⟩
  · obtain ⟨w1, w2, h1, h2, rfl⟩ := zipF_get _ _ _ _ hw
    obtain ⟨v, hv, rv⟩ := rl.get h1
    obtain ⟨u, hu, ru⟩ := rm.get h2
    refine ⟨⟨⟨(List.getElem?_eq_some_iff.mp hv).1, (List.getElem?_eq_some_iff.mp hu).1⟩, vs, us, v, u, hq', hp', ⟨rfl, rfl⟩, hv, hu⟩, fun x H2 y => ?_⟩
    obtain ⟨T, x', y', rfl, hT, rfl, y1, y2⟩ := y
    have ex := y1 vs hq'
    have ey := y2 us hp'
    rw [hv] at ex
    rw [hu] at ey
    cases ex
    cases ey
    exact new_pair wd hT (fw.rep _ _ rv) (fw.rep _ _ ru)
  · rw [zipF_length, rl.length, rm.length] at hi
    exact ⟨by omega, vs, us, hq', hp', rfl, rfl⟩
theorem Rep.row {w : W} {v : V} {b : Bool} {ws : List W} (r : Rep K c H w v) (h : isTW w = some (b, ws)) : ∃ a vs, v = .ref a ∧ RowB K c H b a vs ∧ RepL K c H ws vs := by
  cases r with
  | tup hq rl =>
    cases h
    exact ⟨_, _, rfl, hq, rl⟩
  | lst n hq rl =>
    cases h
    exact ⟨_, _, rfl, ⟨n, hq⟩, rl⟩
  | _ => cases h
end
theorem tri_zB {X : Cx} {E : WX} {e e2 : Expr} {fs : En → T (List W)} {p pos tpos : Pos} {elts : List Expr} {kk : Nat} (hg : Gl X "zip") (hm : X.mg "zip" = none) (ha : TrA X E [e, e2] fs) (hs : starEach [e, e2] X.env = (false, eval e X.env) :: starEach [e2] X.env := by rfl) (hpl : (backTo pos (starEach [e2] X.env)).any (·.1) = false := by rfl) :
    TrI X E (.Tuple elts kk tpos) (.Call (.Name "zip" p) [e, e2] [] pos) (iL zbW fs) := pi_imp (pi_zB hg hm ha hs hpl) fun σ H R q => by
  obtain ⟨c, d, oa, ρ, e, q⟩ := q
  refine liftA_then (P := fun c H => PJ X.K c H R) e q (fun st p => p.later st) fun w v H1 d1 _ r1 e1 h1 => ?_
  cases r1 with
  | nil => exact h1.elim
  | cons r rr =>
    cases rr with
    | nil => exact h1.elim
    | cons r2 rr =>
      cases rr with
      | cons _ _ => exact h1.elim
      | nil =>
        simp only [zbW] at h1
        split at h1
        · rename_i b1 ws b2 us t1 t2
          obtain ⟨a, vs, rfl, w1, l1⟩ := r.row t1
          obtain ⟨b, zs, rfl, w2, l2⟩ := r2.row t2
          exact ⟨b1, b2, a, b, vs, zs, rfl, w1.sq, w2.sq, PJ.now e1.wd h1 (it_zB e1.ok e1.m w1 l1 w2 l2)⟩
        · exact h1.elim
def sAt (i : Nat) (fi fe : En → T W) : En → T (Fl × En) := fun ρ => match ρ[i]? with
  | some (.own ws) => (fe ρ).bind fun w => (fi ρ).bind fun k => match k with
    | .int k => match ixN ws.length k with
      | some j => .ok (.nx, ρ.set i (.own (ws.set j w)))
      | none => .bad
    | _ => .bad
  | _ => .bad
theorem tr_at {X : Cx} {E : XK} {o x e : Expr} {fi fe : En → T W} {i : Nat} {pos pos2 : Pos} (ho : PE X o (tVar i)) (hi : TrE X (wOf E) x fi) (he : TrE X (wOf E) e fe)
    (ha : ∀ v, assign (.Subscript o x pos2) X.env v = (do
      let ov ← holding [v] (eval o X.env)
      let iv ← holding [v, ov] (eval x X.env)
      standAt pos2
      holding [v, ov, iv] (setItem ov iv v)
      release [v, ov, iv] []) := by intro _; rfl)
    (hs : swapsWithSole [.Subscript o x pos2] e pos.line X.env = pure false := by rfl) (hw : swappedStores [.Subscript o x pos2] e X.env = pure none := by rfl) (h1 : (assignEach [.Subscript o x pos2] X.env).map (·.2) = [assign (.Subscript o x pos2) X.env] := by rfl) :
    TrS X E (.Assign [.Subscript o x pos2] e pos) (sAt i fi fe) := ps_imp (ps_asg he (pg_sub ho hi set_list ha) hs hw h1) fun D σ H q => by
  obtain ⟨c, d, oa, ρ, e, q⟩ := q
  unfold sAt at q
  split at q
  · rename_i ws hw
    refine lift_then (P := fun c H => PSq X.K c H D) e q (fun st p => p.later (.of st e.wd)) fun w v H1 d1 _ r1 e1 h1 => ?_
    obtain ⟨m1, m2, vs, m3, m4⟩ := e1.own i ws hw
    refine ⟨_, m2, lift_then (P := fun c H => PSq X.K c H D) e1 h1 (fun st p => p.later (.of st e1.wd)) fun k kv H2 d2 st2 r2 e2 h2 => ?_⟩
    cases r2 with
    | int k =>
      simp only [] at h2
      split at h2
      · rename_i j hj
        obtain ⟨g1, g2, us, g3, g4⟩ := e2.own i ws hw
        obtain ⟨e3, fw⟩ := e2.ownUpd hw (g4.set j (r1.step st2 e1.st e1.ok))
        exact ⟨_, us, k, j, rfl, rfl, g3, by rw [← g4.length]; exact hj, h2 c oa σ _ fw e3⟩
      · exact h2.elim
    | _ => exact h2.elim
  · exact q.elim
def insI (x : Int) : List Int → List Int
  | [] => [x]
  | y :: ys => if y < x then y :: insI x ys else x :: y :: ys
def sortI : List Int → List Int
  | [] => []
  | x :: xs => insI x (sortI xs)
theorem insI_perm (x : Int) : ∀ l, (insI x l).Perm (x :: l)
  | [] => .refl _
  | y :: ys => by
    unfold insI
    split
    · exact ((insI_perm x ys).cons y).trans (.swap x y ys)
    · exact .refl _
theorem sortI_perm : ∀ l, (sortI l).Perm l
  | [] => .refl _
  | x :: xs => (insI_perm x _).trans ((sortI_perm xs).cons x)
theorem insI_asc {x : Int} : ∀ {l : List Int}, l.Pairwise (· ≤ ·) → (insI x l).Pairwise (· ≤ ·)
  | [], _ => List.pairwise_singleton _ _
  | y :: ys, h => by
    obtain ⟨h1, h2⟩ := List.pairwise_cons.mp h
    unfold insI
    split
    · rename_i hl
      refine List.pairwise_cons.mpr ⟨fun z hz => ?_, insI_asc h2⟩
      rcases List.mem_cons.mp ((insI_perm x ys).mem_iff.mp hz) with rfl | hz
      · omega
      · exact h1 z hz
    · rename_i hl
      refine List.pairwise_cons.mpr ⟨fun z hz => ?_, h⟩
      rcases List.mem_cons.mp hz with rfl | hz
      · omega
      · have := h1 z hz
        omega
theorem sortI_asc : ∀ l : List Int, (sortI l).Pairwise (· ≤ ·)
  | [] => List.Pairwise.nil
  | x :: xs => insI_asc (sortI_asc xs)
theorem asc_uniq {l m : List Int} (h : l.Pairwise (· ≤ ·)) (g : m.Pairwise (· ≤ ·)) (p : l.Perm m) : l = m := List.Perm.eq_of_pairwise (fun a b _ _ h1 h2 => Int.le_antisymm h1 h2) h g p
def sortedI : List W → T W
  | [.lst ws] => match intsW ws with
    | some ns => .ok (.lst ((sortI ns).map W.int))
    | none => .bad
  | _ => .bad
theorem sem_sortedI {K : PySem.W.Frag} : SemL K (rSortedI K) sortedI := fun c d H x v Q E' wd rx q => by
  cases rx with
  | nil => exact q.elim
  | cons r rr =>
    cases rr with
    | cons _ _ => cases r <;> exact q.elim
    | nil =>
      cases r with
      | lst n hq rl =>
        simp only [sortedI] at q
        split at q
        · rename_i ns hk
          rw [intsW_map hk] at rl
          rw [rl.ints] at hq
          refine ⟨_, ns, rfl, SqL.of hq, fun zs p h1 h2 hf => ?_⟩
          rw [asc_uniq h2 (sortI_asc ns) (h1.trans (sortI_perm ns).symm)]
          exact q _ _ (.new hf) (wd.st.new hf) (.lst (wd.fresh hf) upd_same (RepL.ofInts _))
        · exact q.elim
      | _ => exact q.elim
end PF
namespace Lw
open PySem PySem.Spec PyProof.Rows L2 PF
def k_NOUGHT : W := (.tup [(.int 0), (.int 1)])
def k_LEAST_MANY : W := (.int 1)
def k_MOST_MANY : W := (.int 8)
def k_ALL : W := (.tup [(.int 1), (.int 1)])
def k_MOST_LETTERS : W := (.int 8)
def k_MOST_STAIR : W := (.int 1000)
def F_is_integer : List W → T W := defF 1 1 (sRet (fAndV (f1 (isiW isInt) (gV 0)) (fNotV (f1 (isiW (isOnly "bool")) (gV 0)))))
def F_common : List W → T W := defF 2 2 (sSeq (sPar 0 1 (fCons (fL (fCons (gV 0) fNil) absW) (fCons (fL (fCons (gV 1) fNil) absW) fNil))) (sSeq (sWhile (fun ρ => wInt 1 ρ + 1) (fBl (f2 neS (gV 1) (fun _ => .ok (.int 0)))) (sPar 0 1 (fCons (gV 1) (fCons (f2 modW (gV 0) (fL (fCons (gV 1) fNil) intW)) fNil)))) (sRet (gV 0))))
def F_made : List W → T W := defF 3 2 (sSeq (sIf (fBl (f2 ltW (gV 1) (fun _ => .ok (.int 0)))) (sPar 0 1 (fCons (f2 subW (fun _ => .ok (.int 0)) (gV 0)) (fCons (f2 subW (fun _ => .ok (.int 0)) (gV 1)) fNil))) sNil) (sSeq (sSet 2 (fL (fCons (gV 0) (fCons (gV 1) fNil)) F_common)) (sRet (fL (fCons (f2 fdivW (gV 0) (gV 2)) (fCons (f2 fdivW (gV 1) (gV 2)) fNil)) mkTup))))
def F_is_fraction : List W → T W := defF 2 1 (sSeq (sIf (fOr (fNot (fTru (f1 (isiW (isOnly "tuple")) (gV 0)))) (fOr (fBl (f2 neS (fL (fCons (gV 0) fNil) lenW) (fun _ => .ok (.int 2)))) (fNot (fTru (fL (fCons (fComp [1] (iOf tupW (gV 0)) (goName 1) fYes (fL (fCons (gV 1) fNil) F_is_integer)) fNil) allW))))) (sRet (fun _ => .ok (.bl false))) sNil) (sRet (fAndV (f2 geW (f2 ixW (gV 0) (fun _ => .ok (.int 1))) (fun _ => .ok (.int 1))) (f2 eqS (fL (fCons (f2 ixW (gV 0) (fun _ => .ok (.int 0))) (fCons (f2 ixW (gV 0) (fun _ => .ok (.int 1))) fNil)) F_common) (fun _ => .ok (.int 1))))))
def F_add : List W → T W := defF 2 2 (sRet (fL (fCons (f2 addW (f2 mulW (f2 ixW (gV 0) (fun _ => .ok (.int 0))) (f2 ixW (gV 1) (fun _ => .ok (.int 1)))) (f2 mulW (f2 ixW (gV 1) (fun _ => .ok (.int 0))) (f2 ixW (gV 0) (fun _ => .ok (.int 1))))) (fCons (f2 mulW (f2 ixW (gV 0) (fun _ => .ok (.int 1))) (f2 ixW (gV 1) (fun _ => .ok (.int 1)))) fNil)) F_made))
def F_div : List W → T W := defF 2 2 (sRet (fL (fCons (f2 mulW (f2 ixW (gV 0) (fun _ => .ok (.int 0))) (f2 ixW (gV 1) (fun _ => .ok (.int 1)))) (fCons (f2 mulW (f2 ixW (gV 0) (fun _ => .ok (.int 1))) (f2 ixW (gV 1) (fun _ => .ok (.int 0)))) fNil)) F_made))
def F_is_under : List W → T W := defF 2 2 (sRet (f2 ltW (f2 mulW (f2 ixW (gV 0) (fun _ => .ok (.int 0))) (f2 ixW (gV 1) (fun _ => .ok (.int 1)))) (f2 mulW (f2 ixW (gV 1) (fun _ => .ok (.int 0))) (f2 ixW (gV 0) (fun _ => .ok (.int 1))))))
def F_sum_in : List W → T W := defF 3 1 (sSeq (sSet 1 (fun _ => .ok k_NOUGHT)) (sSeq (sFor (iOf lstW (gV 0)) (goName 2) (sSet 1 (fL (fCons (gV 1) (fCons (gV 2) fNil)) F_add))) (sRet (gV 1))))
def F_is_between : List W → T W := defF 3 3 (sRet (fAndV (fL (fCons (gV 0) fNil) F_is_integer) (fCh leW leW (gV 1) (gV 0) (gV 2))))
def F_are_shares : List W → T W := defF 2 1 (sSeq (sIf (fOr (fNot (fTru (f1 (isiW (isOnly "tuple")) (gV 0)))) (fNot (fTru (fL (fCons (fComp [1] (iOf tupW (gV 0)) (goName 1) fYes (fAndV (fL (fCons (gV 1) fNil) F_is_fraction) (f2 geW (f2 ixW (gV 1) (fun _ => .ok (.int 0))) (fun _ => .ok (.int 0))))) fNil) allW)))) (sRet (fun _ => .ok (.bl false))) sNil) (sRet (f2 eqS (fL (fCons (fL (fCons (gV 0) fNil) lstOfW) fNil) F_sum_in) (fun _ => .ok k_ALL))))
def F_is_chances : List W → T W := defF 1 1 (sRet (fAndV (fL (fCons (gV 0) fNil) F_are_shares) (fCh leW leW (f2 addW (fun _ => .ok k_LEAST_MANY) (fun _ => .ok (.int 1))) (fL (fCons (gV 0) fNil) lenW) (f2 addW (fun _ => .ok k_MOST_MANY) (fun _ => .ok (.int 1))))))
def F_need_chances : List W → T W := defF 1 1 (sSeq (sIf (fNot (fTru (fL (fCons (gV 0) fNil) F_is_chances))) sNever sNil) (sRet (gV 0)))
def F_rates_in : List W → T W := defF 2 1 (sRet (f2 addW (fComp [1] (iL rng2 (fCons (fun _ => .ok (.int 1)) (fCons (gV 0) fNil))) (goName 1) fYes (fL (fCons (fun _ => .ok (.int 1)) (fCons (f2 mulW (gV 1) (f2 addW (gV 1) (fun _ => .ok (.int 1)))) fNil)) F_made)) (fL (fCons (fL (fCons (fun _ => .ok (.int 1)) (fCons (gV 0) fNil)) F_made) fNil) mkLst)))
def F_rates : List W → T W := defF 1 1 (sSeq (sIf (fNot (fTru (fL (fCons (gV 0) (fCons (fun _ => .ok k_LEAST_MANY) (fCons (fun _ => .ok k_MOST_MANY) fNil))) F_is_between))) sNever sNil) (sRet (fL (fCons (fL (fCons (gV 0) fNil) F_rates_in) fNil) tupOfW)))
def F_slope_of : List W → T W := defF 1 1 (sRet (fL (fCons (f2 ixW (gV 0) (fun _ => .ok (.int 2))) (fCons (f2 ixW (gV 0) (fun _ => .ok (.int 3))) fNil)) F_div))
def F_pools_in : List W → T W := defF 6 1 (sSeq (sOwn 1 fNil) (sSeq (sFor (iL enL (fCons (fL (fCons (f2 subW (fL (fCons (gV 0) fNil) lenW) (fun _ => .ok (.int 1))) fNil) F_rates_in) fNil)) (goTup 2 (goCons (goName 2) (goCons (goName 3) goNil))) (sSeq (sApp 1 (fCons (fL (fCons (f2 addW (gV 2) (fun _ => .ok (.int 1))) (fCons (f2 addW (gV 2) (fun _ => .ok (.int 1))) (fCons (f2 ixW (gV 0) (f2 addW (gV 2) (fun _ => .ok (.int 1)))) (fCons (gV 3) fNil)))) mkTup) fNil)) (sWhile (fun _ => 100) (onFrz 1 (fAnd (fBl (f2 gtW (fL (fCons (gV 1) fNil) lenW) (fun _ => .ok (.int 1)))) (fNot (fTru (fL (fCons (fL (fCons (f2 ixW (gV 1) (f1 negW (fun _ => .ok (.int 2)))) fNil) F_slope_of) (fCons (fL (fCons (f2 ixW (gV 1) (f1 negW (fun _ => .ok (.int 1)))) fNil) F_slope_of) fNil)) F_is_under))))) (sSeq (sPop0 1 (goName 4)) (sSeq (sPop0 1 (goName 5)) (sApp 1 (fCons (fL (fCons (f2 ixW (gV 5) (fun _ => .ok (.int 0))) (fCons (f2 ixW (gV 4) (fun _ => .ok (.int 1))) (fCons (fL (fCons (f2 ixW (gV 5) (fun _ => .ok (.int 2))) (fCons (f2 ixW (gV 4) (fun _ => .ok (.int 2))) fNil)) F_add) (fCons (fL (fCons (f2 ixW (gV 5) (fun _ => .ok (.int 3))) (fCons (f2 ixW (gV 4) (fun _ => .ok (.int 3))) fNil)) F_add) fNil)))) mkTup) fNil))))))) (onFrz 1 (sRet (gV 1)))))
def F_pools : List W → T W := defF 2 1 (sRet (fL (fCons (fComp [1] (iOf lstW (fL (fCons (fL (fCons (gV 0) fNil) F_need_chances) fNil) F_pools_in)) (goName 1) fYes (fSl (gV 1) pNo (pSome (fun _ => .ok (.int 2))))) fNil) tupOfW))
def F_slopes : List W → T W := defF 2 1 (sRet (fL (fCons (fComp [1] (iOf lstW (fL (fCons (fL (fCons (gV 0) fNil) F_need_chances) fNil) F_pools_in)) (goName 1) fYes (fL (fCons (gV 1) fNil) F_slope_of)) fNil) tupOfW))
def F_is_stair : List W → T W := defF 3 1 (sSeq (sIf (fOr (fNot (fTru (f1 (isiW (isOnly "tuple")) (gV 0)))) (fNot (fBl (fCh leW leW (fun _ => .ok (.int 1)) (fL (fCons (gV 0) fNil) lenW) (fun _ => .ok k_MOST_LETTERS))))) (sRet (fun _ => .ok (.bl false))) sNil) (sSeq (sIf (fNot (fTru (fL (fCons (fComp [1] (iOf tupW (gV 0)) (goName 1) fYes (fL (fCons (gV 1) (fCons (fun _ => .ok (.int 0)) (fCons (fun _ => .ok k_MOST_STAIR) fNil))) F_is_between)) fNil) allW))) (sRet (fun _ => .ok (.bl false))) sNil) (sRet (fL (fCons (fComp [1, 2] (iL zpW (fCons (gV 0) (fCons (fSl (gV 0) (pSome (fun _ => .ok (.int 1))) pNo) fNil))) (goTup 2 (goCons (goName 1) (goCons (goName 2) goNil))) fYes (f2 leW (gV 1) (gV 2))) fNil) allW))))
def F_need_stair : List W → T W := defF 1 1 (sIf (fNot (fTru (fL (fCons (gV 0) fNil) F_is_stair))) sNever sNil)
def F_price_in : List W → T W := defF 4 1 (sSeq (sSet 1 (fComp [2, 3] (iL enT (fCons (fSl (gV 0) pNo (pSome (f1 negW (fun _ => .ok (.int 1))))) fNil)) (goTup 2 (goCons (goName 2) (goCons (goName 3) goNil))) fYes (fL (fCons (gV 3) (fCons (f2 mulW (f2 addW (gV 2) (fun _ => .ok (.int 1))) (f2 addW (gV 2) (fun _ => .ok (.int 2)))) fNil)) F_made))) (sRet (fL (fCons (fL (fStar (gV 1) (fCons (fL (fCons (f2 ixW (gV 0) (f1 negW (fun _ => .ok (.int 1)))) (fCons (fL (fCons (gV 0) fNil) lenW) fNil)) F_made) fNil)) mkLst) fNil) F_sum_in)))
def F_price_of : List W → T W := defF 1 1 (sSeq (sExpr (fL (fCons (gV 0) fNil) F_need_stair)) (sRet (fL (fCons (gV 0) fNil) F_price_in)))
def F__law_mixed : List W → T W := defF 2 2 (sSeq (sSet 0 (f2 modW (fL (fCons (gV 0) fNil) intW) (fun _ => .ok (.int 2147483647)))) (sRet (f2 modW (f2 mulW (f2 modW (f2 addW (f2 addW (f2 mulW (gV 0) (f2 addW (fun _ => .ok (.int 48271)) (f2 mulW (f2 mulW (fun _ => .ok (.int 2)) (gV 1)) (gV 1)))) (f2 mulW (fun _ => .ok (.int 69621)) (gV 1))) (fun _ => .ok (.int 11))) (fun _ => .ok (.int 2147483647))) (fun _ => .ok (.int 69621))) (fun _ => .ok (.int 2147483629)))))
def mixv (c k : Int) : Int := ((c % 2147483647) * (48271 + 2 * k * k) + 69621 * k + 11) % 2147483647 * 69621 % 2147483629
theorem mix_run {c k : Int} (h0 : 0 ≤ k) (h1 : k ≤ 2 ^ 61) : F__law_mixed [.int c, .int k] = .ok (.int (mixv c k)) := by
  have hc0 : 0 ≤ c % 2147483647 := Int.emod_nonneg _ (by decide)
  have hc1 : c % 2147483647 < 2147483647 := Int.emod_lt_of_pos _ (by decide)
  have m1 : mulOk 2 k = true := mulOk_of (a := 2) (b := 62) (by decide) (by omega) (by decide) (by decide) (by decide)
  have m2 : mulOk (2 * k) k = true := mulOk_of (a := 64) (b := 62) (by omega) (by omega) (by decide) (by decide) (by decide)
  have hkk : (2 * k * k).natAbs < 2 ^ 126 := wide_lt (a := 64) (b := 62) (by omega) (by omega)
  have m3 : mulOk (c % 2147483647) (48271 + 2 * k * k) = true := mulOk_of (a := 32) (b := 127) (by omega) (by omega) (by decide) (by decide) (by decide)
  have m4 : mulOk 69621 k = true := mulOk_of (a := 20) (b := 62) (by decide) (by omega) (by decide) (by decide) (by decide)
  have hr0 : 0 ≤ ((c % 2147483647) * (48271 + 2 * k * k) + 69621 * k + 11) % 2147483647 := Int.emod_nonneg _ (by decide)
  have hr1 : ((c % 2147483647) * (48271 + 2 * k * k) + 69621 * k + 11) % 2147483647 < 2147483647 := Int.emod_lt_of_pos _ (by decide)
  have m5 : mulOk (((c % 2147483647) * (48271 + 2 * k * k) + 69621 * k + 11) % 2147483647) 69621 = true := mulOk_of (a := 32) (b := 20) (by omega) (by decide) (by decide) (by decide) (by decide)
  simp [F__law_mixed, defF, startE, endOf, m1, m2, m3, m4, m5, mixv]
theorem mixv_lt (c k : Int) : 0 ≤ mixv c k ∧ mixv c k < 2147483629 := ⟨Int.emod_nonneg _ (by decide), Int.emod_lt_of_pos _ (by decide)⟩
def F__law_of : List W → T W := defF 2 2 (sRet (f2 ixW (gV 1) (fL (fCons (gV 0) (fCons (fL (fCons (gV 1) fNil) lenW) fNil)) F__law_draw)))
def F__law_ratio : List W → T W := defF 4 2 (sSeq (sPar 2 3 (fCons (fL (fCons (gV 0) fNil) absW) (fCons (gV 1) fNil))) (sSeq (sWhile (fun ρ => wInt 3 ρ + 1) (fBl (f2 neS (gV 3) (fun _ => .ok (.int 0)))) (sPar 2 3 (fCons (gV 3) (fCons (f2 modW (fL (fCons (gV 2) fNil) intW) (gV 3)) fNil)))) (sRet (fL (fCons (f2 fdivW (gV 0) (gV 2)) (fCons (f2 fdivW (gV 1) (gV 2)) fNil)) mkTup))))
def F__law_plus : List W → T W := defF 2 2 (sRet (fL (fCons (f2 addW (f2 mulW (f2 ixW (gV 0) (fun _ => .ok (.int 0))) (f2 ixW (gV 1) (fun _ => .ok (.int 1)))) (f2 mulW (f2 ixW (gV 1) (fun _ => .ok (.int 0))) (f2 ixW (gV 0) (fun _ => .ok (.int 1))))) (fCons (f2 mulW (f2 ixW (gV 0) (fun _ => .ok (.int 1))) (f2 ixW (gV 1) (fun _ => .ok (.int 1)))) fNil)) F__law_ratio))
def F__law_times : List W → T W := defF 2 2 (sRet (fL (fCons (f2 mulW (f2 ixW (gV 0) (fun _ => .ok (.int 0))) (f2 ixW (gV 1) (fun _ => .ok (.int 0)))) (fCons (f2 mulW (f2 ixW (gV 0) (fun _ => .ok (.int 1))) (f2 ixW (gV 1) (fun _ => .ok (.int 1)))) fNil)) F__law_ratio))
def F__law_over : List W → T W := defF 2 2 (sRet (fL (fCons (f2 mulW (f2 ixW (gV 0) (fun _ => .ok (.int 0))) (f2 ixW (gV 1) (fun _ => .ok (.int 1)))) (fCons (f2 mulW (f2 ixW (gV 0) (fun _ => .ok (.int 1))) (f2 ixW (gV 1) (fun _ => .ok (.int 0)))) fNil)) F__law_ratio))
def F__law_under : List W → T W := defF 2 2 (sRet (f2 ltW (f2 mulW (f2 ixW (gV 0) (fun _ => .ok (.int 0))) (f2 ixW (gV 1) (fun _ => .ok (.int 1)))) (f2 mulW (f2 ixW (gV 1) (fun _ => .ok (.int 0))) (f2 ixW (gV 0) (fun _ => .ok (.int 1))))))
def F__law_sum : List W → T W := defF 3 1 (sSeq (sSet 1 (fL (fCons (fun _ => .ok (.int 0)) (fCons (fun _ => .ok (.int 1)) fNil)) mkTup)) (sSeq (sFor (iOf lstW (gV 0)) (goName 2) (sSet 1 (fL (fCons (gV 1) (fCons (gV 2) fNil)) F__law_plus))) (sRet (gV 1))))
def F__law_odds : List W → T W := defF 6 2 (sSeq (sOwn 2 fNil) (sSeq (sFor (iL rng1 (fCons (f2 addW (fun _ => .ok (.int 2)) (fL (fCons (gV 0) (fCons (gV 1) fNil)) F__law_draw)) fNil)) (goName 3) (sApp 2 (fCons (fL (fCons (gV 0) (fCons (fL (fCons (fun _ => .ok (.int 0)) (fCons (fun _ => .ok (.int 1)) (fCons (fun _ => .ok (.int 1)) (fCons (fun _ => .ok (.int 2)) (fCons (fun _ => .ok (.int 5)) (fCons (fL (fCons (gV 0) (fCons (fun _ => .ok (.int 40)) fNil)) F__law_draw) fNil)))))) mkLst) fNil)) F__law_of) fNil))) (sSeq (sSet 4 (fL (fCons (gV 0) (fCons (fun ρ => (onFrz 2 (fL (fCons (gV 2) fNil) lenW) ρ).bind flat) fNil)) F__law_draw)) (sSeq (sAt 2 (gV 4) (f2 addW (fun ρ => (onFrz 2 (f2 ixW (gV 2) (gV 4)) ρ).bind flat) (fun _ => .ok (.int 1)))) (onFrz 2 (sRet (fL (fCons (fComp [5] (iOf lstW (gV 2)) (goName 5) fYes (fL (fCons (gV 5) (fCons (fL (fCons (gV 2) fNil) sumW) fNil)) F__law_ratio)) fNil) tupOfW)))))))
def F__law_rate_row : List W → T W := defF 2 1 (sRet (f2 addW (fComp [1] (iL rng2 (fCons (fun _ => .ok (.int 1)) (fCons (gV 0) fNil))) (goName 1) fYes (fL (fCons (fun _ => .ok (.int 1)) (fCons (f2 mulW (gV 1) (f2 addW (gV 1) (fun _ => .ok (.int 1)))) fNil)) mkTup)) (fL (fCons (fL (fCons (fun _ => .ok (.int 1)) (fCons (gV 0) fNil)) mkTup) fNil) mkLst)))
def F__law_slope : List W → T W := defF 4 3 (sSeq (sSet 3 (fL (fCons (fL (fCons (fSl (gV 0) (pSome (gV 1)) (pSome (f2 addW (gV 2) (fun _ => .ok (.int 1))))) fNil) lstOfW) fNil) F__law_sum)) (sRet (fL (fCons (gV 3) (fCons (fL (fCons (fSl (fL (fCons (f2 subW (fL (fCons (gV 0) fNil) lenW) (fun _ => .ok (.int 1))) fNil) F__law_rate_row) (pSome (f2 subW (gV 1) (fun _ => .ok (.int 1)))) (pSome (gV 2))) fNil) F__law_sum) fNil)) F__law_over)))
def F__law_pool_row : List W → T W := defF 6 1 (sSeq (sOwnPar 1 2 (fCons (fun _ => .ok (.int 1)) fNil)) (sSeq (sWhile (fun _ => 100) (fBl (f2 ltW (gV 2) (fL (fCons (gV 0) fNil) lenW))) (sSeq (sSet 3 (fun _ => .ok .non)) (sSeq (sFor (iL rng2 (fCons (gV 2) (fCons (fL (fCons (gV 0) fNil) lenW) fNil))) (goName 4) (sSeq (sSet 5 (fL (fCons (gV 0) (fCons (gV 2) (fCons (gV 4) fNil))) F__law_slope)) (sIf (fOr (fBl (f2 isW (gV 3) (fun _ => .ok .non))) (fNot (fTru (fL (fCons (f2 ixW (gV 3) (fun _ => .ok (.int 0))) (fCons (gV 5) fNil)) F__law_under)))) (sSet 3 (fL (fCons (gV 5) (fCons (gV 4) fNil)) mkTup)) sNil))) (sSeq (sApp 1 (fCons (fL (fCons (gV 2) (fCons (f2 ixW (gV 3) (fun _ => .ok (.int 1))) fNil)) mkTup) fNil)) (sSet 2 (f2 addW (f2 ixW (gV 3) (fun _ => .ok (.int 1))) (fun _ => .ok (.int 1)))))))) (onFrz 1 (sRet (gV 1)))))
def F__law_price : List W → T W := defF 4 1 (sSeq (sSet 1 (fComp [2, 3] (iL zbW (fCons (fL (fCons (fL (fCons (gV 0) fNil) lenW) fNil) F__law_rate_row) (fCons (gV 0) fNil))) (goTup 2 (goCons (goName 2) (goCons (goName 3) goNil))) fYes (fL (fCons (gV 2) (fCons (fL (fCons (gV 3) (fCons (fun _ => .ok (.int 1)) fNil)) mkTup) fNil)) F__law_times))) (sRet (fL (fCons (gV 1) fNil) F__law_sum)))
def F__law_right : List W → T W := defF 10 1 (sSeq (sPar 1 2 (fCons (fL (fCons (gV 0) fNil) reprW) (fCons (fL (fCons (fL (fCons (gV 0) fNil) F__law_pool_row) fNil) tupOfW) fNil))) (sSeq (sSet 3 (fL (fCons (fComp [6, 7] (iOf tupW (gV 2)) (goTup 2 (goCons (goName 6) (goCons (goName 7) goNil))) fYes (fL (fCons (gV 0) (fCons (gV 6) (fCons (gV 7) fNil))) F__law_slope)) fNil) tupOfW)) (sSeq (sIf (fBl (f2 neS (fComp [8, 9] (iL zpW (fCons (gV 3) (fCons (fSl (gV 3) (pSome (fun _ => .ok (.int 1))) pNo) fNil))) (goTup 2 (goCons (goName 8) (goCons (goName 9) goNil))) (fNot (fTru (fL (fCons (gV 8) (fCons (gV 9) fNil)) F__law_under))) (fun _ => .ok (.int 1))) (fL fNil mkLst))) (sRet (fun _ => .ok (.bl false))) sNil) (sSeq (sFor (iL rng1 (fCons (fun _ => .ok (.int 2)) fNil)) (goName 4) (sSeq (sSet 5 (fL (fCons (fL (fCons (gV 0) fNil) F_pools) (fCons (fL (fCons (gV 0) fNil) F_slopes) (fCons (fL (fCons (f2 subW (fL (fCons (gV 0) fNil) lenW) (fun _ => .ok (.int 1))) fNil) F_rates) (fCons (fL (fCons (gV 0) fNil) F_need_chances) fNil)))) mkLst)) (sIf (fBl (f2 neS (fL (fCons (gV 5) fNil) reprW) (fL (fCons (fL (fCons (gV 2) (fCons (gV 3) (fCons (fL (fCons (fL (fCons (f2 subW (fL (fCons (gV 0) fNil) lenW) (fun _ => .ok (.int 1))) fNil) F__law_rate_row) fNil) tupOfW) (fCons (gV 0) fNil)))) mkLst) fNil) reprW))) (sRet (fun _ => .ok (.bl false))) sNil))) (sRet (f2 eqS (fL (fCons (gV 0) fNil) reprW) (gV 1)))))))
def g_law : En → T (Fl × En) := (sSeq (sFor (iL rng1 (fCons (f2 addW (fun _ => .ok (.int 12)) (fL (fCons (fL (fCons (gV 0) fNil) lenW) (fCons (fun _ => .ok (.int 12)) fNil)) minW)) fNil)) (goName 2) (sSeq (sSet 3 (fL (fCons (gV 1) (fCons (fun _ => .ok (.int 8)) fNil)) F__law_odds)) (sSeq (sIf (fNot (fTru (fL (fCons (gV 3) fNil) F__law_right))) (sRet (fun _ => .ok (.bl false))) sNil) (sSeq (sSet 4 (fL (fCons (fL (fCons (fComp [10] (iOf tupW (fSl (gV 3) (pSome (fun _ => .ok (.int 1))) pNo)) (goName 10) fYes (fL (fCons (gV 1) (fCons (fun _ => .ok (.int 30)) fNil)) F__law_draw)) fNil) sortedI) fNil) tupOfW)) (sIf (fBl (f2 neS (fL (fCons (gV 4) fNil) F_price_of) (fL (fCons (gV 4) fNil) F__law_price))) (sRet (fun _ => .ok (.bl false))) sNil))))) (sSeq (sSet 5 (fL (fCons (fL (fCons (fun _ => .ok (.int 0)) (fCons (fun _ => .ok (.int 1)) fNil)) mkTup) (fCons (fL (fCons (fun _ => .ok (.int 1)) (fCons (fun _ => .ok (.int 3)) fNil)) mkTup) (fCons (fL (fCons (fun _ => .ok (.int 1)) (fCons (fun _ => .ok (.int 3)) fNil)) mkTup) (fCons (fL (fCons (fun _ => .ok (.int 1)) (fCons (fun _ => .ok (.int 3)) fNil)) mkTup) fNil)))) mkTup)) (sSeq (sSet 6 (fL (fCons (fL (fCons (gV 5) fNil) F_pools) (fCons (fL (fCons (gV 5) fNil) F_slopes) (fCons (fL (fCons (fun _ => .ok (.int 3)) fNil) F_rates) (fCons (fL (fCons (fL (fCons (fL (fCons (fun _ => .ok (.int 1)) (fCons (fun _ => .ok (.int 2)) fNil)) mkTup) (fCons (fL (fCons (fun _ => .ok (.int 1)) (fCons (fun _ => .ok (.int 2)) fNil)) mkTup) fNil)) mkTup) fNil) F_pools) (fCons (fL (fCons (fL (fCons (fL (fCons (fun _ => .ok (.int 1)) (fCons (fun _ => .ok (.int 2)) fNil)) mkTup) (fCons (fL (fCons (fun _ => .ok (.int 1)) (fCons (fun _ => .ok (.int 2)) fNil)) mkTup) fNil)) mkTup) fNil) F_slopes) (fCons (fL (fCons (fun _ => .ok (.int 1)) fNil) F_rates) fNil)))))) mkLst)) (sSeq (sSet 7 (fL (fCons (fL (fCons (fL (fCons (fun _ => .ok (.int 1)) (fCons (fun _ => .ok (.int 1)) fNil)) mkTup) (fCons (fL (fCons (fun _ => .ok (.int 2)) (fCons (fun _ => .ok (.int 3)) fNil)) mkTup) fNil)) mkTup) (fCons (fL (fCons (fL (fCons (fun _ => .ok (.int 2)) (fCons (fun _ => .ok (.int 3)) fNil)) mkTup) (fCons (fL (fCons (fun _ => .ok (.int 4)) (fCons (fun _ => .ok (.int 3)) fNil)) mkTup) fNil)) mkTup) (fCons (fL (fCons (fL (fCons (fun _ => .ok (.int 1)) (fCons (fun _ => .ok (.int 2)) fNil)) mkTup) (fCons (fL (fCons (fun _ => .ok (.int 1)) (fCons (fun _ => .ok (.int 6)) fNil)) mkTup) (fCons (fL (fCons (fun _ => .ok (.int 1)) (fCons (fun _ => .ok (.int 3)) fNil)) mkTup) fNil))) mkTup) (fCons (fL (fCons (fL (fCons (fun _ => .ok (.int 1)) (fCons (fun _ => .ok (.int 1)) fNil)) mkTup) fNil) mkTup) (fCons (fL (fCons (fL (fCons (fun _ => .ok (.int 1)) (fCons (fun _ => .ok (.int 2)) fNil)) mkTup) fNil) mkTup) (fCons (fL (fCons (fL (fCons (fun _ => .ok (.int 1)) (fCons (fun _ => .ok (.int 1)) fNil)) mkTup) fNil) mkTup) fNil)))))) mkLst)) (sSeq (sIf (fBl (f2 neS (gV 6) (gV 7))) (sRet (fun _ => .ok (.bl false))) sNil) (sSeq (sIf (fOr (fBl (f2 neS (fL (fCons (fL (fCons (fL (fCons (fun _ => .ok (.int 0)) (fCons (fun _ => .ok (.int 1)) fNil)) mkTup) (fCons (fL (fCons (fun _ => .ok (.int 2)) (fCons (fun _ => .ok (.int 3)) fNil)) mkTup) (fCons (fL (fCons (fun _ => .ok (.int 1)) (fCons (fun _ => .ok (.int 3)) fNil)) mkTup) (fCons (fL (fCons (fun _ => .ok (.int 0)) (fCons (fun _ => .ok (.int 1)) fNil)) mkTup) fNil)))) mkTup) fNil) F_pools) (fL (fCons (fL (fCons (fun _ => .ok (.int 1)) (fCons (fun _ => .ok (.int 3)) fNil)) mkTup) fNil) mkTup))) (fBl (f2 neS (fL (fCons (fL (fCons (fL (fCons (fun _ => .ok (.int 0)) (fCons (fun _ => .ok (.int 1)) fNil)) mkTup) (fCons (fL (fCons (fun _ => .ok (.int 2)) (fCons (fun _ => .ok (.int 3)) fNil)) mkTup) (fCons (fL (fCons (fun _ => .ok (.int 1)) (fCons (fun _ => .ok (.int 3)) fNil)) mkTup) (fCons (fL (fCons (fun _ => .ok (.int 0)) (fCons (fun _ => .ok (.int 1)) fNil)) mkTup) fNil)))) mkTup) fNil) F_slopes) (fL (fCons (fL (fCons (fun _ => .ok (.int 1)) (fCons (fun _ => .ok (.int 1)) fNil)) mkTup) fNil) mkTup)))) (sRet (fun _ => .ok (.bl false))) sNil) (sSeq (sSet 8 (fL (fCons (fL (fCons (fun _ => .ok (.int 0)) (fCons (fun _ => .ok (.int 1)) fNil)) mkTup) (fCons (fL (fCons (fun _ => .ok (.int 0)) (fCons (fun _ => .ok (.int 1)) fNil)) mkTup) (fCons (fL (fCons (fun _ => .ok (.int 0)) (fCons (fun _ => .ok (.int 1)) fNil)) mkTup) (fCons (fL (fCons (fun _ => .ok (.int 1)) (fCons (fun _ => .ok (.int 1)) fNil)) mkTup) fNil)))) mkTup)) (sSeq (sSet 9 (fL (fCons (fL (fCons (fun _ => .ok (.int 0)) (fCons (fun _ => .ok (.int 1)) fNil)) mkTup) (fCons (fL (fCons (fun _ => .ok (.int 1)) (fCons (fun _ => .ok (.int 1)) fNil)) mkTup) (fCons (fL (fCons (fun _ => .ok (.int 0)) (fCons (fun _ => .ok (.int 1)) fNil)) mkTup) (fCons (fL (fCons (fun _ => .ok (.int 0)) (fCons (fun _ => .ok (.int 1)) fNil)) mkTup) fNil)))) mkTup)) (sSeq (sSet 6 (fL (fCons (fL (fCons (gV 8) fNil) F_pools) (fCons (fL (fCons (gV 8) fNil) F_slopes) (fCons (fL (fCons (gV 9) fNil) F_pools) (fCons (fL (fCons (gV 9) fNil) F_slopes) (fCons (fL (fCons (fL (fCons (fL (fCons (fun _ => .ok (.int 1)) (fCons (fun _ => .ok (.int 1)) fNil)) mkTup) (fCons (fL (fCons (fun _ => .ok (.int 0)) (fCons (fun _ => .ok (.int 1)) fNil)) mkTup) (fCons (fL (fCons (fun _ => .ok (.int 0)) (fCons (fun _ => .ok (.int 1)) fNil)) mkTup) fNil))) mkTup) fNil) F_pools) fNil))))) mkLst)) (sRet (f2 eqS (gV 6) (fL (fCons (fL (fCons (fL (fCons (fun _ => .ok (.int 1)) (fCons (fun _ => .ok (.int 2)) fNil)) mkTup) (fCons (fL (fCons (fun _ => .ok (.int 3)) (fCons (fun _ => .ok (.int 3)) fNil)) mkTup) fNil)) mkTup) (fCons (fL (fCons (fL (fCons (fun _ => .ok (.int 0)) (fCons (fun _ => .ok (.int 1)) fNil)) mkTup) (fCons (fL (fCons (fun _ => .ok (.int 3)) (fCons (fun _ => .ok (.int 1)) fNil)) mkTup) fNil)) mkTup) (fCons (fL (fCons (fL (fCons (fun _ => .ok (.int 1)) (fCons (fun _ => .ok (.int 3)) fNil)) mkTup) fNil) mkTup) (fCons (fL (fCons (fL (fCons (fun _ => .ok (.int 1)) (fCons (fun _ => .ok (.int 1)) fNil)) mkTup) fNil) mkTup) (fCons (fL (fCons (fL (fCons (fun _ => .ok (.int 1)) (fCons (fun _ => .ok (.int 2)) fNil)) mkTup) fNil) mkTup) fNil))))) mkLst))))))))))))
end Lw
namespace Lw
open PySem PySem.Spec PyProof.Rows L2 PF
def top (i : Nat) : Stmt := PySem.Challenge.pw_nestletters_k17_whole_chances.main.body.getD i (.Pass ⟨0, 0, 0, 0⟩)
abbrev FnP (K : PySem.W.Frag) (x : Str) (st : Stmt) (sc : Scope) (f : Addr) (fd : FuncData) : Prop := FunD K x x (defArgs st) (defBody st) sc [] [] f fd
def sc_is_integer : Scope := ⟨.function, [("thing", .local), ("isinstance", .globalImplicit), ("int", .globalImplicit), ("bool", .globalImplicit)], false, false, (defScope (top 7)).more⟩
def sc_common : Scope := ⟨.function, [("one", .local), ("other", .local), ("abs", .globalImplicit), ("int", .globalImplicit)], false, false, (defScope (top 8)).more⟩
def sc_made : Scope := ⟨.function, [("top", .local), ("bottom", .local), ("divisor", .local), ("common", .globalImplicit)], false, false, (defScope (top 9)).more⟩
def sc_is_fraction : Scope := ⟨.function, [("thing", .local), ("isinstance", .globalImplicit), ("tuple", .globalImplicit), ("len", .globalImplicit), ("all", .globalImplicit), ("common", .globalImplicit)], false, false, (defScope (top 10)).more⟩
def sc_add : Scope := ⟨.function, [("one", .local), ("other", .local), ("made", .globalImplicit)], false, false, (defScope (top 11)).more⟩
def sc_div : Scope := ⟨.function, [("one", .local), ("other", .local), ("made", .globalImplicit)], false, false, (defScope (top 12)).more⟩
def sc_is_under : Scope := ⟨.function, [("one", .local), ("other", .local)], false, false, (defScope (top 13)).more⟩
def sc_sum_in : Scope := ⟨.function, [("some", .local), ("found", .local), ("one", .local), ("NOUGHT", .globalImplicit), ("add", .globalImplicit)], false, false, (defScope (top 14)).more⟩
def sc_is_between : Scope := ⟨.function, [("thing", .local), ("least", .local), ("most", .local), ("is_integer", .globalImplicit)], false, false, (defScope (top 16)).more⟩
def sc_are_shares : Scope := ⟨.function, [("thing", .local), ("isinstance", .globalImplicit), ("tuple", .globalImplicit), ("all", .globalImplicit), ("sum_in", .globalImplicit), ("list", .globalImplicit), ("ALL", .globalImplicit)], false, false, (defScope (top 21)).more⟩
def sc_is_chances : Scope := ⟨.function, [("thing", .local), ("are_shares", .globalImplicit), ("LEAST_MANY", .globalImplicit), ("len", .globalImplicit), ("MOST_MANY", .globalImplicit)], false, false, (defScope (top 22)).more⟩
def sc_need_chances : Scope := ⟨.function, [("thing", .local), ("is_chances", .globalImplicit), ("BadChances", .globalImplicit)], false, false, (defScope (top 23)).more⟩
def sc_rates_in : Scope := ⟨.function, [("many", .local), ("range", .globalImplicit), ("made", .globalImplicit)], false, false, (defScope (top 24)).more⟩
def sc_rates : Scope := ⟨.function, [("many", .local), ("is_between", .globalImplicit), ("LEAST_MANY", .globalImplicit), ("MOST_MANY", .globalImplicit), ("BadNumber", .globalImplicit), ("tuple", .globalImplicit), ("rates_in", .globalImplicit)], false, false, (defScope (top 25)).more⟩
def sc_pools_in : Scope := ⟨.function, [("chances", .local), ("found", .local), ("spot", .local), ("rate", .local), ("last", .local), ("first", .local), ("enumerate", .globalImplicit), ("rates_in", .globalImplicit), ("len", .globalImplicit), ("is_under", .globalImplicit), ("slope_of", .globalImplicit), ("add", .globalImplicit)], false, false, (defScope (top 26)).more⟩
def sc_slope_of : Scope := ⟨.function, [("pool", .local), ("div", .globalImplicit)], false, false, (defScope (top 27)).more⟩
def sc_pools : Scope := ⟨.function, [("chances", .local), ("tuple", .globalImplicit), ("pools_in", .globalImplicit), ("need_chances", .globalImplicit)], false, false, (defScope (top 28)).more⟩
def sc_slopes : Scope := ⟨.function, [("chances", .local), ("tuple", .globalImplicit), ("pools_in", .globalImplicit), ("need_chances", .globalImplicit)], false, false, (defScope (top 29)).more⟩
def sc_is_stair : Scope := ⟨.function, [("thing", .local), ("isinstance", .globalImplicit), ("tuple", .globalImplicit), ("len", .globalImplicit), ("MOST_LETTERS", .globalImplicit), ("all", .globalImplicit), ("zip", .globalImplicit)], false, false, (defScope (top 33)).more⟩
def sc_need_stair : Scope := ⟨.function, [("stair", .local), ("is_stair", .globalImplicit), ("BadStair", .globalImplicit)], false, false, (defScope (top 34)).more⟩
def sc_price_in : Scope := ⟨.function, [("stair", .local), ("parts", .local), ("enumerate", .globalImplicit), ("sum_in", .globalImplicit), ("made", .globalImplicit), ("len", .globalImplicit)], false, false, (defScope (top 36)).more⟩
def sc_price_of : Scope := ⟨.function, [("stair", .local), ("need_stair", .globalImplicit), ("price_in", .globalImplicit)], false, false, (defScope (top 37)).more⟩
def sc__law_mixed : Scope := ⟨.function, [("_law_cell", .local), ("_law_k", .local), ("int", .globalImplicit)], false, false, (defScope (top 39)).more⟩
def sc__law_begin : Scope := ⟨.function, [("_law_script", .local), ("_law_cells", .local), ("list", .globalImplicit)], false, false, (defScope (top 40)).more⟩
def sc__law_draw : Scope := ⟨.function, [("_law_state", .local), ("_law_many", .local), ("_law_at", .local), ("_law_place", .local), ("_law_left", .local), ("_law_number", .local), ("int", .globalImplicit), ("len", .globalImplicit), ("_law_mixed", .globalImplicit)], false, false, (defScope (top 41)).more⟩
def sc__law_of : Scope := ⟨.function, [("_law_state", .local), ("_law_some", .local), ("_law_draw", .globalImplicit), ("len", .globalImplicit)], false, false, (defScope (top 42)).more⟩
def sc__law_ratio : Scope := ⟨.function, [("_law_top", .local), ("_law_bottom", .local), ("_law_one", .local), ("_law_other", .local), ("abs", .globalImplicit), ("int", .globalImplicit)], false, false, (defScope (top 43)).more⟩
def sc__law_plus : Scope := ⟨.function, [("_law_one", .local), ("_law_other", .local), ("_law_ratio", .globalImplicit)], false, false, (defScope (top 44)).more⟩
def sc__law_times : Scope := ⟨.function, [("_law_one", .local), ("_law_other", .local), ("_law_ratio", .globalImplicit)], false, false, (defScope (top 45)).more⟩
def sc__law_over : Scope := ⟨.function, [("_law_one", .local), ("_law_other", .local), ("_law_ratio", .globalImplicit)], false, false, (defScope (top 46)).more⟩
def sc__law_under : Scope := ⟨.function, [("_law_one", .local), ("_law_other", .local)], false, false, (defScope (top 47)).more⟩
def sc__law_sum : Scope := ⟨.function, [("_law_some", .local), ("_law_found", .local), ("_law_one", .local), ("_law_plus", .globalImplicit)], false, false, (defScope (top 48)).more⟩
def sc__law_odds : Scope := ⟨.function, [("_law_state", .local), ("_law_most", .local), ("_law_parts", .cell), ("_law_k", .local), ("_law_at", .local), ("range", .globalImplicit), ("_law_draw", .globalImplicit), ("_law_of", .globalImplicit), ("len", .globalImplicit), ("tuple", .globalImplicit)], false, false, (defScope (top 49)).more⟩
def sc__law_rate_row : Scope := ⟨.function, [("_law_many", .local), ("range", .globalImplicit)], false, false, (defScope (top 50)).more⟩
def sc__law_slope : Scope := ⟨.function, [("_law_odds_so", .local), ("_law_first", .local), ("_law_last", .local), ("_law_part", .local), ("_law_sum", .globalImplicit), ("list", .globalImplicit), ("_law_over", .globalImplicit), ("_law_rate_row", .globalImplicit), ("len", .globalImplicit)], false, false, (defScope (top 51)).more⟩
def sc__law_pool_row : Scope := ⟨.function, [("_law_odds_so", .local), ("_law_got", .local), ("_law_first", .local), ("_law_best", .local), ("_law_last", .local), ("_law_here", .local), ("len", .globalImplicit), ("range", .globalImplicit), ("_law_slope", .globalImplicit), ("_law_under", .globalImplicit)], false, false, (defScope (top 52)).more⟩
def sc__law_price : Scope := ⟨.function, [("_law_row", .local), ("_law_parts", .local), ("zip", .globalImplicit), ("_law_rate_row", .globalImplicit), ("len", .globalImplicit), ("_law_sum", .globalImplicit)], false, false, (defScope (top 53)).more⟩
def sc__law_right : Scope := ⟨.function, [("_law_odds_so", .cell), ("_law_kept_so", .local), ("_law_due", .local), ("_law_tilts", .local), ("_law_again", .local), ("_law_heard", .local), ("repr", .globalImplicit), ("tuple", .globalImplicit), ("_law_pool_row", .globalImplicit), ("zip", .globalImplicit), ("range", .globalImplicit), ("pools", .globalImplicit), ("slopes", .globalImplicit), ("rates", .globalImplicit), ("len", .globalImplicit), ("need_chances", .globalImplicit), ("_law_rate_row", .globalImplicit)], false, false, (defScope (top 54)).more⟩
def sc_law : Scope := ⟨.function, [("_law_script", .local), ("_law_state", .cell), ("_law_turn", .local), ("_law_odds_so", .local), ("_law_row", .local), ("_law_even", .local), ("_law_heard", .local), ("_law_due", .local), ("_law_late", .local), ("_law_early", .local), ("_law_begin", .globalImplicit), ("range", .globalImplicit), ("min", .globalImplicit), ("len", .globalImplicit), ("_law_odds", .globalImplicit), ("_law_right", .globalImplicit), ("tuple", .globalImplicit), ("sorted", .globalImplicit), ("price_of", .globalImplicit), ("_law_price", .globalImplicit), ("pools", .globalImplicit), ("slopes", .globalImplicit), ("rates", .globalImplicit)], false, false, (defScope (top 55)).more⟩
section
variable {P : Program} {w : World} {K : PySem.W.Frag} {mg : Str → Option Value} {base : Heap}
theorem ok_is_integer {f : Addr} {fd : FuncData} (F : FnP K "is_integer" (top 7) sc_is_integer f fd) (gl : mg "is_integer" = some (.ref f)) (m_isinstance : mg "isinstance" = none) (m_int : mg "int" = none) (m_bool : mg "bool" = none) : FnGs P w K mg base 1 "is_integer" ["thing"] F_is_integer := by
  have sc : FnScope ["thing"] ["thing"] sc_is_integer := ⟨rfl, rfl, rfl, by decide +kernel, rfl, by decide +kernel, by decide +kernel⟩
  refine ⟨f, fd, fn_trG (k := 0) F sc (fun cdv A outer s H E hgd hr => ?_), gl, F.kp, F.bindsN fun _ _ _ _ _ _ us hl => match us, hl with | [_], _ => rfl⟩
  have tk : Takes (cxOf (L2.CX P w) P w K mg base ["thing"] "is_integer" sc_is_integer f cdv A outer s H E) (wOf E) := takes_of rfl rfl rfl rfl
  exact (trs_one (tr_ret (tr_and (tr_isi isi_int rfl m_isinstance rfl m_int boot_ty_int (tr_var 0)) (tr_one (tr_not (tr_isi isi_bool rfl m_isinstance rfl m_bool boot_ty_bool (tr_var 0)))))))
theorem ok_common {f : Addr} {fd : FuncData} (F : FnP K "common" (top 8) sc_common f fd) (gl : mg "common" = some (.ref f)) (m_abs : mg "abs" = none) (m_int : mg "int" = none) : FnGs P w K mg base 1 "common" ["one", "other"] F_common := by
  have sc : FnScope ["one", "other"] ["one", "other"] sc_common := ⟨rfl, rfl, rfl, by decide +kernel, rfl, by decide +kernel, by decide +kernel⟩
  refine ⟨f, fd, fn_trG (k := 0) F sc (fun cdv A outer s H E hgd hr => ?_), gl, F.kp, F.bindsN fun _ _ _ _ _ _ us hl => match us, hl with | [_, _], _ => rfl⟩
  have tk : Takes (cxOf (L2.CX P w) P w K mg base ["one", "other"] "common" sc_common f cdv A outer s H E) (wOf E) := takes_of rfl rfl rfl rfl
  exact (trs_cons (tr_par (ps_par rfl sc.nd rfl rfl (by decide) rfl rfl (tra_cons (tr_callB call_abs sem_abs rfl m_abs bo_abs (tra_cons (tr_var 0) tra_nil)) (tra_cons (tr_callB call_abs sem_abs rfl m_abs bo_abs (tra_cons (tr_var 1) tra_nil)) tra_nil)) (by rfl))) (trs_cons (tr_while (fun ρ => wInt 1 ρ + 1) (passes_of rfl) (trb_cmp (op_neS hr.units) sem_neS (tr_var 1) tr_int (nomark _)) (trs_one (tr_par (ps_par rfl sc.nd rfl rfl (by decide) rfl rfl (tra_cons (tr_var 1) (tra_cons (tr_op op_mod sem_mod (tr_var 0) (tr_callTy call_int1 sem_int1 rfl m_int bo_int (tra_cons (tr_var 1) tra_nil))) tra_nil)) (by rfl))))) (trs_one (tr_ret (tr_var 0)))))
theorem ok_made {f : Addr} {fd : FuncData} (F : FnP K "made" (top 9) sc_made f fd) (gl : mg "made" = some (.ref f)) (h_common : FnGs P w K mg base 1 "common" ["one", "other"] F_common) : FnGs P w K mg base 2 "made" ["top", "bottom"] F_made := by
  have sc : FnScope ["top", "bottom", "divisor"] ["top", "bottom"] sc_made := ⟨rfl, rfl, rfl, by decide +kernel, rfl, by decide +kernel, by decide +kernel⟩
  refine ⟨f, fd, fn_trG (k := 1) F sc (fun cdv A outer s H E hgd hr => ?_), gl, F.kp, F.bindsN fun _ _ _ _ _ _ us hl => match us, hl with | [_, _], _ => rfl⟩
  have tk : Takes (cxOf (L2.CX P w) P w K mg base ["top", "bottom", "divisor"] "made" sc_made f cdv A outer s H E) (wOf E) := takes_of rfl rfl rfl rfl
  exact (trs_cons (tr_ifs (trb_cmp op_lt sem_lt (tr_var 1) tr_int (nomark _)) (trs_one (tr_par (ps_par rfl sc.nd rfl rfl (by decide) rfl rfl (tra_cons (tr_op op_sub sem_sub tr_int (tr_var 0)) (tra_cons (tr_op op_sub sem_sub tr_int (tr_var 1)) tra_nil)) (by rfl)))) trs_nil) (trs_cons (tr_set (i := 2) sc.nd rfl (.inl rfl) (tr_callG h_common hgd (hr.mono (by decide)) tk rfl (tra_cons (tr_var 0) (tra_cons (tr_var 1) tra_nil)))) (trs_one (tr_ret (tr_tup (tra_cons (tr_op op_fdivW sem_fdiv (tr_var 0) (tr_var 2)) (tra_cons (tr_op op_fdivW sem_fdiv (tr_var 1) (tr_var 2)) tra_nil)))))))
theorem ok_is_fraction {f : Addr} {fd : FuncData} (F : FnP K "is_fraction" (top 10) sc_is_fraction f fd) (gl : mg "is_fraction" = some (.ref f)) (m_isinstance : mg "isinstance" = none) (m_tuple : mg "tuple" = none) (m_len : mg "len" = none) (m_all : mg "all" = none) (h_is_integer : FnGs P w K mg base 1 "is_integer" ["thing"] F_is_integer) (h_common : FnGs P w K mg base 1 "common" ["one", "other"] F_common) : FnGs P w K mg base 2 "is_fraction" ["thing"] F_is_fraction := by
  have sc : FnScope ["thing", "one"] ["thing"] sc_is_fraction := ⟨rfl, rfl, rfl, by decide +kernel, rfl, by decide +kernel, by decide +kernel⟩
  refine ⟨f, fd, fn_trG (k := 1) F sc (fun cdv A outer s H E hgd hr => ?_), gl, F.kp, F.bindsN fun _ _ _ _ _ _ us hl => match us, hl with | [_], _ => rfl⟩
  have tk : Takes (cxOf (L2.CX P w) P w K mg base ["thing", "one"] "is_fraction" sc_is_fraction f cdv A outer s H E) (wOf E) := takes_of rfl rfl rfl rfl
  exact (trs_cons (tr_ifs (TrW.toB (trw_or (trb_not (trb_tru (tr_isi isi_tuple rfl m_isinstance rfl m_tuple boot_ty_tuple (tr_var 0)))) (trw_or (trb_cmp (op_neS hr.units) sem_neS (tr_callB call_len sem_len rfl m_len bo_len (tra_cons (tr_var 0) tra_nil)) tr_int (nomark _)) (trw_or1 (trb_not (trb_tru (tr_callB (cr_all rfl) sem_all rfl m_all bo_all (tra_cons (tr_lc (own := [("one", 1)]) rfl sc.nd (tri_tup (tr_var 0)) (blkOk_by (N := ["thing", "one"]) (sc := sc_is_fraction) (by decide +kernel)) (by decide) (fun _ _ _ _ _ => (trg_name sc.nd rfl (by first | exact .inl rfl | exact .inr rfl))) (fun _ _ _ _ _ => trt_nil) (fun _ _ _ _ _ => (tr_callG h_is_integer hgd (hr.mono (by decide)) takes0 rfl (tra_cons (tr_var 1) tra_nil)))) tra_nil)))))))) (trs_one (tr_ret tr_bl)) trs_nil) (trs_one (tr_ret (tr_and (tr_cmp op_ge sem_ge (tr_ix ix_seq sem_ix (tr_var 0) tr_int) tr_int (nomark _)) (tr_one (tr_cmp (op_eqS hr.units) sem_eqS (tr_callG h_common hgd (hr.mono (by decide)) tk rfl (tra_cons (tr_ix ix_seq sem_ix (tr_var 0) tr_int) (tra_cons (tr_ix ix_seq sem_ix (tr_var 0) tr_int) tra_nil))) tr_int (nomark _)))))))
theorem ok_add {f : Addr} {fd : FuncData} (F : FnP K "add" (top 11) sc_add f fd) (gl : mg "add" = some (.ref f)) (h_made : FnGs P w K mg base 2 "made" ["top", "bottom"] F_made) : FnGs P w K mg base 3 "add" ["one", "other"] F_add := by
  have sc : FnScope ["one", "other"] ["one", "other"] sc_add := ⟨rfl, rfl, rfl, by decide +kernel, rfl, by decide +kernel, by decide +kernel⟩
  refine ⟨f, fd, fn_trG (k := 2) F sc (fun cdv A outer s H E hgd hr => ?_), gl, F.kp, F.bindsN fun _ _ _ _ _ _ us hl => match us, hl with | [_, _], _ => rfl⟩
  have tk : Takes (cxOf (L2.CX P w) P w K mg base ["one", "other"] "add" sc_add f cdv A outer s H E) (wOf E) := takes_of rfl rfl rfl rfl
  exact (trs_one (tr_ret (tr_callG h_made hgd (hr.mono (by decide)) tk rfl (tra_cons (tr_op op_addW sem_add (tr_op op_mulW sem_mul (tr_ix ix_seq sem_ix (tr_var 0) tr_int) (tr_ix ix_seq sem_ix (tr_var 1) tr_int)) (tr_op op_mulW sem_mul (tr_ix ix_seq sem_ix (tr_var 1) tr_int) (tr_ix ix_seq sem_ix (tr_var 0) tr_int))) (tra_cons (tr_op op_mulW sem_mul (tr_ix ix_seq sem_ix (tr_var 0) tr_int) (tr_ix ix_seq sem_ix (tr_var 1) tr_int)) tra_nil)))))
theorem ok_div {f : Addr} {fd : FuncData} (F : FnP K "div" (top 12) sc_div f fd) (gl : mg "div" = some (.ref f)) (h_made : FnGs P w K mg base 2 "made" ["top", "bottom"] F_made) : FnGs P w K mg base 3 "div" ["one", "other"] F_div := by
  have sc : FnScope ["one", "other"] ["one", "other"] sc_div := ⟨rfl, rfl, rfl, by decide +kernel, rfl, by decide +kernel, by decide +kernel⟩
  refine ⟨f, fd, fn_trG (k := 2) F sc (fun cdv A outer s H E hgd hr => ?_), gl, F.kp, F.bindsN fun _ _ _ _ _ _ us hl => match us, hl with | [_, _], _ => rfl⟩
  have tk : Takes (cxOf (L2.CX P w) P w K mg base ["one", "other"] "div" sc_div f cdv A outer s H E) (wOf E) := takes_of rfl rfl rfl rfl
  exact (trs_one (tr_ret (tr_callG h_made hgd (hr.mono (by decide)) tk rfl (tra_cons (tr_op op_mulW sem_mul (tr_ix ix_seq sem_ix (tr_var 0) tr_int) (tr_ix ix_seq sem_ix (tr_var 1) tr_int)) (tra_cons (tr_op op_mulW sem_mul (tr_ix ix_seq sem_ix (tr_var 0) tr_int) (tr_ix ix_seq sem_ix (tr_var 1) tr_int)) tra_nil)))))
theorem ok_is_under {f : Addr} {fd : FuncData} (F : FnP K "is_under" (top 13) sc_is_under f fd) (gl : mg "is_under" = some (.ref f))  : FnGs P w K mg base 1 "is_under" ["one", "other"] F_is_under := by
  have sc : FnScope ["one", "other"] ["one", "other"] sc_is_under := ⟨rfl, rfl, rfl, by decide +kernel, rfl, by decide +kernel, by decide +kernel⟩
  refine ⟨f, fd, fn_trG (k := 0) F sc (fun cdv A outer s H E hgd hr => ?_), gl, F.kp, F.bindsN fun _ _ _ _ _ _ us hl => match us, hl with | [_, _], _ => rfl⟩
  have tk : Takes (cxOf (L2.CX P w) P w K mg base ["one", "other"] "is_under" sc_is_under f cdv A outer s H E) (wOf E) := takes_of rfl rfl rfl rfl
  exact (trs_one (tr_ret (tr_cmp op_lt sem_lt (tr_op op_mulW sem_mul (tr_ix ix_seq sem_ix (tr_var 0) tr_int) (tr_ix ix_seq sem_ix (tr_var 1) tr_int)) (tr_op op_mulW sem_mul (tr_ix ix_seq sem_ix (tr_var 1) tr_int) (tr_ix ix_seq sem_ix (tr_var 0) tr_int)) (nomark _))))
theorem ok_sum_in {f : Addr} {fd : FuncData} (F : FnP K "sum_in" (top 14) sc_sum_in f fd) (gl : mg "sum_in" = some (.ref f)) (c_NOUGHT : CsIs K mg "NOUGHT" k_NOUGHT) (h_add : FnGs P w K mg base 3 "add" ["one", "other"] F_add) : FnGs P w K mg base 4 "sum_in" ["some"] F_sum_in := by
  have sc : FnScope ["some", "found", "one"] ["some"] sc_sum_in := ⟨rfl, rfl, rfl, by decide +kernel, rfl, by decide +kernel, by decide +kernel⟩
  refine ⟨f, fd, fn_trG (k := 3) F sc (fun cdv A outer s H E hgd hr => ?_), gl, F.kp, F.bindsN fun _ _ _ _ _ _ us hl => match us, hl with | [_], _ => rfl⟩
  have tk : Takes (cxOf (L2.CX P w) P w K mg base ["some", "found", "one"] "sum_in" sc_sum_in f cdv A outer s H E) (wOf E) := takes_of rfl rfl rfl rfl
  exact (trs_cons (tr_set (i := 1) sc.nd rfl (.inl rfl) (tr_cs c_NOUGHT rfl)) (trs_cons (tr_for (passes_of rfl) rfl (tri_lst (tr_var 0)) (trg_name sc.nd rfl (.inl rfl)) (trs_one (tr_set (i := 1) sc.nd rfl (.inl rfl) (tr_callG h_add hgd (hr.mono (by decide)) tk rfl (tra_cons (tr_var 1) (tra_cons (tr_var 2) tra_nil)))))) (trs_one (tr_ret (tr_var 1)))))
theorem ok_is_between {f : Addr} {fd : FuncData} (F : FnP K "is_between" (top 16) sc_is_between f fd) (gl : mg "is_between" = some (.ref f)) (h_is_integer : FnGs P w K mg base 1 "is_integer" ["thing"] F_is_integer) : FnGs P w K mg base 2 "is_between" ["thing", "least", "most"] F_is_between := by
  have sc : FnScope ["thing", "least", "most"] ["thing", "least", "most"] sc_is_between := ⟨rfl, rfl, rfl, by decide +kernel, rfl, by decide +kernel, by decide +kernel⟩
  refine ⟨f, fd, fn_trG (k := 1) F sc (fun cdv A outer s H E hgd hr => ?_), gl, F.kp, F.bindsN fun _ _ _ _ _ _ us hl => match us, hl with | [_, _, _], _ => rfl⟩
  have tk : Takes (cxOf (L2.CX P w) P w K mg base ["thing", "least", "most"] "is_between" sc_is_between f cdv A outer s H E) (wOf E) := takes_of rfl rfl rfl rfl
  exact (trs_one (tr_ret (tr_and (tr_callG h_is_integer hgd (hr.mono (by decide)) tk rfl (tra_cons (tr_var 0) tra_nil)) (tr_one (tr_chain op_le op_le sem_le sem_le (tr_var 1) (tr_var 0) (tr_var 2))))))
theorem ok_are_shares {f : Addr} {fd : FuncData} (F : FnP K "are_shares" (top 21) sc_are_shares f fd) (gl : mg "are_shares" = some (.ref f)) (m_isinstance : mg "isinstance" = none) (m_tuple : mg "tuple" = none) (m_all : mg "all" = none) (m_list : mg "list" = none) (c_ALL : CsIs K mg "ALL" k_ALL) (h_is_fraction : FnGs P w K mg base 2 "is_fraction" ["thing"] F_is_fraction) (h_sum_in : FnGs P w K mg base 4 "sum_in" ["some"] F_sum_in) : FnGs P w K mg base 5 "are_shares" ["thing"] F_are_shares := by
  have sc : FnScope ["thing", "one"] ["thing"] sc_are_shares := ⟨rfl, rfl, rfl, by decide +kernel, rfl, by decide +kernel, by decide +kernel⟩
  refine ⟨f, fd, fn_trG (k := 4) F sc (fun cdv A outer s H E hgd hr => ?_), gl, F.kp, F.bindsN fun _ _ _ _ _ _ us hl => match us, hl with | [_], _ => rfl⟩
  have tk : Takes (cxOf (L2.CX P w) P w K mg base ["thing", "one"] "are_shares" sc_are_shares f cdv A outer s H E) (wOf E) := takes_of rfl rfl rfl rfl
  exact (trs_cons (tr_ifs (TrW.toB (trw_or (trb_not (trb_tru (tr_isi isi_tuple rfl m_isinstance rfl m_tuple boot_ty_tuple (tr_var 0)))) (trw_or1 (trb_not (trb_tru (tr_callB (cr_all rfl) sem_all rfl m_all bo_all (tra_cons (tr_lc (own := [("one", 1)]) rfl sc.nd (tri_tup (tr_var 0)) (blkOk_by (N := ["thing", "one"]) (sc := sc_are_shares) (by decide +kernel)) (by decide) (fun _ _ _ _ _ => (trg_name sc.nd rfl (by first | exact .inl rfl | exact .inr rfl))) (fun _ _ _ _ _ => trt_nil) (fun _ _ _ _ _ => (tr_and (tr_callG h_is_fraction hgd (hr.mono (by decide)) takes0 rfl (tra_cons (tr_var 1) tra_nil)) (tr_one (tr_cmp op_ge sem_ge (tr_ix ix_seq sem_ix (tr_var 1) tr_int) tr_int (nomark _)))))) tra_nil))))))) (trs_one (tr_ret tr_bl)) trs_nil) (trs_one (tr_ret (tr_cmp (op_eqS hr.units) sem_eqS (tr_callG h_sum_in hgd (hr.mono (by decide)) tk rfl (tra_cons (tr_callTy call_list_of sem_lstOf rfl m_list bo_list (tra_cons (tr_var 0) tra_nil)) tra_nil)) (tr_cs c_ALL rfl) (nomark _)))))
theorem ok_is_chances {f : Addr} {fd : FuncData} (F : FnP K "is_chances" (top 22) sc_is_chances f fd) (gl : mg "is_chances" = some (.ref f)) (m_len : mg "len" = none) (c_LEAST_MANY : CsIs K mg "LEAST_MANY" k_LEAST_MANY) (c_MOST_MANY : CsIs K mg "MOST_MANY" k_MOST_MANY) (h_are_shares : FnGs P w K mg base 5 "are_shares" ["thing"] F_are_shares) : FnGs P w K mg base 6 "is_chances" ["thing"] F_is_chances := by
  have sc : FnScope ["thing"] ["thing"] sc_is_chances := ⟨rfl, rfl, rfl, by decide +kernel, rfl, by decide +kernel, by decide +kernel⟩
  refine ⟨f, fd, fn_trG (k := 5) F sc (fun cdv A outer s H E hgd hr => ?_), gl, F.kp, F.bindsN fun _ _ _ _ _ _ us hl => match us, hl with | [_], _ => rfl⟩
  have tk : Takes (cxOf (L2.CX P w) P w K mg base ["thing"] "is_chances" sc_is_chances f cdv A outer s H E) (wOf E) := takes_of rfl rfl rfl rfl
  exact (trs_one (tr_ret (tr_and (tr_callG h_are_shares hgd (hr.mono (by decide)) tk rfl (tra_cons (tr_var 0) tra_nil)) (tr_one (tr_chain op_le op_le sem_le sem_le (tr_op op_addW sem_add (tr_cs c_LEAST_MANY rfl) tr_int) (tr_callB call_len sem_len rfl m_len bo_len (tra_cons (tr_var 0) tra_nil)) (tr_op op_addW sem_add (tr_cs c_MOST_MANY rfl) tr_int))))))
theorem ok_need_chances {f : Addr} {fd : FuncData} (F : FnP K "need_chances" (top 23) sc_need_chances f fd) (gl : mg "need_chances" = some (.ref f)) (h_is_chances : FnGs P w K mg base 6 "is_chances" ["thing"] F_is_chances) : FnGs P w K mg base 7 "need_chances" ["thing"] F_need_chances := by
  have sc : FnScope ["thing"] ["thing"] sc_need_chances := ⟨rfl, rfl, rfl, by decide +kernel, rfl, by decide +kernel, by decide +kernel⟩
  refine ⟨f, fd, fn_trG (k := 6) F sc (fun cdv A outer s H E hgd hr => ?_), gl, F.kp, F.bindsN fun _ _ _ _ _ _ us hl => match us, hl with | [_], _ => rfl⟩
  have tk : Takes (cxOf (L2.CX P w) P w K mg base ["thing"] "need_chances" sc_need_chances f cdv A outer s H E) (wOf E) := takes_of rfl rfl rfl rfl
  exact (trs_cons (tr_ifs (trb_not (trb_tru (tr_callG h_is_chances hgd (hr.mono (by decide)) tk rfl (tra_cons (tr_var 0) tra_nil)))) (trs_one tr_never) trs_nil) (trs_one (tr_ret (tr_var 0))))
theorem ok_rates_in {f : Addr} {fd : FuncData} (F : FnP K "rates_in" (top 24) sc_rates_in f fd) (gl : mg "rates_in" = some (.ref f)) (m_range : mg "range" = none) (h_made : FnGs P w K mg base 2 "made" ["top", "bottom"] F_made) : FnGs P w K mg base 3 "rates_in" ["many"] F_rates_in := by
  have sc : FnScope ["many", "k"] ["many"] sc_rates_in := ⟨rfl, rfl, rfl, by decide +kernel, rfl, by decide +kernel, by decide +kernel⟩
  refine ⟨f, fd, fn_trG (k := 2) F sc (fun cdv A outer s H E hgd hr => ?_), gl, F.kp, F.bindsN fun _ _ _ _ _ _ us hl => match us, hl with | [_], _ => rfl⟩
  have tk : Takes (cxOf (L2.CX P w) P w K mg base ["many", "k"] "rates_in" sc_rates_in f cdv A outer s H E) (wOf E) := takes_of rfl rfl rfl rfl
  exact (trs_one (tr_ret (tr_op op_addW sem_add (tr_lc (own := [("k", 1)]) rfl sc.nd (tri_rng2 rfl m_range (tra_cons tr_int (tra_cons (tr_var 0) tra_nil))) (blkOk_by (N := ["many", "k"]) (sc := sc_rates_in) (by decide +kernel)) (by decide) (fun _ _ _ _ _ => (trg_name sc.nd rfl (by first | exact .inl rfl | exact .inr rfl))) (fun _ _ _ _ _ => trt_nil) (fun _ _ _ _ _ => (tr_callG h_made hgd (hr.mono (by decide)) takes0 rfl (tra_cons tr_int (tra_cons (tr_op op_mulW sem_mul (tr_var 1) (tr_op op_addW sem_add (tr_var 1) tr_int)) tra_nil))))) (tr_lst (tra_cons (tr_callG h_made hgd (hr.mono (by decide)) tk rfl (tra_cons tr_int (tra_cons (tr_var 0) tra_nil))) tra_nil)))))
theorem ok_rates {f : Addr} {fd : FuncData} (F : FnP K "rates" (top 25) sc_rates f fd) (gl : mg "rates" = some (.ref f)) (m_tuple : mg "tuple" = none) (c_MOST_MANY : CsIs K mg "MOST_MANY" k_MOST_MANY) (c_LEAST_MANY : CsIs K mg "LEAST_MANY" k_LEAST_MANY) (h_is_between : FnGs P w K mg base 2 "is_between" ["thing", "least", "most"] F_is_between) (h_rates_in : FnGs P w K mg base 3 "rates_in" ["many"] F_rates_in) : FnGs P w K mg base 4 "rates" ["many"] F_rates := by
  have sc : FnScope ["many"] ["many"] sc_rates := ⟨rfl, rfl, rfl, by decide +kernel, rfl, by decide +kernel, by decide +kernel⟩
  refine ⟨f, fd, fn_trG (k := 3) F sc (fun cdv A outer s H E hgd hr => ?_), gl, F.kp, F.bindsN fun _ _ _ _ _ _ us hl => match us, hl with | [_], _ => rfl⟩
  have tk : Takes (cxOf (L2.CX P w) P w K mg base ["many"] "rates" sc_rates f cdv A outer s H E) (wOf E) := takes_of rfl rfl rfl rfl
  exact (trs_cons (tr_ifs (trb_not (trb_tru (tr_callG h_is_between hgd (hr.mono (by decide)) tk rfl (tra_cons (tr_var 0) (tra_cons (tr_cs c_LEAST_MANY rfl) (tra_cons (tr_cs c_MOST_MANY rfl) tra_nil)))))) (trs_one tr_never) trs_nil) (trs_one (tr_ret (tr_callTy call_tuple_of sem_tupOf rfl m_tuple bo_tuple (tra_cons (tr_callG h_rates_in hgd (hr.mono (by decide)) tk rfl (tra_cons (tr_var 0) tra_nil)) tra_nil)))))
theorem ok_slope_of {f : Addr} {fd : FuncData} (F : FnP K "slope_of" (top 27) sc_slope_of f fd) (gl : mg "slope_of" = some (.ref f)) (h_div : FnGs P w K mg base 3 "div" ["one", "other"] F_div) : FnGs P w K mg base 4 "slope_of" ["pool"] F_slope_of := by
  have sc : FnScope ["pool"] ["pool"] sc_slope_of := ⟨rfl, rfl, rfl, by decide +kernel, rfl, by decide +kernel, by decide +kernel⟩
  refine ⟨f, fd, fn_trG (k := 3) F sc (fun cdv A outer s H E hgd hr => ?_), gl, F.kp, F.bindsN fun _ _ _ _ _ _ us hl => match us, hl with | [_], _ => rfl⟩
  have tk : Takes (cxOf (L2.CX P w) P w K mg base ["pool"] "slope_of" sc_slope_of f cdv A outer s H E) (wOf E) := takes_of rfl rfl rfl rfl
  exact (trs_one (tr_ret (tr_callG h_div hgd (hr.mono (by decide)) tk rfl (tra_cons (tr_ix ix_seq sem_ix (tr_var 0) tr_int) (tra_cons (tr_ix ix_seq sem_ix (tr_var 0) tr_int) tra_nil)))))
theorem ok_pools_in {f : Addr} {fd : FuncData} (F : FnP K "pools_in" (top 26) sc_pools_in f fd) (gl : mg "pools_in" = some (.ref f)) (m_enumerate : mg "enumerate" = none) (m_len : mg "len" = none) (h_rates_in : FnGs P w K mg base 3 "rates_in" ["many"] F_rates_in) (h_is_under : FnGs P w K mg base 1 "is_under" ["one", "other"] F_is_under) (h_slope_of : FnGs P w K mg base 4 "slope_of" ["pool"] F_slope_of) (h_add : FnGs P w K mg base 3 "add" ["one", "other"] F_add) : FnGs P w K mg base 5 "pools_in" ["chances"] F_pools_in := by
  have sc : FnScope ["chances", "found", "spot", "rate", "last", "first"] ["chances"] sc_pools_in := ⟨rfl, rfl, rfl, by decide +kernel, rfl, by decide +kernel, by decide +kernel⟩
  refine ⟨f, fd, fn_trG (k := 4) F sc (fun cdv A outer s H E hgd hr => ?_), gl, F.kp, F.bindsN fun _ _ _ _ _ _ us hl => match us, hl with | [_], _ => rfl⟩
  have tk : Takes (cxOf (L2.CX P w) P w K mg base ["chances", "found", "spot", "rate", "last", "first"] "pools_in" sc_pools_in f cdv A outer s H E) (wOf E) := takes_of rfl rfl rfl rfl
  exact (trs_cons (tr_own (i := 1) sc.nd rfl (.inl rfl) tra_nil) (trs_cons (tr_for (passes_of rfl) rfl (tri_enL rfl m_enumerate (tra_cons (tr_callG h_rates_in hgd (hr.mono (by decide)) tk rfl (tra_cons (tr_op op_sub sem_sub (tr_callB call_len sem_len rfl m_len bo_len (tra_cons (tr_var 0) tra_nil)) tr_int) tra_nil)) tra_nil)) (trg_tup rfl (trgs_cons (trg_name sc.nd rfl (.inl rfl)) (trgs_cons (trg_name sc.nd rfl (.inl rfl)) trgs_nil))) (trs_cons (tr_app (pv 1) (tra_cons (tr_tup (tra_cons (tr_op op_addW sem_add (tr_var 2) tr_int) (tra_cons (tr_op op_addW sem_add (tr_var 2) tr_int) (tra_cons (tr_ix ix_seq sem_ix (tr_var 0) (tr_op op_addW sem_add (tr_var 2) tr_int)) (tra_cons (tr_var 3) tra_nil))))) tra_nil)) (trs_one (tr_while (fun _ => 100) (passes_of rfl) (trb_frz 1 (TrW.toB (trw_and (trb_cmp op_gt sem_gt (tr_callB call_len sem_len rfl m_len bo_len (tra_cons (tr_var 1) tra_nil)) tr_int (nomark _)) (trw_and1 (trb_not (trb_tru (tr_callG h_is_under hgd (hr.mono (by decide)) tk rfl (tra_cons (tr_callG h_slope_of hgd (hr.mono (by decide)) tk rfl (tra_cons (tr_ix ix_seq sem_ix (tr_var 1) (tr_un un_neg sem_neg tr_int)) tra_nil)) (tra_cons (tr_callG h_slope_of hgd (hr.mono (by decide)) tk rfl (tra_cons (tr_ix ix_seq sem_ix (tr_var 1) (tr_un un_neg sem_neg tr_int)) tra_nil)) tra_nil))))))))) (trs_cons (tr_pop0 (pv 1) (trg_name sc.nd rfl (.inl rfl))) (trs_cons (tr_pop0 (pv 1) (trg_name sc.nd rfl (.inl rfl))) (trs_one (tr_app (pv 1) (tra_cons (tr_tup (tra_cons (tr_ix ix_seq sem_ix (tr_var 5) tr_int) (tra_cons (tr_ix ix_seq sem_ix (tr_var 4) tr_int) (tra_cons (tr_callG h_add hgd (hr.mono (by decide)) tk rfl (tra_cons (tr_ix ix_seq sem_ix (tr_var 5) tr_int) (tra_cons (tr_ix ix_seq sem_ix (tr_var 4) tr_int) tra_nil))) (tra_cons (tr_callG h_add hgd (hr.mono (by decide)) tk rfl (tra_cons (tr_ix ix_seq sem_ix (tr_var 5) tr_int) (tra_cons (tr_ix ix_seq sem_ix (tr_var 4) tr_int) tra_nil))) tra_nil))))) tra_nil))))))))) (trs_one (tr_frz 1 (tr_ret (tr_var 1))))))
theorem ok_pools {f : Addr} {fd : FuncData} (F : FnP K "pools" (top 28) sc_pools f fd) (gl : mg "pools" = some (.ref f)) (m_tuple : mg "tuple" = none) (h_pools_in : FnGs P w K mg base 5 "pools_in" ["chances"] F_pools_in) (h_need_chances : FnGs P w K mg base 7 "need_chances" ["thing"] F_need_chances) : FnGs P w K mg base 8 "pools" ["chances"] F_pools := by
  have sc : FnScope ["chances", "pool"] ["chances"] sc_pools := ⟨rfl, rfl, rfl, by decide +kernel, rfl, by decide +kernel, by decide +kernel⟩
  refine ⟨f, fd, fn_trG (k := 7) F sc (fun cdv A outer s H E hgd hr => ?_), gl, F.kp, F.bindsN fun _ _ _ _ _ _ us hl => match us, hl with | [_], _ => rfl⟩
  have tk : Takes (cxOf (L2.CX P w) P w K mg base ["chances", "pool"] "pools" sc_pools f cdv A outer s H E) (wOf E) := takes_of rfl rfl rfl rfl
  exact (trs_one (tr_ret (tr_callTy call_tuple_of sem_tupOf rfl m_tuple bo_tuple (tra_cons (tr_lc (own := [("pool", 1)]) rfl sc.nd (tri_lst (tr_callG h_pools_in hgd (hr.mono (by decide)) tk rfl (tra_cons (tr_callG h_need_chances hgd (hr.mono (by decide)) tk rfl (tra_cons (tr_var 0) tra_nil)) tra_nil))) (blkOk_by (N := ["chances", "pool"]) (sc := sc_pools) (by decide +kernel)) (by decide) (fun _ _ _ _ _ => (trg_name sc.nd rfl (by first | exact .inl rfl | exact .inr rfl))) (fun _ _ _ _ _ => trt_nil) (fun _ _ _ _ _ => (tr_slice (tr_var 1) tro_no (tro_some tr_int)))) tra_nil))))
theorem ok_slopes {f : Addr} {fd : FuncData} (F : FnP K "slopes" (top 29) sc_slopes f fd) (gl : mg "slopes" = some (.ref f)) (m_tuple : mg "tuple" = none) (h_pools_in : FnGs P w K mg base 5 "pools_in" ["chances"] F_pools_in) (h_need_chances : FnGs P w K mg base 7 "need_chances" ["thing"] F_need_chances) (h_slope_of : FnGs P w K mg base 4 "slope_of" ["pool"] F_slope_of) : FnGs P w K mg base 8 "slopes" ["chances"] F_slopes := by
  have sc : FnScope ["chances", "pool"] ["chances"] sc_slopes := ⟨rfl, rfl, rfl, by decide +kernel, rfl, by decide +kernel, by decide +kernel⟩
  refine ⟨f, fd, fn_trG (k := 7) F sc (fun cdv A outer s H E hgd hr => ?_), gl, F.kp, F.bindsN fun _ _ _ _ _ _ us hl => match us, hl with | [_], _ => rfl⟩
  have tk : Takes (cxOf (L2.CX P w) P w K mg base ["chances", "pool"] "slopes" sc_slopes f cdv A outer s H E) (wOf E) := takes_of rfl rfl rfl rfl
  exact (trs_one (tr_ret (tr_callTy call_tuple_of sem_tupOf rfl m_tuple bo_tuple (tra_cons (tr_lc (own := [("pool", 1)]) rfl sc.nd (tri_lst (tr_callG h_pools_in hgd (hr.mono (by decide)) tk rfl (tra_cons (tr_callG h_need_chances hgd (hr.mono (by decide)) tk rfl (tra_cons (tr_var 0) tra_nil)) tra_nil))) (blkOk_by (N := ["chances", "pool"]) (sc := sc_slopes) (by decide +kernel)) (by decide) (fun _ _ _ _ _ => (trg_name sc.nd rfl (by first | exact .inl rfl | exact .inr rfl))) (fun _ _ _ _ _ => trt_nil) (fun _ _ _ _ _ => (tr_callG h_slope_of hgd (hr.mono (by decide)) takes0 rfl (tra_cons (tr_var 1) tra_nil)))) tra_nil))))
theorem ok_is_stair {f : Addr} {fd : FuncData} (F : FnP K "is_stair" (top 33) sc_is_stair f fd) (gl : mg "is_stair" = some (.ref f)) (m_isinstance : mg "isinstance" = none) (m_tuple : mg "tuple" = none) (m_len : mg "len" = none) (m_all : mg "all" = none) (m_zip : mg "zip" = none) (c_MOST_LETTERS : CsIs K mg "MOST_LETTERS" k_MOST_LETTERS) (c_MOST_STAIR : CsIs K mg "MOST_STAIR" k_MOST_STAIR) (h_is_between : FnGs P w K mg base 2 "is_between" ["thing", "least", "most"] F_is_between) : FnGs P w K mg base 3 "is_stair" ["thing"] F_is_stair := by
  have sc : FnScope ["thing", "one", "other"] ["thing"] sc_is_stair := ⟨rfl, rfl, rfl, by decide +kernel, rfl, by decide +kernel, by decide +kernel⟩
  refine ⟨f, fd, fn_trG (k := 2) F sc (fun cdv A outer s H E hgd hr => ?_), gl, F.kp, F.bindsN fun _ _ _ _ _ _ us hl => match us, hl with | [_], _ => rfl⟩
  have tk : Takes (cxOf (L2.CX P w) P w K mg base ["thing", "one", "other"] "is_stair" sc_is_stair f cdv A outer s H E) (wOf E) := takes_of rfl rfl rfl rfl
  exact (trs_cons (tr_ifs (TrW.toB (trw_or (trb_not (trb_tru (tr_isi isi_tuple rfl m_isinstance rfl m_tuple boot_ty_tuple (tr_var 0)))) (trw_or1 (trb_not (trb_chain op_le op_le sem_le sem_le tr_int (tr_callB call_len sem_len rfl m_len bo_len (tra_cons (tr_var 0) tra_nil)) (tr_cs c_MOST_LETTERS rfl)))))) (trs_one (tr_ret tr_bl)) trs_nil) (trs_cons (tr_ifs (trb_not (trb_tru (tr_callB (cr_all rfl) sem_all rfl m_all bo_all (tra_cons (tr_lc (own := [("one", 1)]) rfl sc.nd (tri_tup (tr_var 0)) (blkOk_by (N := ["thing", "one", "other"]) (sc := sc_is_stair) (by decide +kernel)) (by decide) (fun _ _ _ _ _ => (trg_name sc.nd rfl (by first | exact .inl rfl | exact .inr rfl))) (fun _ _ _ _ _ => trt_nil) (fun _ _ _ _ _ => (tr_callG h_is_between hgd (hr.mono (by decide)) takes0 rfl (tra_cons (tr_var 1) (tra_cons tr_int (tra_cons (tr_cs c_MOST_STAIR rfl) tra_nil)))))) tra_nil)))) (trs_one (tr_ret tr_bl)) trs_nil) (trs_one (tr_ret (tr_callB (cr_all rfl) sem_all rfl m_all bo_all (tra_cons (tr_lc (own := [("one", 1), ("other", 2)]) rfl sc.nd (tri_zip rfl m_zip (tra_cons (tr_var 0) (tra_cons (tr_slice (tr_var 0) (tro_some tr_int) tro_no) tra_nil))) (blkOk_by (N := ["thing", "one", "other"]) (sc := sc_is_stair) (by decide +kernel)) (by decide) (fun _ _ _ _ _ => (trg_tup rfl (trgs_cons (trg_name sc.nd rfl (by first | exact .inl rfl | exact .inr rfl)) (trgs_cons (trg_name sc.nd rfl (by first | exact .inl rfl | exact .inr rfl)) trgs_nil)))) (fun _ _ _ _ _ => trt_nil) (fun _ _ _ _ _ => (tr_cmp op_le sem_le (tr_var 1) (tr_var 2) (nomark _)))) tra_nil))))))
theorem ok_need_stair {f : Addr} {fd : FuncData} (F : FnP K "need_stair" (top 34) sc_need_stair f fd) (gl : mg "need_stair" = some (.ref f)) (h_is_stair : FnGs P w K mg base 3 "is_stair" ["thing"] F_is_stair) : FnGs P w K mg base 4 "need_stair" ["stair"] F_need_stair := by
  have sc : FnScope ["stair"] ["stair"] sc_need_stair := ⟨rfl, rfl, rfl, by decide +kernel, rfl, by decide +kernel, by decide +kernel⟩
  refine ⟨f, fd, fn_trG (k := 3) F sc (fun cdv A outer s H E hgd hr => ?_), gl, F.kp, F.bindsN fun _ _ _ _ _ _ us hl => match us, hl with | [_], _ => rfl⟩
  have tk : Takes (cxOf (L2.CX P w) P w K mg base ["stair"] "need_stair" sc_need_stair f cdv A outer s H E) (wOf E) := takes_of rfl rfl rfl rfl
  exact (trs_one (tr_ifs (trb_not (trb_tru (tr_callG h_is_stair hgd (hr.mono (by decide)) tk rfl (tra_cons (tr_var 0) tra_nil)))) (trs_one tr_never) trs_nil))
theorem ok_price_in {f : Addr} {fd : FuncData} (F : FnP K "price_in" (top 36) sc_price_in f fd) (gl : mg "price_in" = some (.ref f)) (m_enumerate : mg "enumerate" = none) (m_len : mg "len" = none) (h_made : FnGs P w K mg base 2 "made" ["top", "bottom"] F_made) (h_sum_in : FnGs P w K mg base 4 "sum_in" ["some"] F_sum_in) : FnGs P w K mg base 5 "price_in" ["stair"] F_price_in := by
  have sc : FnScope ["stair", "parts", "spot", "one"] ["stair"] sc_price_in := ⟨rfl, rfl, rfl, by decide +kernel, rfl, by decide +kernel, by decide +kernel⟩
  refine ⟨f, fd, fn_trG (k := 4) F sc (fun cdv A outer s H E hgd hr => ?_), gl, F.kp, F.bindsN fun _ _ _ _ _ _ us hl => match us, hl with | [_], _ => rfl⟩
  have tk : Takes (cxOf (L2.CX P w) P w K mg base ["stair", "parts", "spot", "one"] "price_in" sc_price_in f cdv A outer s H E) (wOf E) := takes_of rfl rfl rfl rfl
  exact (trs_cons (tr_setLc (i := 1) (own := [("spot", 2), ("one", 3)]) rfl sc.nd rfl rfl (sw_true rfl rfl rfl (by decide +kernel)) (tri_enT rfl m_enumerate (tra_cons (tr_slice (tr_var 0) tro_no (tro_some (tr_un un_neg sem_neg tr_int))) tra_nil)) (blkOk_by (N := ["stair", "parts", "spot", "one"]) (sc := sc_price_in) (by decide +kernel)) (by decide) (fun _ _ _ _ _ => (trg_tup rfl (trgs_cons (trg_name sc.nd rfl (by first | exact .inl rfl | exact .inr rfl)) (trgs_cons (trg_name sc.nd rfl (by first | exact .inl rfl | exact .inr rfl)) trgs_nil)))) (fun _ _ _ _ _ => trt_nil) (fun _ _ _ _ _ => (tr_callG h_made hgd (hr.mono (by decide)) takes0 rfl (tra_cons (tr_var 3) (tra_cons (tr_op op_mulW sem_mul (tr_op op_addW sem_add (tr_var 2) tr_int) (tr_op op_addW sem_add (tr_var 2) tr_int)) tra_nil))))) (trs_one (tr_ret (tr_callG h_sum_in hgd (hr.mono (by decide)) tk rfl (tra_cons (tr_lst (tra_star (tr_var 1) (tra_cons (tr_callG h_made hgd (hr.mono (by decide)) tk rfl (tra_cons (tr_ix ix_seq sem_ix (tr_var 0) (tr_un un_neg sem_neg tr_int)) (tra_cons (tr_callB call_len sem_len rfl m_len bo_len (tra_cons (tr_var 0) tra_nil)) tra_nil))) tra_nil))) tra_nil)))))
theorem ok_price_of {f : Addr} {fd : FuncData} (F : FnP K "price_of" (top 37) sc_price_of f fd) (gl : mg "price_of" = some (.ref f)) (h_need_stair : FnGs P w K mg base 4 "need_stair" ["stair"] F_need_stair) (h_price_in : FnGs P w K mg base 5 "price_in" ["stair"] F_price_in) : FnGs P w K mg base 6 "price_of" ["stair"] F_price_of := by
  have sc : FnScope ["stair"] ["stair"] sc_price_of := ⟨rfl, rfl, rfl, by decide +kernel, rfl, by decide +kernel, by decide +kernel⟩
  refine ⟨f, fd, fn_trG (k := 5) F sc (fun cdv A outer s H E hgd hr => ?_), gl, F.kp, F.bindsN fun _ _ _ _ _ _ us hl => match us, hl with | [_], _ => rfl⟩
  have tk : Takes (cxOf (L2.CX P w) P w K mg base ["stair"] "price_of" sc_price_of f cdv A outer s H E) (wOf E) := takes_of rfl rfl rfl rfl
  exact (trs_cons (tr_expr (tr_callG h_need_stair hgd (hr.mono (by decide)) tk rfl (tra_cons (tr_var 0) tra_nil))) (trs_one (tr_ret (tr_callG h_price_in hgd (hr.mono (by decide)) tk rfl (tra_cons (tr_var 0) tra_nil)))))
theorem ok__law_mixed {f : Addr} {fd : FuncData} (F : FnP K "_law_mixed" (top 39) sc__law_mixed f fd) (gl : mg "_law_mixed" = some (.ref f)) (m_int : mg "int" = none) : FnIs P w K mg base 1 "_law_mixed" ["_law_cell", "_law_k"] F__law_mixed := by
  have sc : FnScope ["_law_cell", "_law_k"] ["_law_cell", "_law_k"] sc__law_mixed := ⟨rfl, rfl, rfl, by decide +kernel, rfl, by decide +kernel, by decide +kernel⟩
  refine ⟨f, fd, fn_tr (k := 0) F sc (fun cdv A outer s H E hr => ?_), gl, F.kp, F.bindsN fun _ _ _ _ _ _ us hl => match us, hl with | [_, _], _ => rfl⟩
  have tk : Takes (cxOf (L2.CX P w) P w K mg base ["_law_cell", "_law_k"] "_law_mixed" sc__law_mixed f cdv A outer s H E) (wOf E) := takes_of rfl rfl rfl rfl
  exact (trs_cons (tr_set (i := 0) sc.nd rfl (.inl rfl) (tr_op op_mod sem_mod (tr_callTy call_int1 sem_int1 rfl m_int bo_int (tra_cons (tr_var 0) tra_nil)) tr_int)) (trs_one (tr_ret (tr_op op_mod sem_mod (tr_op op_mulW sem_mul (tr_op op_mod sem_mod (tr_op op_addW sem_add (tr_op op_addW sem_add (tr_op op_mulW sem_mul (tr_var 0) (tr_op op_addW sem_add tr_int (tr_op op_mulW sem_mul (tr_op op_mulW sem_mul tr_int (tr_var 1)) (tr_var 1)))) (tr_op op_mulW sem_mul tr_int (tr_var 1))) tr_int) tr_int) tr_int) tr_int))))
/-- a call of _law_mixed, by its reading -/
theorem mix_sp {c : Cc} {d : Nat} {H : Hp} {x k : Int} {Q : VK} {E : XK} (wd : Wd c d H) (h0 : 0 ≤ k) (h1 : k ≤ 2 ^ 61) (h : ∀ H', Step c H H' → StOk c d H' → Q (.int (mixv x k)) H') : SpF K F__law_mixed [.int x, .int k] H Q E := by
  refine ⟨c, d, [.int x, .int k], wd, .cons (.int x) (.cons (.int k) .nil), ?_⟩
  rw [mix_run h0 h1]
  intro v H' st so r
  cases r
  exact h H' st so
theorem ok__law_begin {f : Addr} {fd : FuncData} (F : FnP K "_law_begin" (top 40) sc__law_begin f fd) (m_list : mg "list" = none) : FnOk P w K mg base (L2.CX P w) 1 f fd ["_law_script"] (spBegin K) := by
  have sc : FnScope ["_law_script", "_law_cells", "_law_cell"] ["_law_script"] sc__law_begin := ⟨rfl, rfl, rfl, by decide +kernel, rfl, by decide +kernel, by decide +kernel⟩
  refine F.ok (k := 0) sc (fun vs H Q E h => ?_) (fun cdv A outer s H vs Q E hr h => ?_)
  · obtain ⟨a, ns, rfl, _⟩ := h
    rfl
  refine ⟨_, pss_cons (ps_set (i := 1) sc.nd rfl (.inl rfl) (pe_ifExp (pt_cmpR (op_neD hr.units) (pv 0) (pe_lst pa_nil) (nomark _)) (pe_callTy call_list_of rfl m_list bo_list (pa_cons (pv 0) pa_nil)) (pe_lst (pa_cons pe_int pa_nil))))
    (pss_one (ps_ret (pe_disp (pps_cons pe_str (pv 1) (pps_cons pe_str (pe_lc (own := [("_law_cell", 2)]) (g := gName 2) (tt := tYes) rfl sc.nd (pi_list (pv 1)) (blkOk_by (N := ["_law_script", "_law_cells", "_law_cell"]) (sc := sc__law_begin) (by decide +kernel))
        (fun _ _ _ _ _ => pg_name (i := 2) sc.nd rfl (.inl rfl)) (fun _ _ _ _ _ => pts_nil) (fun _ _ _ _ _ => pe_ifExp (pt_cmpR op_ge (pv 2) (pe_op op_pow pe_int pe_int) (nomark _)) (pv 2) pe_int))
      (pps_cons pe_str pe_int (pps_cons pe_str pe_int pps_nil)))) (by rfl) (by rfl) (fun z => by cases z) (by decide)))), ?_⟩
  obtain ⟨a, ns, rfl, hS, hz, q⟩ := h
  exact begin_read hS hz q
theorem ok__law_draw {f : Addr} {fd : FuncData} (F : FnP K "_law_draw" (top 41) sc__law_draw f fd) (gl : mg "_law_draw" = some (.ref f)) (m_int : mg "int" = none) (m_len : mg "len" = none) (h__law_mixed : FnIs P w K mg base 1 "_law_mixed" ["_law_cell", "_law_k"] F__law_mixed) : FnIs P w K mg base 2 "_law_draw" ["_law_state", "_law_many"] F__law_draw := by
  have sc : FnScope ["_law_state", "_law_many", "_law_at", "_law_place", "_law_left", "_law_number"] ["_law_state", "_law_many"] sc__law_draw := ⟨rfl, rfl, rfl, by decide +kernel, rfl, by decide +kernel, by decide +kernel⟩
  obtain ⟨fM, fdM, GM, gM, kM, bM⟩ := h__law_mixed
  refine ⟨f, fd, F.ok (k := 1) sc (SpF.len fun ws h => ?_) (fun cdv A outer s H vs Q E hr h => ?_), gl, F.kp, F.bindsN fun _ _ _ _ _ _ us hl => match us, hl with | [_, _], _ => rfl⟩
  · exact F_draw_bad fun n z => h (by rw [z]; rfl)
  have tk : Takes (cxOf (L2.CX P w) P w K mg base ["_law_state", "_law_many", "_law_at", "_law_place", "_law_left", "_law_number"] "_law_draw" sc__law_draw f cdv A outer s H E) (wOf E) := takes_of rfl rfl rfl rfl
  have hu := hu_of hr
  refine ⟨_, pss_cons (ps_set (i := 2) sc.nd rfl (.inl rfl) (pe_dget hu (pv 0) pe_str (fun _ _ => rfl)))
    (pss_cons (ps_dput hu (pv 0) pe_str (pe_op op_add (pv 2) pe_int) rfl)
    (pss_cons (ps_set (i := 3) sc.nd rfl (.inl rfl) (pe_op op_mod (pe_callTy call_int1 rfl m_int bo_int (pa_cons (pv 2) pa_nil)) (pe_callB call_len rfl m_len bo_len (pa_cons (pe_dget hu (pv 0) pe_str (fun _ _ => rfl)) pa_nil))))
    (pss_cons (ps_set (i := 4) sc.nd rfl (.inl rfl) (pe_ix ix_list (pe_dget hu (pv 0) pe_str (fun _ _ => rfl)) (pv 3) (fun _ _ => rfl)))
    (pss_cons (ps_if (pt_cmpR op_gt (pv 4) pe_int (nomark _))
      (pss_cons (ps_asg (pe_op op_fdivW (pv 4) (pv 1)) (pg_sub (pe_dget hu (pv 0) pe_str (fun _ _ => rfl)) (pv 3) set_list))
        (pss_one (ps_ret (pe_op op_mod (pe_callTy call_int1 rfl m_int bo_int (pa_cons (pv 4) pa_nil)) (pv 1))))) pss_nil)
    (pss_cons (ps_set (i := 5) sc.nd rfl (.inl rfl) (pe_callSD (E := fun σ => WE (wOf E) σ) GM hr rfl gM kM bM .nil (fun σ => passAt tk σ) (pa_cons (pe_callSD (E := fun σ => WE (wOf E) σ) GM hr rfl gM kM bM .nil (fun σ => passAt tk σ) (pa_cons (pe_ix ix_list (pe_dget hu (pv 0) pe_str (fun _ _ => rfl)) (pv 3) (fun _ _ => rfl)) (pa_cons (pv 2) pa_nil))) (pa_cons (pe_op op_add pe_int (pv 2)) pa_nil))))
    (pss_one (ps_ret (pe_op op_mod (pe_op op_fdiv (pe_callTy call_int1 rfl m_int bo_int (pa_cons (pe_op op_add (pe_op op_mulW (pv 5) pe_int) (pe_callSD (E := fun σ => WE (wOf E) σ) GM hr rfl gM kM bM .nil (fun σ => passAt tk σ) (pa_cons (pv 5) (pa_cons (pe_op op_add pe_int (pv 2)) pa_nil)))) pa_nil)) pe_int) (pv 1))))))))), ?_⟩
  obtain ⟨c, d, ws, wd, r, h⟩ := h
  by_cases hw : ∃ n, ws = [.stt, .int n]
  case neg =>
    rw [F_draw_bad fun n z => hw ⟨n, z⟩] at h
    exact h.elim
  obtain ⟨n, rfl⟩ := hw
  cases r with
  | cons r1 r2 =>
  cases r2 with
  | cons r2 r3 =>
  cases r3
  cases r2
  cases r1
  obtain ⟨⟨hn0, hn1⟩, e, rfl, hq⟩ := draw_all h
  obtain ⟨cells, lefts, k, rr, hS, hca, hla, hlen, hpos, hk0, hkb, hne⟩ := wd.st
  have nS : c.ca ≠ c.S := ne_of hca hS (by intro z; cases z)
  have nS2 : c.la ≠ c.S := ne_of hla hS (by intro z; cases z)
  -- at
  refine ⟨.ref c.S, rfl, c.S, .int k, rfl, DGet.st (x := .inr kAt) hS st_at, ?_⟩
  refine ⟨.int k, rfl, k, 1, rfl, rfl, .ref c.S, rfl, c.S, _, rfl, DPut.k (k := .inr kAt) hS (by show 4 < sizeLine; decide), ?_⟩
  generalize hH1 : upd H c.S _ = H1
  have hS1 : H1 c.S = some (.dK (stK c.ca c.la (k + 1) rr)) := by rw [← hH1, upd_same, st_put]
  have o1 : ∀ b, b ≠ c.S → H1 b = H b := fun b hb => by rw [← hH1, upd_ne hb]
  have hca1 : H1 c.ca = some (.lst (cells.map V.int)) := by rw [o1 _ nS]; exact hca
  have hla1 : H1 c.la = some (.lst (lefts.map V.int)) := by rw [o1 _ nS2]; exact hla
  have st1 : Step c H H1 := fun b o hb h1 h2 => by rw [o1 b h1]; exact hb
  have so1 : StOk c e H1 := StOk.drawn hk0 hkb hne hlen hpos hS1 hca1 hla1
  have wd1 : Wd c e H1 := wd.step st1 so1
  -- place
  refine ⟨.int k, rfl, .inl ⟨k, rfl, ?_⟩⟩
  refine ⟨.ref c.S, rfl, c.S, .ref c.ca, rfl, DGet.st (x := .inr kCells) hS1 st_cells, _, cells.length, rfl, .inl ⟨_, SqL.of hca1, by rw [List.length_map]⟩, k, _, rfl, rfl, by omega, ?_⟩
  have p0 : 0 ≤ k % (cells.length : Int) := Int.emod_nonneg _ (by omega)
  have p1 : k % (cells.length : Int) < cells.length := Int.emod_lt_of_pos _ (by omega)
  obtain ⟨j, hpj⟩ : ∃ j : Nat, k % (cells.length : Int) = j := ⟨(k % (cells.length : Int)).toNat, by omega⟩
  have hj : j < cells.length := by omega
  have hjl : j < lefts.length := by omega
  -- left
  refine ⟨.ref c.S, rfl, c.S, .ref c.la, rfl, DGet.st (x := .inr kLefts) hS1 st_lefts, .int (k % (cells.length : Int)), rfl, c.la, _, k % (cells.length : Int), .int lefts[j], rfl, rfl, SqL.of hla1, (by rw [hpj]; exact atI_nat (by rw [List.getElem?_map, List.getElem?_eq_getElem hjl]; rfl)), ?_⟩
  refine ⟨.int lefts[j], rfl, lefts[j], 0, rfl, rfl, _, rfl, ite2 (fun hl => ?_) (fun hl => ?_)⟩
  · -- by the digits
    refine ⟨.int lefts[j], rfl, .int n, rfl, lefts[j], n, rfl, rfl, ⟨hn0, hn1⟩, ?_⟩
    refine ⟨.ref c.S, rfl, c.S, .ref c.la, rfl, DGet.st (x := .inr kLefts) hS1 st_lefts, .int (k % (cells.length : Int)), rfl, c.la, _, k % (cells.length : Int), j, rfl, rfl, hla1, ?_, ?_⟩
    · unfold ixN
      rw [if_pos p0, if_pos (by rw [List.length_map]; omega), hpj]
      rfl
    refine ⟨.int lefts[j], rfl, .inl ⟨lefts[j], rfl, .int n, rfl, lefts[j], n, rfl, rfl, hn0, ?_⟩⟩
    refine hq _ _ (Int.emod_nonneg _ (by omega)) (Int.emod_lt_of_pos _ hn0) (fun b o hb h1 h2 => ?_) (StOk.drawn (r := rr) (lefts' := lefts.set j (lefts[j] / n)) hk0 hkb hne (by rw [List.length_set]; exact hlen) hpos ?_ ?_ ?_)
    · rw [upd_ne h2]
      exact st1 b o hb h1 h2
    · rw [upd_ne (Ne.symm nS2)]
      exact hS1
    · rw [upd_ne hne]
      exact hca1
    · rw [upd_same, List.map_set]
  · -- mixed
    refine ⟨.ref c.S, rfl, c.S, .ref c.ca, rfl, DGet.st (x := .inr kCells) hS1 st_cells, .int (k % (cells.length : Int)), rfl, c.ca, _, k % (cells.length : Int), .int cells[j], rfl, rfl, SqL.of hca1, (by rw [hpj]; exact atI_nat (by rw [List.getElem?_map, List.getElem?_eq_getElem hj]; rfl)), ?_⟩
    refine ⟨.int k, rfl, mix_sp wd1 hk0 (by omega) fun H2 st2 so2 => ?_⟩
    have wd2 := wd1.step st2 so2
    refine ⟨.int k, rfl, 40, k, rfl, rfl, mix_sp wd2 (by omega) (by omega) fun H3 st3 so3 => ?_⟩
    have wd3 := wd2.step st3 so3
    refine ⟨_, rfl, _, 2147483647, rfl, rfl, wide_mul (a := 32) (b := 32) ?_ (by decide) (by decide) (by decide) (by decide), ?_⟩
    · have := mixv_lt (mixv cells[j] k) (40 + k)
      omega
    refine ⟨_, rfl, .int k, rfl, 7, k, rfl, rfl, mix_sp wd3 (by omega) (by omega) fun H4 st4 so4 => ?_⟩
    refine ⟨_, _, rfl, rfl, .inl ⟨_, rfl, _, 64, rfl, rfl, ⟨by decide, by decide⟩, .int n, rfl, _, n, rfl, rfl, hn0, ?_⟩⟩
    exact hq _ _ (Int.emod_nonneg _ (by omega)) (Int.emod_lt_of_pos _ hn0) (st1.trans (st2.trans (st3.trans st4))) so4
theorem ok__law_of {f : Addr} {fd : FuncData} (F : FnP K "_law_of" (top 42) sc__law_of f fd) (gl : mg "_law_of" = some (.ref f)) (m_len : mg "len" = none) (h__law_draw : FnGs P w K mg base 2 "_law_draw" ["_law_state", "_law_many"] F__law_draw) : FnGs P w K mg base 3 "_law_of" ["_law_state", "_law_some"] F__law_of := by
  have sc : FnScope ["_law_state", "_law_some"] ["_law_state", "_law_some"] sc__law_of := ⟨rfl, rfl, rfl, by decide +kernel, rfl, by decide +kernel, by decide +kernel⟩
  refine ⟨f, fd, fn_trG (k := 2) F sc (fun cdv A outer s H E hgd hr => ?_), gl, F.kp, F.bindsN fun _ _ _ _ _ _ us hl => match us, hl with | [_, _], _ => rfl⟩
  have tk : Takes (cxOf (L2.CX P w) P w K mg base ["_law_state", "_law_some"] "_law_of" sc__law_of f cdv A outer s H E) (wOf E) := takes_of rfl rfl rfl rfl
  exact (trs_one (tr_ret (tr_ix ix_seq sem_ix (tr_var 1) (tr_callG h__law_draw hgd (hr.mono (by decide)) tk rfl (tra_cons (tr_var 0) (tra_cons (tr_callB call_len sem_len rfl m_len bo_len (tra_cons (tr_var 1) tra_nil)) tra_nil))))))
theorem ok__law_ratio {f : Addr} {fd : FuncData} (F : FnP K "_law_ratio" (top 43) sc__law_ratio f fd) (gl : mg "_law_ratio" = some (.ref f)) (m_abs : mg "abs" = none) (m_int : mg "int" = none) : FnGs P w K mg base 1 "_law_ratio" ["_law_top", "_law_bottom"] F__law_ratio := by
  have sc : FnScope ["_law_top", "_law_bottom", "_law_one", "_law_other"] ["_law_top", "_law_bottom"] sc__law_ratio := ⟨rfl, rfl, rfl, by decide +kernel, rfl, by decide +kernel, by decide +kernel⟩
  refine ⟨f, fd, fn_trG (k := 0) F sc (fun cdv A outer s H E hgd hr => ?_), gl, F.kp, F.bindsN fun _ _ _ _ _ _ us hl => match us, hl with | [_, _], _ => rfl⟩
  have tk : Takes (cxOf (L2.CX P w) P w K mg base ["_law_top", "_law_bottom", "_law_one", "_law_other"] "_law_ratio" sc__law_ratio f cdv A outer s H E) (wOf E) := takes_of rfl rfl rfl rfl
  exact (trs_cons (tr_par (ps_par rfl sc.nd rfl rfl (by decide) rfl rfl (tra_cons (tr_callB call_abs sem_abs rfl m_abs bo_abs (tra_cons (tr_var 0) tra_nil)) (tra_cons (tr_var 1) tra_nil)) (by rfl))) (trs_cons (tr_while (fun ρ => wInt 3 ρ + 1) (passes_of rfl) (trb_cmp (op_neS hr.units) sem_neS (tr_var 3) tr_int (nomark _)) (trs_one (tr_par (ps_par rfl sc.nd rfl rfl (by decide) rfl rfl (tra_cons (tr_var 3) (tra_cons (tr_op op_mod sem_mod (tr_callTy call_int1 sem_int1 rfl m_int bo_int (tra_cons (tr_var 2) tra_nil)) (tr_var 3)) tra_nil)) (by rfl))))) (trs_one (tr_ret (tr_tup (tra_cons (tr_op op_fdivW sem_fdiv (tr_var 0) (tr_var 2)) (tra_cons (tr_op op_fdivW sem_fdiv (tr_var 1) (tr_var 2)) tra_nil)))))))
theorem ok__law_plus {f : Addr} {fd : FuncData} (F : FnP K "_law_plus" (top 44) sc__law_plus f fd) (gl : mg "_law_plus" = some (.ref f)) (h__law_ratio : FnGs P w K mg base 1 "_law_ratio" ["_law_top", "_law_bottom"] F__law_ratio) : FnGs P w K mg base 2 "_law_plus" ["_law_one", "_law_other"] F__law_plus := by
  have sc : FnScope ["_law_one", "_law_other"] ["_law_one", "_law_other"] sc__law_plus := ⟨rfl, rfl, rfl, by decide +kernel, rfl, by decide +kernel, by decide +kernel⟩
  refine ⟨f, fd, fn_trG (k := 1) F sc (fun cdv A outer s H E hgd hr => ?_), gl, F.kp, F.bindsN fun _ _ _ _ _ _ us hl => match us, hl with | [_, _], _ => rfl⟩
  have tk : Takes (cxOf (L2.CX P w) P w K mg base ["_law_one", "_law_other"] "_law_plus" sc__law_plus f cdv A outer s H E) (wOf E) := takes_of rfl rfl rfl rfl
  exact (trs_one (tr_ret (tr_callG h__law_ratio hgd (hr.mono (by decide)) tk rfl (tra_cons (tr_op op_addW sem_add (tr_op op_mulW sem_mul (tr_ix ix_seq sem_ix (tr_var 0) tr_int) (tr_ix ix_seq sem_ix (tr_var 1) tr_int)) (tr_op op_mulW sem_mul (tr_ix ix_seq sem_ix (tr_var 1) tr_int) (tr_ix ix_seq sem_ix (tr_var 0) tr_int))) (tra_cons (tr_op op_mulW sem_mul (tr_ix ix_seq sem_ix (tr_var 0) tr_int) (tr_ix ix_seq sem_ix (tr_var 1) tr_int)) tra_nil)))))
theorem ok__law_times {f : Addr} {fd : FuncData} (F : FnP K "_law_times" (top 45) sc__law_times f fd) (gl : mg "_law_times" = some (.ref f)) (h__law_ratio : FnGs P w K mg base 1 "_law_ratio" ["_law_top", "_law_bottom"] F__law_ratio) : FnGs P w K mg base 2 "_law_times" ["_law_one", "_law_other"] F__law_times := by
  have sc : FnScope ["_law_one", "_law_other"] ["_law_one", "_law_other"] sc__law_times := ⟨rfl, rfl, rfl, by decide +kernel, rfl, by decide +kernel, by decide +kernel⟩
  refine ⟨f, fd, fn_trG (k := 1) F sc (fun cdv A outer s H E hgd hr => ?_), gl, F.kp, F.bindsN fun _ _ _ _ _ _ us hl => match us, hl with | [_, _], _ => rfl⟩
  have tk : Takes (cxOf (L2.CX P w) P w K mg base ["_law_one", "_law_other"] "_law_times" sc__law_times f cdv A outer s H E) (wOf E) := takes_of rfl rfl rfl rfl
  exact (trs_one (tr_ret (tr_callG h__law_ratio hgd (hr.mono (by decide)) tk rfl (tra_cons (tr_op op_mulW sem_mul (tr_ix ix_seq sem_ix (tr_var 0) tr_int) (tr_ix ix_seq sem_ix (tr_var 1) tr_int)) (tra_cons (tr_op op_mulW sem_mul (tr_ix ix_seq sem_ix (tr_var 0) tr_int) (tr_ix ix_seq sem_ix (tr_var 1) tr_int)) tra_nil)))))
theorem ok__law_over {f : Addr} {fd : FuncData} (F : FnP K "_law_over" (top 46) sc__law_over f fd) (gl : mg "_law_over" = some (.ref f)) (h__law_ratio : FnGs P w K mg base 1 "_law_ratio" ["_law_top", "_law_bottom"] F__law_ratio) : FnGs P w K mg base 2 "_law_over" ["_law_one", "_law_other"] F__law_over := by
  have sc : FnScope ["_law_one", "_law_other"] ["_law_one", "_law_other"] sc__law_over := ⟨rfl, rfl, rfl, by decide +kernel, rfl, by decide +kernel, by decide +kernel⟩
  refine ⟨f, fd, fn_trG (k := 1) F sc (fun cdv A outer s H E hgd hr => ?_), gl, F.kp, F.bindsN fun _ _ _ _ _ _ us hl => match us, hl with | [_, _], _ => rfl⟩
  have tk : Takes (cxOf (L2.CX P w) P w K mg base ["_law_one", "_law_other"] "_law_over" sc__law_over f cdv A outer s H E) (wOf E) := takes_of rfl rfl rfl rfl
  exact (trs_one (tr_ret (tr_callG h__law_ratio hgd (hr.mono (by decide)) tk rfl (tra_cons (tr_op op_mulW sem_mul (tr_ix ix_seq sem_ix (tr_var 0) tr_int) (tr_ix ix_seq sem_ix (tr_var 1) tr_int)) (tra_cons (tr_op op_mulW sem_mul (tr_ix ix_seq sem_ix (tr_var 0) tr_int) (tr_ix ix_seq sem_ix (tr_var 1) tr_int)) tra_nil)))))
theorem ok__law_under {f : Addr} {fd : FuncData} (F : FnP K "_law_under" (top 47) sc__law_under f fd) (gl : mg "_law_under" = some (.ref f))  : FnGs P w K mg base 1 "_law_under" ["_law_one", "_law_other"] F__law_under := by
  have sc : FnScope ["_law_one", "_law_other"] ["_law_one", "_law_other"] sc__law_under := ⟨rfl, rfl, rfl, by decide +kernel, rfl, by decide +kernel, by decide +kernel⟩
  refine ⟨f, fd, fn_trG (k := 0) F sc (fun cdv A outer s H E hgd hr => ?_), gl, F.kp, F.bindsN fun _ _ _ _ _ _ us hl => match us, hl with | [_, _], _ => rfl⟩
  have tk : Takes (cxOf (L2.CX P w) P w K mg base ["_law_one", "_law_other"] "_law_under" sc__law_under f cdv A outer s H E) (wOf E) := takes_of rfl rfl rfl rfl
  exact (trs_one (tr_ret (tr_cmp op_lt sem_lt (tr_op op_mulW sem_mul (tr_ix ix_seq sem_ix (tr_var 0) tr_int) (tr_ix ix_seq sem_ix (tr_var 1) tr_int)) (tr_op op_mulW sem_mul (tr_ix ix_seq sem_ix (tr_var 1) tr_int) (tr_ix ix_seq sem_ix (tr_var 0) tr_int)) (nomark _))))
theorem ok__law_sum {f : Addr} {fd : FuncData} (F : FnP K "_law_sum" (top 48) sc__law_sum f fd) (gl : mg "_law_sum" = some (.ref f)) (h__law_plus : FnGs P w K mg base 2 "_law_plus" ["_law_one", "_law_other"] F__law_plus) : FnGs P w K mg base 3 "_law_sum" ["_law_some"] F__law_sum := by
  have sc : FnScope ["_law_some", "_law_found", "_law_one"] ["_law_some"] sc__law_sum := ⟨rfl, rfl, rfl, by decide +kernel, rfl, by decide +kernel, by decide +kernel⟩
  refine ⟨f, fd, fn_trG (k := 2) F sc (fun cdv A outer s H E hgd hr => ?_), gl, F.kp, F.bindsN fun _ _ _ _ _ _ us hl => match us, hl with | [_], _ => rfl⟩
  have tk : Takes (cxOf (L2.CX P w) P w K mg base ["_law_some", "_law_found", "_law_one"] "_law_sum" sc__law_sum f cdv A outer s H E) (wOf E) := takes_of rfl rfl rfl rfl
  exact (trs_cons (tr_set (i := 1) sc.nd rfl (.inl rfl) (tr_tup (tra_cons tr_int (tra_cons tr_int tra_nil)))) (trs_cons (tr_for (passes_of rfl) rfl (tri_lst (tr_var 0)) (trg_name sc.nd rfl (.inl rfl)) (trs_one (tr_set (i := 1) sc.nd rfl (.inl rfl) (tr_callG h__law_plus hgd (hr.mono (by decide)) tk rfl (tra_cons (tr_var 1) (tra_cons (tr_var 2) tra_nil)))))) (trs_one (tr_ret (tr_var 1)))))
theorem ok__law_odds {f : Addr} {fd : FuncData} (F : FnP K "_law_odds" (top 49) sc__law_odds f fd) (gl : mg "_law_odds" = some (.ref f)) (m_range : mg "range" = none) (m_len : mg "len" = none) (m_tuple : mg "tuple" = none) (m_sum : mg "sum" = none) (h__law_draw : FnGs P w K mg base 2 "_law_draw" ["_law_state", "_law_many"] F__law_draw) (h__law_of : FnGs P w K mg base 3 "_law_of" ["_law_state", "_law_some"] F__law_of) (h__law_ratio : FnGs P w K mg base 1 "_law_ratio" ["_law_top", "_law_bottom"] F__law_ratio) : FnGs P w K mg base 4 "_law_odds" ["_law_state", "_law_most"] F__law_odds := by
  have sc : FnScope ["_law_state", "_law_most", "_law_parts", "_law_k", "_law_at", "_law_one"] ["_law_state", "_law_most"] sc__law_odds := ⟨rfl, rfl, rfl, by decide +kernel, rfl, by decide +kernel, by decide +kernel⟩
  refine ⟨f, fd, fn_trG (k := 3) F sc (fun cdv A outer s H E hgd hr => ?_), gl, F.kp, F.bindsN fun _ _ _ _ _ _ us hl => match us, hl with | [_, _], _ => rfl⟩
  have tk : Takes (cxOf (L2.CX P w) P w K mg base ["_law_state", "_law_most", "_law_parts", "_law_k", "_law_at", "_law_one"] "_law_odds" sc__law_odds f cdv A outer s H E) (wOf E) := takes_of rfl rfl rfl rfl
  exact (trs_cons (tr_own (i := 2) sc.nd rfl (.inr rfl) tra_nil) (trs_cons (tr_for (passes_of rfl) rfl (tri_rng1 rfl m_range (tra_cons (tr_op op_addW sem_add tr_int (tr_callG h__law_draw hgd (hr.mono (by decide)) tk rfl (tra_cons (tr_var 0) (tra_cons (tr_var 1) tra_nil)))) tra_nil)) (trg_name sc.nd rfl (.inl rfl)) (trs_one (tr_app (pv 2) (tra_cons (tr_callG h__law_of hgd (hr.mono (by decide)) tk rfl (tra_cons (tr_var 0) (tra_cons (tr_lst (tra_cons tr_int (tra_cons tr_int (tra_cons tr_int (tra_cons tr_int (tra_cons tr_int (tra_cons (tr_callG h__law_draw hgd (hr.mono (by decide)) tk rfl (tra_cons (tr_var 0) (tra_cons tr_int tra_nil))) tra_nil))))))) tra_nil))) tra_nil)))) (trs_cons (tr_set (i := 4) sc.nd rfl (.inl rfl) (tr_callG h__law_draw hgd (hr.mono (by decide)) tk rfl (tra_cons (tr_var 0) (tra_cons (tre_frz 2 (tr_callB call_len sem_len rfl m_len bo_len (tra_cons (tr_var 2) tra_nil))) tra_nil)))) (trs_cons (tr_at (pv 2) (tr_var 4) (tr_op op_addW sem_add (tre_frz 2 (tr_ix ix_seq sem_ix (tr_var 2) (tr_var 4))) tr_int)) (trs_one (tr_frz 2 (tr_ret (tr_callTy call_tuple_of sem_tupOf rfl m_tuple bo_tuple (tra_cons (tr_lc (own := [("_law_one", 5)]) rfl sc.nd (tri_lst (tr_var 2)) (blkOk_by (N := ["_law_state", "_law_most", "_law_parts", "_law_k", "_law_at", "_law_one"]) (sc := sc__law_odds) (by decide +kernel)) (by decide) (fun _ _ _ _ _ => (trg_name sc.nd rfl (by first | exact .inl rfl | exact .inr rfl))) (fun _ _ _ _ _ => trt_nil) (fun _ _ _ _ _ => (tr_callG h__law_ratio hgd (hr.mono (by decide)) takes0 rfl (tra_cons (tr_var 5) (tra_cons (tr_callB (callR_or (cr_sum rfl) (cr_sumT rfl)) sem_sum rfl m_sum bo_sum (tra_cons (tr_var 2) tra_nil)) tra_nil))))) tra_nil)))))))))
theorem ok__law_rate_row {f : Addr} {fd : FuncData} (F : FnP K "_law_rate_row" (top 50) sc__law_rate_row f fd) (gl : mg "_law_rate_row" = some (.ref f)) (m_range : mg "range" = none) : FnGs P w K mg base 1 "_law_rate_row" ["_law_many"] F__law_rate_row := by
  have sc : FnScope ["_law_many", "_law_k"] ["_law_many"] sc__law_rate_row := ⟨rfl, rfl, rfl, by decide +kernel, rfl, by decide +kernel, by decide +kernel⟩
  refine ⟨f, fd, fn_trG (k := 0) F sc (fun cdv A outer s H E hgd hr => ?_), gl, F.kp, F.bindsN fun _ _ _ _ _ _ us hl => match us, hl with | [_], _ => rfl⟩
  have tk : Takes (cxOf (L2.CX P w) P w K mg base ["_law_many", "_law_k"] "_law_rate_row" sc__law_rate_row f cdv A outer s H E) (wOf E) := takes_of rfl rfl rfl rfl
  exact (trs_one (tr_ret (tr_op op_addW sem_add (tr_lc (own := [("_law_k", 1)]) rfl sc.nd (tri_rng2 rfl m_range (tra_cons tr_int (tra_cons (tr_var 0) tra_nil))) (blkOk_by (N := ["_law_many", "_law_k"]) (sc := sc__law_rate_row) (by decide +kernel)) (by decide) (fun _ _ _ _ _ => (trg_name sc.nd rfl (by first | exact .inl rfl | exact .inr rfl))) (fun _ _ _ _ _ => trt_nil) (fun _ _ _ _ _ => (tr_tup (tra_cons tr_int (tra_cons (tr_op op_mulW sem_mul (tr_var 1) (tr_op op_addW sem_add (tr_var 1) tr_int)) tra_nil))))) (tr_lst (tra_cons (tr_tup (tra_cons tr_int (tra_cons (tr_var 0) tra_nil))) tra_nil)))))
theorem ok__law_slope {f : Addr} {fd : FuncData} (F : FnP K "_law_slope" (top 51) sc__law_slope f fd) (gl : mg "_law_slope" = some (.ref f)) (m_list : mg "list" = none) (m_len : mg "len" = none) (h__law_sum : FnGs P w K mg base 3 "_law_sum" ["_law_some"] F__law_sum) (h__law_over : FnGs P w K mg base 2 "_law_over" ["_law_one", "_law_other"] F__law_over) (h__law_rate_row : FnGs P w K mg base 1 "_law_rate_row" ["_law_many"] F__law_rate_row) : FnGs P w K mg base 4 "_law_slope" ["_law_odds_so", "_law_first", "_law_last"] F__law_slope := by
  have sc : FnScope ["_law_odds_so", "_law_first", "_law_last", "_law_part"] ["_law_odds_so", "_law_first", "_law_last"] sc__law_slope := ⟨rfl, rfl, rfl, by decide +kernel, rfl, by decide +kernel, by decide +kernel⟩
  refine ⟨f, fd, fn_trG (k := 3) F sc (fun cdv A outer s H E hgd hr => ?_), gl, F.kp, F.bindsN fun _ _ _ _ _ _ us hl => match us, hl with | [_, _, _], _ => rfl⟩
  have tk : Takes (cxOf (L2.CX P w) P w K mg base ["_law_odds_so", "_law_first", "_law_last", "_law_part"] "_law_slope" sc__law_slope f cdv A outer s H E) (wOf E) := takes_of rfl rfl rfl rfl
  exact (trs_cons (tr_set (i := 3) sc.nd rfl (.inl rfl) (tr_callG h__law_sum hgd (hr.mono (by decide)) tk rfl (tra_cons (tr_callTy call_list_of sem_lstOf rfl m_list bo_list (tra_cons (tr_slice (tr_var 0) (tro_some (tr_var 1)) (tro_some (tr_op op_addW sem_add (tr_var 2) tr_int))) tra_nil)) tra_nil))) (trs_one (tr_ret (tr_callG h__law_over hgd (hr.mono (by decide)) tk rfl (tra_cons (tr_var 3) (tra_cons (tr_callG h__law_sum hgd (hr.mono (by decide)) tk rfl (tra_cons (tr_slice (tr_callG h__law_rate_row hgd (hr.mono (by decide)) tk rfl (tra_cons (tr_op op_sub sem_sub (tr_callB call_len sem_len rfl m_len bo_len (tra_cons (tr_var 0) tra_nil)) tr_int) tra_nil)) (tro_some (tr_op op_sub sem_sub (tr_var 1) tr_int)) (tro_some (tr_var 2))) tra_nil)) tra_nil))))))
theorem ok__law_pool_row {f : Addr} {fd : FuncData} (F : FnP K "_law_pool_row" (top 52) sc__law_pool_row f fd) (gl : mg "_law_pool_row" = some (.ref f)) (m_len : mg "len" = none) (m_range : mg "range" = none) (h__law_slope : FnGs P w K mg base 4 "_law_slope" ["_law_odds_so", "_law_first", "_law_last"] F__law_slope) (h__law_under : FnGs P w K mg base 1 "_law_under" ["_law_one", "_law_other"] F__law_under) : FnGs P w K mg base 5 "_law_pool_row" ["_law_odds_so"] F__law_pool_row := by
  have sc : FnScope ["_law_odds_so", "_law_got", "_law_first", "_law_best", "_law_last", "_law_here"] ["_law_odds_so"] sc__law_pool_row := ⟨rfl, rfl, rfl, by decide +kernel, rfl, by decide +kernel, by decide +kernel⟩
  refine ⟨f, fd, fn_trG (k := 4) F sc (fun cdv A outer s H E hgd hr => ?_), gl, F.kp, F.bindsN fun _ _ _ _ _ _ us hl => match us, hl with | [_], _ => rfl⟩
  have tk : Takes (cxOf (L2.CX P w) P w K mg base ["_law_odds_so", "_law_got", "_law_first", "_law_best", "_law_last", "_law_here"] "_law_pool_row" sc__law_pool_row f cdv A outer s H E) (wOf E) := takes_of rfl rfl rfl rfl
  exact (trs_cons (tr_ownPar (by decide) (ps_par rfl sc.nd rfl rfl (by decide) rfl rfl (pa_cons (pe_lst pa_nil) (tra_cons tr_int tra_nil)) (by rfl))) (trs_cons (tr_while (fun _ => 100) (passes_of rfl) (trb_cmp op_lt sem_lt (tr_var 2) (tr_callB call_len sem_len rfl m_len bo_len (tra_cons (tr_var 0) tra_nil)) (nomark _)) (trs_cons (tr_set (i := 3) sc.nd rfl (.inl rfl) tr_non) (trs_cons (tr_for (passes_of rfl) rfl (tri_rng2 rfl m_range (tra_cons (tr_var 2) (tra_cons (tr_callB call_len sem_len rfl m_len bo_len (tra_cons (tr_var 0) tra_nil)) tra_nil))) (trg_name sc.nd rfl (.inl rfl)) (trs_cons (tr_set (i := 5) sc.nd rfl (.inl rfl) (tr_callG h__law_slope hgd (hr.mono (by decide)) tk rfl (tra_cons (tr_var 0) (tra_cons (tr_var 2) (tra_cons (tr_var 4) tra_nil))))) (trs_one (tr_ifs (TrW.toB (trw_or (trb_cmp op_isW sem_is (tr_var 3) tr_non (nomark _)) (trw_or1 (trb_not (trb_tru (tr_callG h__law_under hgd (hr.mono (by decide)) tk rfl (tra_cons (tr_ix ix_seq sem_ix (tr_var 3) tr_int) (tra_cons (tr_var 5) tra_nil)))))))) (trs_one (tr_set (i := 3) sc.nd rfl (.inl rfl) (tr_tup (tra_cons (tr_var 5) (tra_cons (tr_var 4) tra_nil))))) trs_nil)))) (trs_cons (tr_app (pv 1) (tra_cons (tr_tup (tra_cons (tr_var 2) (tra_cons (tr_ix ix_seq sem_ix (tr_var 3) tr_int) tra_nil))) tra_nil)) (trs_one (tr_set (i := 2) sc.nd rfl (.inl rfl) (tr_op op_addW sem_add (tr_ix ix_seq sem_ix (tr_var 3) tr_int) tr_int))))))) (trs_one (tr_frz 1 (tr_ret (tr_var 1))))))
theorem ok__law_price {f : Addr} {fd : FuncData} (F : FnP K "_law_price" (top 53) sc__law_price f fd) (gl : mg "_law_price" = some (.ref f)) (m_zip : mg "zip" = none) (m_len : mg "len" = none) (h__law_rate_row : FnGs P w K mg base 1 "_law_rate_row" ["_law_many"] F__law_rate_row) (h__law_times : FnGs P w K mg base 2 "_law_times" ["_law_one", "_law_other"] F__law_times) (h__law_sum : FnGs P w K mg base 3 "_law_sum" ["_law_some"] F__law_sum) : FnGs P w K mg base 4 "_law_price" ["_law_row"] F__law_price := by
  have sc : FnScope ["_law_row", "_law_parts", "_law_rate", "_law_one"] ["_law_row"] sc__law_price := ⟨rfl, rfl, rfl, by decide +kernel, rfl, by decide +kernel, by decide +kernel⟩
  refine ⟨f, fd, fn_trG (k := 3) F sc (fun cdv A outer s H E hgd hr => ?_), gl, F.kp, F.bindsN fun _ _ _ _ _ _ us hl => match us, hl with | [_], _ => rfl⟩
  have tk : Takes (cxOf (L2.CX P w) P w K mg base ["_law_row", "_law_parts", "_law_rate", "_law_one"] "_law_price" sc__law_price f cdv A outer s H E) (wOf E) := takes_of rfl rfl rfl rfl
  exact (trs_cons (tr_setLc (i := 1) (own := [("_law_rate", 2), ("_law_one", 3)]) rfl sc.nd rfl rfl (sw_true rfl rfl rfl (by decide +kernel)) (tri_zB rfl m_zip (tra_cons (tr_callG h__law_rate_row hgd (hr.mono (by decide)) tk rfl (tra_cons (tr_callB call_len sem_len rfl m_len bo_len (tra_cons (tr_var 0) tra_nil)) tra_nil)) (tra_cons (tr_var 0) tra_nil))) (blkOk_by (N := ["_law_row", "_law_parts", "_law_rate", "_law_one"]) (sc := sc__law_price) (by decide +kernel)) (by decide) (fun _ _ _ _ _ => (trg_tup rfl (trgs_cons (trg_name sc.nd rfl (by first | exact .inl rfl | exact .inr rfl)) (trgs_cons (trg_name sc.nd rfl (by first | exact .inl rfl | exact .inr rfl)) trgs_nil)))) (fun _ _ _ _ _ => trt_nil) (fun _ _ _ _ _ => (tr_callG h__law_times hgd (hr.mono (by decide)) takes0 rfl (tra_cons (tr_var 2) (tra_cons (tr_tup (tra_cons (tr_var 3) (tra_cons tr_int tra_nil))) tra_nil))))) (trs_one (tr_ret (tr_callG h__law_sum hgd (hr.mono (by decide)) tk rfl (tra_cons (tr_var 1) tra_nil)))))
theorem ok__law_right {f : Addr} {fd : FuncData} (F : FnP K "_law_right" (top 54) sc__law_right f fd) (gl : mg "_law_right" = some (.ref f)) (m_tuple : mg "tuple" = none) (m_repr : mg "repr" = none) (m_zip : mg "zip" = none) (m_range : mg "range" = none) (m_len : mg "len" = none) (h__law_pool_row : FnGs P w K mg base 5 "_law_pool_row" ["_law_odds_so"] F__law_pool_row) (h__law_slope : FnGs P w K mg base 4 "_law_slope" ["_law_odds_so", "_law_first", "_law_last"] F__law_slope) (h__law_under : FnGs P w K mg base 1 "_law_under" ["_law_one", "_law_other"] F__law_under) (h_need_chances : FnGs P w K mg base 7 "need_chances" ["thing"] F_need_chances) (h_rates : FnGs P w K mg base 4 "rates" ["many"] F_rates) (h_slopes : FnGs P w K mg base 8 "slopes" ["chances"] F_slopes) (h_pools : FnGs P w K mg base 8 "pools" ["chances"] F_pools) (h__law_rate_row : FnGs P w K mg base 1 "_law_rate_row" ["_law_many"] F__law_rate_row) : FnGs P w K mg base 9 "_law_right" ["_law_odds_so"] F__law_right := by
  have sc : FnScope ["_law_odds_so", "_law_kept_so", "_law_due", "_law_tilts", "_law_again", "_law_heard", "_law_first", "_law_last", "_law_one", "_law_far"] ["_law_odds_so"] sc__law_right := ⟨rfl, rfl, rfl, by decide +kernel, rfl, by decide +kernel, by decide +kernel⟩
  refine ⟨f, fd, fn_trG (k := 8) F sc (fun cdv A outer s H E hgd hr => ?_), gl, F.kp, F.bindsN fun _ _ _ _ _ _ us hl => match us, hl with | [_], _ => rfl⟩
  have tk : Takes (cxOf (L2.CX P w) P w K mg base ["_law_odds_so", "_law_kept_so", "_law_due", "_law_tilts", "_law_again", "_law_heard", "_law_first", "_law_last", "_law_one", "_law_far"] "_law_right" sc__law_right f cdv A outer s H E) (wOf E) := takes_of rfl rfl rfl rfl
  exact (trs_cons (tr_par (ps_par rfl sc.nd rfl rfl (by decide) rfl rfl (tra_cons (tr_callB (cr_repr hgd hr.units) sem_repr rfl m_repr bo_repr (tra_cons (tr_var 0) tra_nil)) (tra_cons (tr_callTy call_tuple_of sem_tupOf rfl m_tuple bo_tuple (tra_cons (tr_callG h__law_pool_row hgd (hr.mono (by decide)) tk rfl (tra_cons (tr_var 0) tra_nil)) tra_nil)) tra_nil)) (by rfl))) (trs_cons (tr_set (i := 3) sc.nd rfl (.inl rfl) (tr_callTy call_tuple_of sem_tupOf rfl m_tuple bo_tuple (tra_cons (tr_lc (own := [("_law_first", 6), ("_law_last", 7)]) rfl sc.nd (tri_tup (tr_var 2)) (blkOk_by (N := ["_law_odds_so", "_law_kept_so", "_law_due", "_law_tilts", "_law_again", "_law_heard", "_law_first", "_law_last", "_law_one", "_law_far"]) (sc := sc__law_right) (by decide +kernel)) (by decide) (fun _ _ _ _ _ => (trg_tup rfl (trgs_cons (trg_name sc.nd rfl (by first | exact .inl rfl | exact .inr rfl)) (trgs_cons (trg_name sc.nd rfl (by first | exact .inl rfl | exact .inr rfl)) trgs_nil)))) (fun _ _ _ _ _ => trt_nil) (fun _ _ _ _ _ => (tr_callG h__law_slope hgd (hr.mono (by decide)) takes0 rfl (tra_cons (tr_var 0) (tra_cons (tr_var 6) (tra_cons (tr_var 7) tra_nil)))))) tra_nil))) (trs_cons (tr_ifs (trb_cmp (op_neS hr.units) sem_neS (tr_lc (own := [("_law_one", 8), ("_law_far", 9)]) rfl sc.nd (tri_zip rfl m_zip (tra_cons (tr_var 3) (tra_cons (tr_slice (tr_var 3) (tro_some tr_int) tro_no) tra_nil))) (blkOk_by (N := ["_law_odds_so", "_law_kept_so", "_law_due", "_law_tilts", "_law_again", "_law_heard", "_law_first", "_law_last", "_law_one", "_law_far"]) (sc := sc__law_right) (by decide +kernel)) (by decide) (fun _ _ _ _ _ => (trg_tup rfl (trgs_cons (trg_name sc.nd rfl (by first | exact .inl rfl | exact .inr rfl)) (trgs_cons (trg_name sc.nd rfl (by first | exact .inl rfl | exact .inr rfl)) trgs_nil)))) (fun _ _ _ _ _ => (trt_one (trb_not (trb_tru (tr_callG h__law_under hgd (hr.mono (by decide)) takes0 rfl (tra_cons (tr_var 8) (tra_cons (tr_var 9) tra_nil))))))) (fun _ _ _ _ _ => tr_int)) (tr_lst tra_nil) (nomark _)) (trs_one (tr_ret tr_bl)) trs_nil) (trs_cons (tr_for (passes_of rfl) rfl (tri_rng1 rfl m_range (tra_cons tr_int tra_nil)) (trg_name sc.nd rfl (.inl rfl)) (trs_cons (tr_set (i := 5) sc.nd rfl (.inl rfl) (tr_lst (tra_cons (tr_callG h_pools hgd (hr.mono (by decide)) tk rfl (tra_cons (tr_var 0) tra_nil)) (tra_cons (tr_callG h_slopes hgd (hr.mono (by decide)) tk rfl (tra_cons (tr_var 0) tra_nil)) (tra_cons (tr_callG h_rates hgd (hr.mono (by decide)) tk rfl (tra_cons (tr_op op_sub sem_sub (tr_callB call_len sem_len rfl m_len bo_len (tra_cons (tr_var 0) tra_nil)) tr_int) tra_nil)) (tra_cons (tr_callG h_need_chances hgd (hr.mono (by decide)) tk rfl (tra_cons (tr_var 0) tra_nil)) tra_nil)))))) (trs_one (tr_ifs (trb_cmp (op_neS hr.units) sem_neS (tr_callB (cr_repr hgd hr.units) sem_repr rfl m_repr bo_repr (tra_cons (tr_var 5) tra_nil)) (tr_callB (cr_repr hgd hr.units) sem_repr rfl m_repr bo_repr (tra_cons (tr_lst (tra_cons (tr_var 2) (tra_cons (tr_var 3) (tra_cons (tr_callTy call_tuple_of sem_tupOf rfl m_tuple bo_tuple (tra_cons (tr_callG h__law_rate_row hgd (hr.mono (by decide)) tk rfl (tra_cons (tr_op op_sub sem_sub (tr_callB call_len sem_len rfl m_len bo_len (tra_cons (tr_var 0) tra_nil)) tr_int) tra_nil)) tra_nil)) (tra_cons (tr_var 0) tra_nil))))) tra_nil)) (nomark _)) (trs_one (tr_ret tr_bl)) trs_nil)))) (trs_one (tr_ret (tr_cmp (op_eqS hr.units) sem_eqS (tr_callB (cr_repr hgd hr.units) sem_repr rfl m_repr bo_repr (tra_cons (tr_var 0) tra_nil)) (tr_var 1) (nomark _))))))))
theorem ok_law {f fB : Addr} {fd fdB : FuncData} (F : FnP K "law" (top 55) sc_law f fd) (FB : FnP K "_law_begin" (top 40) sc__law_begin fB fdB) (gB : mg "_law_begin" = some (.ref fB)) (m_list0 : mg "list" = none) (en : LawEnds g_law 9) (m_range : mg "range" = none) (m_min : mg "min" = none) (m_len : mg "len" = none) (m_tuple : mg "tuple" = none) (m_sorted : mg "sorted" = none) (h__law_odds : FnGs P w K mg base 4 "_law_odds" ["_law_state", "_law_most"] F__law_odds) (h__law_right : FnGs P w K mg base 9 "_law_right" ["_law_odds_so"] F__law_right) (h__law_draw : FnGs P w K mg base 2 "_law_draw" ["_law_state", "_law_many"] F__law_draw) (h_price_of : FnGs P w K mg base 6 "price_of" ["stair"] F_price_of) (h__law_price : FnGs P w K mg base 4 "_law_price" ["_law_row"] F__law_price) (h_rates : FnGs P w K mg base 4 "rates" ["many"] F_rates) (h_slopes : FnGs P w K mg base 8 "slopes" ["chances"] F_slopes) (h_pools : FnGs P w K mg base 8 "pools" ["chances"] F_pools) : FnG P w K mg base 10 f fd ["_law_script"] (spLaw K) := by
  have sc : FnScope ["_law_script", "_law_state", "_law_turn", "_law_odds_so", "_law_row", "_law_even", "_law_heard", "_law_due", "_law_late", "_law_early", "_law_k"] ["_law_script"] sc_law := ⟨rfl, rfl, rfl, by decide +kernel, rfl, by decide +kernel, by decide +kernel⟩
  have GB : FnOk P w K mg base (L2.CX P w) 1 fB fdB ["_law_script"] (spBegin K) := ok__law_begin FB m_list0
  have bB : Binds K fdB ["_law_script"] [] := FB.bindsN fun _ _ _ _ _ _ us hl => match us, hl with | [_], _ => rfl
  refine gdef (k := 9) F sc (fun vs H Q E h => ?_) (fun cdv A outer s H vs Q E hgd hr h => ?_)
  · obtain ⟨a, ns, rfl, _⟩ := h
    rfl
  have tk : Takes (cxOf (L2.CX P w) P w K mg base ["_law_script", "_law_state", "_law_turn", "_law_odds_so", "_law_row", "_law_even", "_law_heard", "_law_due", "_law_late", "_law_early", "_law_k"] "law" sc_law f cdv A outer s H E) (wOf E) := takes_of rfl rfl rfl rfl
  have rest : TrSs (cxOf (L2.CX P w) P w K mg base ["_law_script", "_law_state", "_law_turn", "_law_odds_so", "_law_row", "_law_even", "_law_heard", "_law_due", "_law_late", "_law_early", "_law_k"] "law" sc_law f cdv A outer s H E) E (defBody (top 55)).tail g_law :=
    (trs_cons (tr_for (passes_of rfl) rfl (tri_rng1 rfl m_range (tra_cons (tr_op op_addW sem_add tr_int (tr_callB (callR_or (call_min2 rfl) (cr_min rfl)) sem_min rfl m_min bo_min (tra_cons (tr_callB call_len sem_len rfl m_len bo_len (tra_cons (tr_var 0) tra_nil)) (tra_cons tr_int tra_nil)))) tra_nil)) (trg_name sc.nd rfl (.inl rfl)) (trs_cons (tr_set (i := 3) sc.nd rfl (.inl rfl) (tr_callG h__law_odds hgd (hr.mono (by decide)) tk rfl (tra_cons (tr_var 1) (tra_cons tr_int tra_nil)))) (trs_cons (tr_ifs (trb_not (trb_tru (tr_callG h__law_right hgd (hr.mono (by decide)) tk rfl (tra_cons (tr_var 3) tra_nil)))) (trs_one (tr_ret tr_bl)) trs_nil) (trs_cons (tr_set (i := 4) sc.nd rfl (.inl rfl) (tr_callTy call_tuple_of sem_tupOf rfl m_tuple bo_tuple (tra_cons (tr_callB cr_sortedI sem_sortedI rfl m_sorted bo_sorted (tra_cons (tr_lc (own := [("_law_k", 10)]) rfl sc.nd (tri_tup (tr_slice (tr_var 3) (tro_some tr_int) tro_no)) (blkOk_by (N := ["_law_script", "_law_state", "_law_turn", "_law_odds_so", "_law_row", "_law_even", "_law_heard", "_law_due", "_law_late", "_law_early", "_law_k"]) (sc := sc_law) (by decide +kernel)) (by decide) (fun _ _ _ _ _ => (trg_name sc.nd rfl (by first | exact .inl rfl | exact .inr rfl))) (fun _ _ _ _ _ => trt_nil) (fun _ _ _ _ _ => (tr_callG h__law_draw hgd (hr.mono (by decide)) takes0 rfl (tra_cons (tr_var 1) (tra_cons tr_int tra_nil))))) tra_nil)) tra_nil))) (trs_one (tr_ifs (trb_cmp (op_neS hr.units) sem_neS (tr_callG h_price_of hgd (hr.mono (by decide)) tk rfl (tra_cons (tr_var 4) tra_nil)) (tr_callG h__law_price hgd (hr.mono (by decide)) tk rfl (tra_cons (tr_var 4) tra_nil)) (nomark _)) (trs_one (tr_ret tr_bl)) trs_nil)))))) (trs_cons (tr_set (i := 5) sc.nd rfl (.inl rfl) (tr_tup (tra_cons (tr_tup (tra_cons tr_int (tra_cons tr_int tra_nil))) (tra_cons (tr_tup (tra_cons tr_int (tra_cons tr_int tra_nil))) (tra_cons (tr_tup (tra_cons tr_int (tra_cons tr_int tra_nil))) (tra_cons (tr_tup (tra_cons tr_int (tra_cons tr_int tra_nil))) tra_nil)))))) (trs_cons (tr_set (i := 6) sc.nd rfl (.inl rfl) (tr_lst (tra_cons (tr_callG h_pools hgd (hr.mono (by decide)) tk rfl (tra_cons (tr_var 5) tra_nil)) (tra_cons (tr_callG h_slopes hgd (hr.mono (by decide)) tk rfl (tra_cons (tr_var 5) tra_nil)) (tra_cons (tr_callG h_rates hgd (hr.mono (by decide)) tk rfl (tra_cons tr_int tra_nil)) (tra_cons (tr_callG h_pools hgd (hr.mono (by decide)) tk rfl (tra_cons (tr_tup (tra_cons (tr_tup (tra_cons tr_int (tra_cons tr_int tra_nil))) (tra_cons (tr_tup (tra_cons tr_int (tra_cons tr_int tra_nil))) tra_nil))) tra_nil)) (tra_cons (tr_callG h_slopes hgd (hr.mono (by decide)) tk rfl (tra_cons (tr_tup (tra_cons (tr_tup (tra_cons tr_int (tra_cons tr_int tra_nil))) (tra_cons (tr_tup (tra_cons tr_int (tra_cons tr_int tra_nil))) tra_nil))) tra_nil)) (tra_cons (tr_callG h_rates hgd (hr.mono (by decide)) tk rfl (tra_cons tr_int tra_nil)) tra_nil)))))))) (trs_cons (tr_set (i := 7) sc.nd rfl (.inl rfl) (tr_lst (tra_cons (tr_tup (tra_cons (tr_tup (tra_cons tr_int (tra_cons tr_int tra_nil))) (tra_cons (tr_tup (tra_cons tr_int (tra_cons tr_int tra_nil))) tra_nil))) (tra_cons (tr_tup (tra_cons (tr_tup (tra_cons tr_int (tra_cons tr_int tra_nil))) (tra_cons (tr_tup (tra_cons tr_int (tra_cons tr_int tra_nil))) tra_nil))) (tra_cons (tr_tup (tra_cons (tr_tup (tra_cons tr_int (tra_cons tr_int tra_nil))) (tra_cons (tr_tup (tra_cons tr_int (tra_cons tr_int tra_nil))) (tra_cons (tr_tup (tra_cons tr_int (tra_cons tr_int tra_nil))) tra_nil)))) (tra_cons (tr_tup (tra_cons (tr_tup (tra_cons tr_int (tra_cons tr_int tra_nil))) tra_nil)) (tra_cons (tr_tup (tra_cons (tr_tup (tra_cons tr_int (tra_cons tr_int tra_nil))) tra_nil)) (tra_cons (tr_tup (tra_cons (tr_tup (tra_cons tr_int (tra_cons tr_int tra_nil))) tra_nil)) tra_nil)))))))) (trs_cons (tr_ifs (trb_cmp (op_neS hr.units) sem_neS (tr_var 6) (tr_var 7) (nomark _)) (trs_one (tr_ret tr_bl)) trs_nil) (trs_cons (tr_ifs (TrW.toB (trw_or (trb_cmp (op_neS hr.units) sem_neS (tr_callG h_pools hgd (hr.mono (by decide)) tk rfl (tra_cons (tr_tup (tra_cons (tr_tup (tra_cons tr_int (tra_cons tr_int tra_nil))) (tra_cons (tr_tup (tra_cons tr_int (tra_cons tr_int tra_nil))) (tra_cons (tr_tup (tra_cons tr_int (tra_cons tr_int tra_nil))) (tra_cons (tr_tup (tra_cons tr_int (tra_cons tr_int tra_nil))) tra_nil))))) tra_nil)) (tr_tup (tra_cons (tr_tup (tra_cons tr_int (tra_cons tr_int tra_nil))) tra_nil)) (nomark _)) (trw_or1 (trb_cmp (op_neS hr.units) sem_neS (tr_callG h_slopes hgd (hr.mono (by decide)) tk rfl (tra_cons (tr_tup (tra_cons (tr_tup (tra_cons tr_int (tra_cons tr_int tra_nil))) (tra_cons (tr_tup (tra_cons tr_int (tra_cons tr_int tra_nil))) (tra_cons (tr_tup (tra_cons tr_int (tra_cons tr_int tra_nil))) (tra_cons (tr_tup (tra_cons tr_int (tra_cons tr_int tra_nil))) tra_nil))))) tra_nil)) (tr_tup (tra_cons (tr_tup (tra_cons tr_int (tra_cons tr_int tra_nil))) tra_nil)) (nomark _))))) (trs_one (tr_ret tr_bl)) trs_nil) (trs_cons (tr_set (i := 8) sc.nd rfl (.inl rfl) (tr_tup (tra_cons (tr_tup (tra_cons tr_int (tra_cons tr_int tra_nil))) (tra_cons (tr_tup (tra_cons tr_int (tra_cons tr_int tra_nil))) (tra_cons (tr_tup (tra_cons tr_int (tra_cons tr_int tra_nil))) (tra_cons (tr_tup (tra_cons tr_int (tra_cons tr_int tra_nil))) tra_nil)))))) (trs_cons (tr_set (i := 9) sc.nd rfl (.inl rfl) (tr_tup (tra_cons (tr_tup (tra_cons tr_int (tra_cons tr_int tra_nil))) (tra_cons (tr_tup (tra_cons tr_int (tra_cons tr_int tra_nil))) (tra_cons (tr_tup (tra_cons tr_int (tra_cons tr_int tra_nil))) (tra_cons (tr_tup (tra_cons tr_int (tra_cons tr_int tra_nil))) tra_nil)))))) (trs_cons (tr_set (i := 6) sc.nd rfl (.inl rfl) (tr_lst (tra_cons (tr_callG h_pools hgd (hr.mono (by decide)) tk rfl (tra_cons (tr_var 8) tra_nil)) (tra_cons (tr_callG h_slopes hgd (hr.mono (by decide)) tk rfl (tra_cons (tr_var 8) tra_nil)) (tra_cons (tr_callG h_pools hgd (hr.mono (by decide)) tk rfl (tra_cons (tr_var 9) tra_nil)) (tra_cons (tr_callG h_slopes hgd (hr.mono (by decide)) tk rfl (tra_cons (tr_var 9) tra_nil)) (tra_cons (tr_callG h_pools hgd (hr.mono (by decide)) tk rfl (tra_cons (tr_tup (tra_cons (tr_tup (tra_cons tr_int (tra_cons tr_int tra_nil))) (tra_cons (tr_tup (tra_cons tr_int (tra_cons tr_int tra_nil))) (tra_cons (tr_tup (tra_cons tr_int (tra_cons tr_int tra_nil))) tra_nil)))) tra_nil)) tra_nil))))))) (trs_one (tr_ret (tr_cmp (op_eqS hr.units) sem_eqS (tr_var 6) (tr_lst (tra_cons (tr_tup (tra_cons (tr_tup (tra_cons tr_int (tra_cons tr_int tra_nil))) (tra_cons (tr_tup (tra_cons tr_int (tra_cons tr_int tra_nil))) tra_nil))) (tra_cons (tr_tup (tra_cons (tr_tup (tra_cons tr_int (tra_cons tr_int tra_nil))) (tra_cons (tr_tup (tra_cons tr_int (tra_cons tr_int tra_nil))) tra_nil))) (tra_cons (tr_tup (tra_cons (tr_tup (tra_cons tr_int (tra_cons tr_int tra_nil))) tra_nil)) (tra_cons (tr_tup (tra_cons (tr_tup (tra_cons tr_int (tra_cons tr_int tra_nil))) tra_nil)) (tra_cons (tr_tup (tra_cons (tr_tup (tra_cons tr_int (tra_cons tr_int tra_nil))) tra_nil)) tra_nil)))))) (nomark _)))))))))))))
  refine ⟨_, pss_cons (ps_set (i := 1) sc.nd rfl (.inr rfl) (pe_callSD (E := fun σ => WE (wOf E) σ) GB (hr.mono (by decide)) rfl gB FB.kp bB .nil (fun σ => passAt tk σ) (pa_cons (pv 0) pa_nil))) rest, ?_⟩
  obtain ⟨a, ns, rfl, hS, hz, q⟩ := h
  exact ⟨.ref a, rfl, a, ns, rfl, hS, hz, fun S ca la H' cells lefts sm nS nca nla h1 h2 h3 hl h0 hne => law_rest en hz q hS sm nS nca nla h1 h2 h3 hl h0 hne⟩
end
end Lw
namespace Rt
def Fr (a b : Int) : Prop := 0 < b ∧ Int.gcd a b = 1
def num (t b : Int) : Int := t / (Int.gcd t b : Int)
def den (t b : Int) : Int := b / (Int.gcd t b : Int)
theorem g_pos {t b : Int} (hb : 0 < b) : 0 < (Int.gcd t b : Int) := by
  have h : 0 < Int.gcd t b := Int.gcd_pos_of_ne_zero_right t (by omega)
  omega
theorem num_eq (t b : Int) : (Int.gcd t b : Int) * num t b = t := Int.mul_ediv_cancel' (Int.gcd_dvd_left t b)
theorem den_eq (t b : Int) : (Int.gcd t b : Int) * den t b = b := Int.mul_ediv_cancel' (Int.gcd_dvd_right t b)
theorem den_pos {t b : Int} (hb : 0 < b) : 0 < den t b := by
  have h := den_eq t b
  have g := g_pos (t := t) hb
  rcases Int.lt_trichotomy (den t b) 0 with h1 | h1 | h1
  · have : (Int.gcd t b : Int) * den t b < 0 := Int.mul_neg_of_pos_of_neg g h1
    omega
  · rw [h1] at h
    omega
  · exact h1
theorem fr_nrm {t b : Int} (hb : 0 < b) : Fr (num t b) (den t b) := by
  refine ⟨den_pos hb, ?_⟩
  have hg := g_pos (t := t) hb
  have e : Int.gcd ((Int.gcd t b : Int) * num t b) ((Int.gcd t b : Int) * den t b) = Int.gcd t b * Int.gcd (num t b) (den t b) := by
    rw [Int.gcd_mul_left, Int.natAbs_natCast]
  rw [num_eq, den_eq] at e
  have h : 0 < Int.gcd t b := by omega
  have e2 : Int.gcd t b * Int.gcd (num t b) (den t b) = Int.gcd t b * 1 := by rw [Nat.mul_one]; exact e.symm
  exact Nat.eq_of_mul_eq_mul_left h e2
theorem cross {t b : Int} : num t b * b = t * den t b := by
  have h1 := num_eq t b
  have h2 := den_eq t b
  grind
theorem dvd_help {a b c d : Int} (h : Fr a b) (hd : 0 < d) (e : a * d = c * b) : b ∣ d := by
  have h1 : b.natAbs ∣ a.natAbs * d.natAbs := by
    rw [← Int.natAbs_mul, e, Int.natAbs_mul]
    exact Nat.dvd_mul_left _ _
  have h2 : Nat.Coprime b.natAbs a.natAbs := by
    have := h.2
    unfold Int.gcd at this
    unfold Nat.Coprime
    rw [Nat.gcd_comm]
    exact this
  have h3 := Nat.Coprime.dvd_of_dvd_mul_left h2 h1
  exact Int.natAbs_dvd_natAbs.mp h3
theorem uniq {a b c d : Int} (h : Fr a b) (k : Fr c d) (e : a * d = c * b) : a = c ∧ b = d := by
  have h1 : b ∣ d := dvd_help h k.1 e
  have h2 : d ∣ b := dvd_help k h.1 e.symm
  have h3 : b = d := Int.dvd_antisymm (by have := h.1; omega) (by have := k.1; omega) h1 h2
  subst h3
  exact ⟨Int.eq_of_mul_eq_mul_right (by have := h.1; omega) e, rfl⟩
/-- what a quotient of the same worth comes to -/
theorem nrm_is {t b a c : Int} (hb : 0 < b) (h : Fr a c) (e : t * c = a * b) : num t b = a ∧ den t b = c := by
  refine uniq (fr_nrm hb) h ?_
  have hx := cross (t := t) (b := b)
  have e2 : b * (num t b * c) = b * (a * den t b) := by grind
  exact Int.eq_of_mul_eq_mul_left (by omega) e2
end Rt
namespace Lw
open PySem L2 PF Rt
abbrev J (n : Nat) (f : Nat → Int) : List PF.W := (List.range n).map fun (i : Nat) => PF.W.int (f i)
theorem J_len (n : Nat) (f : Nat → Int) : (J n f).length = n := by simp [J]
theorem J_get {n : Nat} {f : Nat → Int} {i : Nat} (h : i < n) : (J n f)[i]? = some (.int (f i)) := by simp [J, h]
theorem J_eq {n : Nat} {f g : Nat → Int} (h : ∀ i, i < n → f i = g i) : J n f = J n g := List.map_congr_left fun i hi => by rw [h i (List.mem_range.mp hi)]
theorem J_enum (n : Nat) (f : Nat → Int) (k : Int) : enumF k (J n f) = (List.range n).map fun (i : Nat) => PF.W.tup [.int (k + (i : Int)), .int (f i)] := by
  refine List.ext_getElem? fun i => ?_
  rw [enumF_get]
  by_cases h : i < n <;> simp [J, h]
theorem J_enum0 (n : Nat) (f : Nat → Int) : enumF 0 (J n f) = (List.range n).map fun (i : Nat) => PF.W.tup [.int (i : Int), .int (f i)] := by
  rw [J_enum]
  simp
theorem J_zip (n m : Nat) (f g : Nat → Int) : zipF (J n f) (J m g) = (List.range (min n m)).map fun (i : Nat) => PF.W.tup [.int (f i), .int (g i)] := by
  refine List.ext_getElem (by simp [zipF_length, J]) fun i h1 h2 => ?_
  obtain ⟨w, u, e1, e2, e3⟩ := zipF_get _ _ i _ (List.getElem?_eq_getElem h1)
  simp only [List.length_map, List.length_range] at h2
  rw [J_get (by omega)] at e1 e2
  cases e1
  cases e2
  rw [e3]
  simp
theorem J_tail (n : Nat) (f : Nat → Int) : cutW (J n f) (some 1) none = J (n - 1) fun i => f (i + 1) := by
  refine List.ext_getElem? fun i => ?_
  cases n with
  | zero => simp [J, cutW]
  | succ n =>
    simp [cutW, HT.sIx, J]
    by_cases h : i < n
    · simp [h]
    · simp [h]
theorem size_small {ws : List PF.W} (h : ws.length ≤ 1000) : sizeOk ws = true := sizeOk_is (by omega)
theorem room_is {ws : List PF.W} (h : ws.length < 16777216) : roomOk ws = true := by
  unfold roomOk
  exact decide_eq_true h
theorem mul_small {a b : Int} (ha : -(2 ^ 40) < a ∧ a < 2 ^ 40) (hb : -(2 ^ 40) < b ∧ b < 2 ^ 40) : mulOk a b = true := mulOk_of (a := 41) (b := 41) (by omega) (by omega) (by decide) (by decide) (by decide)
theorem div_small {b : Int} (h : 0 < b) (hb : b < 2 ^ 40) : divOk b = true := divOk_of (b := 41) h (by omega) (by decide) (by decide)
theorem isint_run (a : Int) : F_is_integer [.int a] = .ok (.bl true) := by
  simp [F_is_integer, defF, startE, endOf]
  rfl
theorem between_run (x lo hi : Int) : F_is_between [.int x, .int lo, .int hi] = .ok (.bl (decide (lo ≤ x) && decide (x ≤ hi))) := by
  by_cases h : lo ≤ x <;> simp [F_is_between, defF, startE, endOf, isint_run, fCh, h]
theorem tup_is (ws : List PF.W) : isiW (isOnly "tuple") (.tup ws) = .ok (.bl true) := rfl
theorem all_bls {α : Type} {as : List α} {t : α → Bool} (h : ∀ a ∈ as, t a = true) : allW [.lst (as.map fun a => PF.W.bl (t a))] = .ok (.bl true) := by
  have e : (as.map fun a => PF.W.bl (t a)) = (as.map t).map PF.W.bl := by rw [List.map_map]; rfl
  rw [e, allW_of]
  have : (as.map t).all id = true := by
    rw [List.all_map, List.all_eq_true]
    exact h
  rw [this]
structure Stair (n : Nat) (f : Nat → Int) : Prop where
  one : 1 ≤ n
  eight : n ≤ 8
  low : ∀ i, i < n → 0 ≤ f i
  top : ∀ i, i < n → f i ≤ 1000
  up : ∀ i, i + 1 < n → f i ≤ f (i + 1)
theorem Stair.mono {n : Nat} {f : Nat → Int} (h : Stair n f) : ∀ (k i : Nat), i + k < n → f i ≤ f (i + k)
  | 0, i, _ => Int.le_refl _
  | k + 1, i, hi => by
    have h1 := h.mono k i (by omega)
    have h2 := h.up (i + k) (by omega)
    show f i ≤ f (i + k + 1)
    omega
theorem Stair.le {n : Nat} {f : Nat → Int} (h : Stair n f) {i j : Nat} (hij : i ≤ j) (hj : j < n) : f i ≤ f j := by
  obtain ⟨k, rfl⟩ : ∃ k, j = i + k := ⟨j - i, by omega⟩
  exact h.mono k i hj
theorem stair_run {n : Nat} {f : Nat → Int} (h : Stair n f) : F_is_stair [.tup (J n f)] = .ok (.bl true) := by
  have o := h.one
  have e8 := h.eight
  have i1 : (1 : Int) ≤ (n : Int) := by omega
  have i8 : (n : Int) ≤ 8 := by omega
  have hz : sizeOk (J n f) = true := size_small (by rw [J_len]; omega)
  have c : compL (goName 1) fYes (fL (fCons (gV 1) (fCons (fun _ => .ok (.int 0)) (fCons (fun _ => .ok k_MOST_STAIR) fNil))) F_is_between) [.val (.tup (J n f)), .un, .un] (J n f) = .ok (.map (fun (i : Nat) => PF.W.bl (decide (0 ≤ f i) && decide (f i ≤ 1000))) (List.range n)) := by
    refine compL_map _ _ _ fun i _ => ⟨_, rfl, rfl, ?_⟩
    simp [k_MOST_STAIR, between_run]
  have hA := all_bls (as := List.range n) (t := fun i => decide (0 ≤ f i) && decide (f i ≤ 1000)) fun i hi => by
    have a := h.low i (List.mem_range.mp hi)
    have b := h.top i (List.mem_range.mp hi)
    simp [a, b]
  have c2 : compL (goTup 2 (goCons (goName 1) (goCons (goName 2) goNil))) fYes (f2 leW (gV 1) (gV 2)) [.val (.tup (J n f)), .un, .un] (.map (fun (i : Nat) => PF.W.tup [.int (f i), .int (f (i + 1))]) (List.range (n - 1))) = .ok (.map (fun (i : Nat) => PF.W.bl (decide (f i ≤ f (i + 1)))) (List.range (n - 1))) := compL_map _ _ _ fun i _ => ⟨_, rfl, rfl, by simp⟩
  have hB := all_bls (as := List.range (n - 1)) (t := fun i => decide (f i ≤ f (i + 1))) fun i hi => by
    have a := h.up i (by have := List.mem_range.mp hi; omega)
    simp [a]
  have hm : min n (n - 1) = n - 1 := by omega
  have hz2 : sizeOk (.map (fun (i : Nat) => PF.W.tup [.int (f i), .int (f (i + 1))]) (List.range (n - 1))) = true := size_small (by simp; omega)
  unfold F_is_stair defF
  simp only [startE, List.map_cons, List.map_nil, List.length_cons, List.length_nil, Nat.reduceAdd, Nat.reduceSub, List.replicate, List.cons_append, List.nil_append, beq_self_eq_true, if_true, sSeq_eq, sIf_eq, fOr_eq, fNot_eq, fTru_eq, f1_eq, gV_eq, List.getElem?_cons_zero, T.bind_ok, tup_is, truW_bl, fBl_eq, fCh, fL_eq, fCons_eq, fNil_eq, lenW_tup, J_len, k_MOST_LETTERS, leW_int, decide_eq_true i1, decide_eq_true i8, blW_bl, Bool.not_true, Bool.false_eq_true, if_false, sNil_eq, fComp, iOf_eq, tupW, hz, wipeE, List.set_cons_succ, List.set_cons_zero, c, hA, sRet_eq, iL_eq, fSl, pSome, pInt, pNo, slW, J_tail, zpW, J_zip, hm, hz2, c2, hB, endOf]
def rz (f : Nat → Int) (k x : Int) : Nat → Int := fun (i : Nat) => if k ≤ 1 + (i : Int) then (if x > f i then x else f i) else f i
def S (k : Nat) (a : Int) : Prop := a.natAbs < 2 ^ k
theorem S.mul {k l : Nat} {a b : Int} (h : S k a) (g : S l b) : S (k + l) (a * b) := wide_lt h g
theorem S.mono {k l : Nat} {a : Int} (h : S k a) (g : k ≤ l) : S l a := Nat.lt_of_lt_of_le h (Nat.pow_le_pow_right (by decide) g)
theorem S.add {k : Nat} {a b : Int} (h : S k a) (g : S k b) : S (k + 1) (a + b) := by
  unfold S at *
  rw [Nat.pow_succ]
  have : (a + b).natAbs ≤ a.natAbs + b.natAbs := Int.natAbs_add_le a b
  omega
theorem S.sub {k : Nat} {a b : Int} (h : S k a) (g : S k b) : S (k + 1) (a - b) := by
  unfold S at *
  rw [Nat.pow_succ]
  have : (a - b).natAbs ≤ a.natAbs + b.natAbs := by omega
  omega
theorem S.ok {k l : Nat} {a b : Int} (h : S k a) (g : S l b) (e : k + l ≤ 999998) : mulOk a b = true := mulOk_of (a := k + 1) (b := l + 1) (h.mono (Nat.le_succ k)) (g.mono (Nat.le_succ l)) (by omega) (by omega) (by omega)
theorem S.num {k : Nat} {t b : Int} (h : S k t) : S k (num t b) := Nat.lt_of_le_of_lt (Int.natAbs_ediv_le_natAbs _ _) h
theorem S.den {k : Nat} {t b : Int} (h : S k b) : S k (den t b) := Nat.lt_of_le_of_lt (Int.natAbs_ediv_le_natAbs _ _) h
theorem S.gcd {k : Nat} {t b : Int} (hb : b ≠ 0) (h : S k b) : S k (Int.gcd t b) := by
  unfold S at *
  rw [Int.natAbs_natCast]
  exact Nat.lt_of_le_of_lt (Int.gcd_le_natAbs_right t hb) h
theorem S.of {k : Nat} {a : Int} (h : -(2 ^ k : Nat) < a ∧ a < (2 ^ k : Nat)) : S k a := by
  unfold S
  omega
theorem com_loop : ∀ (n x y : Nat), y < n → whileL (fBl (f2 neS (gV 1) (fun _ => .ok (.int 0)))) (sPar 0 1 (fCons (gV 1) (fCons (f2 modW (gV 0) (fL (fCons (gV 1) fNil) intW)) fNil))) n [.val (.int x), .val (.int y)] = .ok (.nx, [.val (.int (Nat.gcd x y)), .val (.int 0)])
  | 0, x, y, h => by omega
  | n + 1, x, y, h => by
    unfold whileL
    by_cases hy : y = 0
    · subst hy
      simp
    · have hp : 0 < y := by omega
      have ih := com_loop n y (x % y) (by have := Nat.mod_lt x (show y > 0 by omega); omega)
      have e : ((x : Int) % (y : Int)) = ((x % y : Nat) : Int) := by simp
      have eg : Nat.gcd y (x % y) = Nat.gcd x y := by rw [Nat.gcd_comm y, ← Nat.gcd_rec, Nat.gcd_comm]
      simp [hp, hy]
      rw [e, ih, eg]
theorem abs_is (t : Int) : (if t < 0 then -t else t) = ((t.natAbs : Nat) : Int) := by
  split <;> omega
theorem com_run (t b : Int) : F_common [.int t, .int b] = .ok (.int (Int.gcd t b)) := by
  simp [F_common, defF, startE, endOf, sWhile, wInt, abs_is, com_loop]
  rfl
theorem lrat_loop (t b : Int) : ∀ (n x y : Nat), y < n → whileL (fBl (f2 neS (gV 3) (fun _ => .ok (.int 0)))) (sPar 2 3 (fCons (gV 3) (fCons (f2 modW (fL (fCons (gV 2) fNil) intW) (gV 3)) fNil))) n [.val (.int t), .val (.int b), .val (.int x), .val (.int y)] = .ok (.nx, [.val (.int t), .val (.int b), .val (.int (Nat.gcd x y)), .val (.int 0)])
  | 0, x, y, h => by omega
  | n + 1, x, y, h => by
    unfold whileL
    by_cases hy : y = 0
    · subst hy
      simp
    · have hp : 0 < y := by omega
      have ih := lrat_loop t b n y (x % y) (by have := Nat.mod_lt x (show y > 0 by omega); omega)
      have e : ((x : Int) % (y : Int)) = ((x % y : Nat) : Int) := by simp
      have eg : Nat.gcd y (x % y) = Nat.gcd x y := by rw [Nat.gcd_comm y, ← Nat.gcd_rec, Nat.gcd_comm]
      simp [hp, hy]
      rw [e, ih, eg]
abbrev fr (a b : Int) : PF.W := .tup [.int a, .int b]
theorem lrat_run {t b : Int} (hb : 0 < b) (hs : S 8000 b) : F__law_ratio [.int t, .int b] = .ok (fr (num t b) (den t b)) := by
  have hd : divOk (Int.gcd t b : Int) = true := divOk_of (b := 8000) (g_pos hb) (S.gcd (by omega) hs) (by decide) (by decide)
  have el : whileL (fBl (f2 neS (gV 3) (fun _ => .ok (.int 0)))) (sPar 2 3 (fCons (gV 3) (fCons (f2 modW (fL (fCons (gV 2) fNil) intW) (gV 3)) fNil))) (b.natAbs + 1) [.val (.int t), .val (.int b), .val (.int (t.natAbs : Nat)), .val (.int b)] = .ok (.nx, [.val (.int t), .val (.int b), .val (.int (Int.gcd t b)), .val (.int 0)]) := by
    have := lrat_loop t b (b.natAbs + 1) t.natAbs b.natAbs (by omega)
    have e : ((b.natAbs : Nat) : Int) = b := by omega
    rw [e] at this
    exact this
  simp [F__law_ratio, defF, startE, endOf, sWhile, wInt, abs_is, el, hd, num, den]
theorem made_pos {t b : Int} (hb : 0 < b) (hs : S 8000 b) : F_made [.int t, .int b] = .ok (fr (num t b) (den t b)) := by
  have hd : divOk (Int.gcd t b : Int) = true := divOk_of (b := 8000) (g_pos hb) (S.gcd (by omega) hs) (by decide) (by decide)
  have h0 : ¬ b < 0 := by omega
  simp [F_made, defF, startE, endOf, com_run, hd, num, den, h0]
theorem allW_2 : allW [.lst [.bl true, .bl true]] = .ok (.bl true) := rfl
theorem ix0 (a b : PF.W) : ixW (.tup [a, b]) (.int 0) = .ok a := rfl
theorem ix1 (a b : PF.W) : ixW (.tup [a, b]) (.int 1) = .ok b := rfl
theorem isfrac_run {a b : Int} (h : Fr a b) : F_is_fraction [fr a b] = .ok (.bl true) := by
  have h1 : (1 : Int) ≤ b := h.1
  have e1 : isiW (isOnly "tuple") (fr a b) = .ok (.bl true) := rfl
  simp [F_is_fraction, defF, startE, endOf, fComp, compL, wipeE, noX, isint_run, allW_2, ix0, ix1, com_run, h.2, h1, e1, tupW]
structure Ok4 (k : Nat) (a b c d : Int) : Prop where
  p : Fr a b
  q : Fr c d
  sa : S k a
  sb : S k b
  sc : S k c
  sd : S k d
theorem bd_pos {a b c d : Int} (h1 : Fr a b) (h2 : Fr c d) : 0 < b * d := Int.mul_pos h1.1 h2.1
section
variable {a b c d : Int}
theorem add_run (h : Ok4 3500 a b c d) : F_add [fr a b, fr c d] = .ok (fr (num (a * d + c * b) (b * d)) (den (a * d + c * b) (b * d))) := by
  simp [F_add, defF, startE, endOf, ix0, ix1, h.sa.ok h.sd, h.sc.ok h.sb, h.sb.ok h.sd, made_pos (bd_pos h.p h.q) ((h.sb.mul h.sd).mono (by decide))]
theorem under_run (h : Ok4 3500 a b c d) : F_is_under [fr a b, fr c d] = .ok (.bl (decide (a * d < c * b))) := by
  simp [F_is_under, defF, startE, endOf, ix0, ix1, h.sa.ok h.sd, h.sc.ok h.sb]
theorem lplus_run (h : Ok4 3500 a b c d) : F__law_plus [fr a b, fr c d] = .ok (fr (num (a * d + c * b) (b * d)) (den (a * d + c * b) (b * d))) := by
  simp [F__law_plus, defF, startE, endOf, ix0, ix1, h.sa.ok h.sd, h.sc.ok h.sb, h.sb.ok h.sd, lrat_run (bd_pos h.p h.q) ((h.sb.mul h.sd).mono (by decide))]
theorem lunder_run (h : Ok4 3500 a b c d) : F__law_under [fr a b, fr c d] = .ok (.bl (decide (a * d < c * b))) := by
  simp [F__law_under, defF, startE, endOf, ix0, ix1, h.sa.ok h.sd, h.sc.ok h.sb]
end
abbrev q8 (v : Int) : PF.W := fr (num v 840) (den v 840)
theorem q8_fr (v : Int) : Fr (num v 840) (den v 840) := fr_nrm (by decide)
theorem s840 : S 10 840 := by unfold S; decide
theorem q8_of {t m : Int} (hm : 0 < m) (hd : m * (840 / m) = 840) : fr (num t m) (den t m) = q8 (t * (840 / m)) := by
  have f := q8_fr (t * (840 / m))
  have x := cross (t := t * (840 / m)) (b := 840)
  obtain ⟨e1, e2⟩ := nrm_is (t := t) (b := m) hm f (by
    have hk : 0 < 840 / m := by
      rcases Int.lt_trichotomy (840 / m) 0 with h1 | h1 | h1
      · have : m * (840 / m) < 0 := Int.mul_neg_of_pos_of_neg hm h1
        omega
      · rw [h1] at hd
        omega
      · exact h1
    have e : (840 / m) * (t * den (t * (840 / m)) 840) = (840 / m) * (num (t * (840 / m)) 840 * m) := by
      have : num (t * (840 / m)) 840 * (m * (840 / m)) = t * (840 / m) * den (t * (840 / m)) 840 := by rw [hd]; exact x
      grind
    exact Int.eq_of_mul_eq_mul_left (by omega) e)
  rw [e1, e2]
theorem q8_add (a b : Int) : fr (num (num a 840 * den b 840 + num b 840 * den a 840) (den a 840 * den b 840)) (den (num a 840 * den b 840 + num b 840 * den a 840) (den a 840 * den b 840)) = q8 (a + b) := by
  have fa := q8_fr a
  have fb := q8_fr b
  have fs := q8_fr (a + b)
  have xa := cross (t := a) (b := 840)
  have xb := cross (t := b) (b := 840)
  have xs := cross (t := a + b) (b := 840)
  obtain ⟨e1, e2⟩ := nrm_is (t := num a 840 * den b 840 + num b 840 * den a 840) (b := den a 840 * den b 840) (bd_pos fa fb) fs (by
    refine Int.eq_of_mul_eq_mul_left (a := 840) (by decide) ?_
    grind)
  rw [e1, e2]
theorem q8_ok {a b : Int} (ha : S 100 a) (hb : S 100 b) : Ok4 3500 (num a 840) (den a 840) (num b 840) (den b 840) := ⟨q8_fr a, q8_fr b, ha.num.mono (by decide), s840.den.mono (by decide), hb.num.mono (by decide), s840.den.mono (by decide)⟩
theorem q8_0 : q8 0 = fr 0 1 := by
  have : num 0 840 = 0 ∧ den 0 840 = 1 := by decide
  show fr _ _ = _
  rw [this.1, this.2]
theorem addq {a b : Int} (ha : S 100 a) (hb : S 100 b) : F_add [q8 a, q8 b] = .ok (q8 (a + b)) := by
  rw [add_run (q8_ok ha hb), q8_add]
theorem laddq {a b : Int} (ha : S 100 a) (hb : S 100 b) : F__law_plus [q8 a, q8 b] = .ok (q8 (a + b)) := by
  rw [lplus_run (q8_ok ha hb), q8_add]
theorem div840 {m : Int} (h : m = 1 ∨ m = 2 ∨ m = 3 ∨ m = 4 ∨ m = 5 ∨ m = 6 ∨ m = 7 ∨ m = 8 ∨ m = 12 ∨ m = 20 ∨ m = 30 ∨ m = 42 ∨ m = 56) : 0 < m ∧ m * (840 / m) = 840 ∧ S 100 m ∧ 0 ≤ 840 / m ∧ 840 / m ≤ 840 := by
  rcases h with rfl | rfl | rfl | rfl | rfl | rfl | rfl | rfl | rfl | rfl | rfl | rfl | rfl <;> refine ⟨by decide, by decide, ?_, by decide, by decide⟩ <;> (unfold S; decide)
def cst (n i : Nat) : Int := if i + 1 < n then 840 / (((i : Int) + 1) * ((i : Int) + 2)) else 840 / (n : Int)
def prS (n : Nat) (f : Nat → Int) : Nat → Int
  | 0 => 0
  | k + 1 => prS n f k + f k * cst n k
abbrev pr (n : Nat) (f : Nat → Int) : Int := prS n f n
theorem cst_lt {n i : Nat} (h : i + 1 < n) : cst n i = 840 / (((i : Int) + 1) * ((i : Int) + 2)) := if_pos h
theorem cst_last {n : Nat} (h : 1 ≤ n) : cst n (n - 1) = 840 / (n : Int) := if_neg (by omega)
theorem cst_b {n i : Nat} (h1 : 1 ≤ n) (h8 : n ≤ 8) (h : i < n) : 0 ≤ cst n i ∧ cst n i ≤ 840 := by
  have hi : i = 0 ∨ i = 1 ∨ i = 2 ∨ i = 3 ∨ i = 4 ∨ i = 5 ∨ i = 6 ∨ i = 7 := by omega
  have hn : n = 1 ∨ n = 2 ∨ n = 3 ∨ n = 4 ∨ n = 5 ∨ n = 6 ∨ n = 7 ∨ n = 8 := by omega
  rcases hi with rfl | rfl | rfl | rfl | rfl | rfl | rfl | rfl <;> rcases hn with rfl | rfl | rfl | rfl | rfl | rfl | rfl | rfl <;> first | omega | (unfold cst; decide)
theorem prS_b {n : Nat} {f : Nat → Int} (h : Stair n f) : ∀ k, k ≤ n → 0 ≤ prS n f k ∧ prS n f k ≤ 840000 * k
  | 0, _ => ⟨Int.le_refl _, Int.le_refl _⟩
  | k + 1, hk => by
    have ih := prS_b h k (by omega)
    have c := cst_b h.one h.eight (show k < n by omega)
    have a := h.low k (by omega)
    have b := h.top k (by omega)
    have m1 : 0 ≤ f k * cst n k := Int.mul_nonneg a c.1
    have m2 : f k * cst n k ≤ 1000 * 840 := Int.mul_le_mul b c.2 c.1 (by decide)
    show 0 ≤ prS n f k + f k * cst n k ∧ prS n f k + f k * cst n k ≤ _
    omega
theorem pr_s {n : Nat} {f : Nat → Int} (h : Stair n f) {k : Nat} (hk : k ≤ n) : S 100 (prS n f k) := by
  have b := prS_b h k hk
  have := h.eight
  unfold S
  omega
theorem part_s {n : Nat} {f : Nat → Int} (h : Stair n f) {k : Nat} (hk : k < n) : S 100 (f k * cst n k) := by
  have c := cst_b h.one h.eight hk
  have a := h.low k hk
  have b := h.top k hk
  have m1 : 0 ≤ f k * cst n k := Int.mul_nonneg a c.1
  have m2 : f k * cst n k ≤ 1000 * 840 := Int.mul_le_mul b c.2 c.1 (by decide)
  unfold S
  omega
theorem prod_ok {i n : Nat} (h8 : n ≤ 8) (hi : i + 1 < n) : 0 < ((i : Int) + 1) * ((i : Int) + 2) ∧ (((i : Int) + 1) * ((i : Int) + 2)) * (840 / (((i : Int) + 1) * ((i : Int) + 2))) = 840 ∧ S 100 (((i : Int) + 1) * ((i : Int) + 2)) := by
  have hi : i = 0 ∨ i = 1 ∨ i = 2 ∨ i = 3 ∨ i = 4 ∨ i = 5 ∨ i = 6 := by omega
  rcases hi with rfl | rfl | rfl | rfl | rfl | rfl | rfl <;> refine ⟨by decide, by decide, ?_⟩ <;> (unfold S; decide)
theorem len_ok {n : Nat} (h1 : 1 ≤ n) (h8 : n ≤ 8) : 0 < (n : Int) ∧ (n : Int) * (840 / (n : Int)) = 840 ∧ S 100 (n : Int) := by
  have hn : n = 1 ∨ n = 2 ∨ n = 3 ∨ n = 4 ∨ n = 5 ∨ n = 6 ∨ n = 7 ∨ n = 8 := by omega
  rcases hn with rfl | rfl | rfl | rfl | rfl | rfl | rfl | rfl <;> refine ⟨by decide, by decide, ?_⟩ <;> (unfold S; decide)
/-- the costs of places, written as parts of 840 -/
abbrev Q (n : Nat) (f : Nat → Int) (k : Nat) : List PF.W := (List.range k).map fun i => q8 (f i * cst n i)
theorem J_init {n : Nat} (f : Nat → Int) (h : 1 ≤ n) : cutW (J n f) none (some (-1)) = J (n - 1) f := by
  refine List.ext_getElem? fun i => ?_
  have e : HT.sIx n n (some (-1)) = n - 1 := by
    simp only [HT.sIx]
    split <;> omega
  have e0 : HT.sIx n 0 none = 0 := rfl
  simp only [cutW, J_len, e, e0, List.drop_zero, Nat.sub_zero]
  by_cases hi : i < n - 1
  · rw [List.getElem?_take_of_lt hi, J_get hi, J_get (by omega)]
  · rw [List.getElem?_eq_none (by simp; omega), List.getElem?_eq_none (by simp; omega)]
theorem ix_last {n : Nat} (f : Nat → Int) (h : 1 ≤ n) : ixW (.tup (J n f)) (.int (-1)) = .ok (.int (f (n - 1))) := by
  have e : atI (J n f) (-1) = some (.int (f (n - 1))) := by
    unfold atI ixN
    have g1 : (1 : Int) ≤ n := by omega
    have g3 : (-1 + (n : Int)).toNat = n - 1 := by omega
    have g4 : n - 1 < n := by omega
    simp [J, g1, g3, g4]
  simp [ixW, e]
section
variable {n : Nat} {f : Nat → Int}
theorem parts_run (h : Stair n f) (F : List PF.W → T PF.W) (hF : ∀ t m : Int, 0 < m → S 8000 m → F [.int t, .int m] = .ok (fr (num t m) (den t m))) (ρ : En) (hρ : ρ = [.val (.tup (J n f)), .un, .un, .un]) :
    fComp [2, 3] (iL enT (fCons (fSl (gV 0) pNo (pSome (f1 negW (fun _ => .ok (.int 1))))) fNil)) (goTup 2 (goCons (goName 2) (goCons (goName 3) goNil))) fYes (fL (fCons (gV 3) (fCons (f2 mulW (f2 addW (gV 2) (fun _ => .ok (.int 1))) (f2 addW (gV 2) (fun _ => .ok (.int 2)))) fNil)) F) ρ = .ok (.lst (Q n f (n - 1))) := by
  subst hρ
  have h1 := h.one
  have h8 := h.eight
  have hz : sizeOk (.map (fun (i : Nat) => PF.W.tup [.int (i : Int), .int (f i)]) (List.range (n - 1))) = true := size_small (by simp; omega)
  have c : compL (goTup 2 (goCons (goName 2) (goCons (goName 3) goNil))) fYes (fL (fCons (gV 3) (fCons (f2 mulW (f2 addW (gV 2) (fun _ => .ok (.int 1))) (f2 addW (gV 2) (fun _ => .ok (.int 2)))) fNil)) F) [.val (.tup (J n f)), .un, .un, .un] (.map (fun (i : Nat) => PF.W.tup [.int (i : Int), .int (f i)]) (List.range (n - 1))) = .ok (Q n f (n - 1)) := by
    refine compL_map _ _ _ fun i hi => ⟨_, rfl, rfl, ?_⟩
    have hi := List.mem_range.mp hi
    obtain ⟨p1, p2, p3⟩ := prod_ok (i := i) h8 (by omega)
    have m : mulOk ((i : Int) + 1) ((i : Int) + 2) = true := mul_small (by omega) (by omega)
    have e : fr (num (f i) (((i : Int) + 1) * ((i : Int) + 2))) (den (f i) (((i : Int) + 1) * ((i : Int) + 2))) = q8 (f i * cst n i) := by
      rw [q8_of p1 p2, cst_lt (by omega)]
    rw [← e]
    simp [m, hF _ _ p1 (p3.mono (by decide))]
  simp [fComp_eq, enT, isT, enW, fSl_eq, pNo_eq, pSome_eq, negW, pInt, slW, J_init f h1, J_enum0, hz, wipeE, c]
theorem sum_go (h : Stair n f) (F : List PF.W → T PF.W) (hF : ∀ a b : Int, S 100 a → S 100 b → F [q8 a, q8 b] = .ok (q8 (a + b))) (v0 : Sl) : ∀ (m k : Nat) (y : Sl), k + m ≤ n → ∃ z, forL (goName 2) (sSet 1 (fL (fCons (gV 1) (fCons (gV 2) fNil)) F)) ((Q n f (k + m)).drop k) [v0, .val (q8 (prS n f k)), y] = .ok (.nx, [v0, .val (q8 (prS n f (k + m))), z])
  | 0, k, y, hk => ⟨y, by rw [List.drop_eq_nil_of_le (by simp)]; rfl⟩
  | m + 1, k, y, hk => by
    obtain ⟨z, ih⟩ := sum_go h F hF v0 m (k + 1) (.val (q8 (f k * cst n k))) (by omega)
    refine ⟨z, ?_⟩
    have e : k + 1 + m = k + (m + 1) := by omega
    rw [e] at ih
    have hd : (Q n f (k + (m + 1))).drop k = q8 (f k * cst n k) :: (Q n f (k + (m + 1))).drop (k + 1) := by
      rw [List.drop_eq_getElem_cons (by simp)]
      simp
    rw [hd]
    unfold forL
    have a := hF _ _ (pr_s h (k := k) (by omega)) (part_s h (k := k) (by omega))
    simp only [goName_eq, List.set_cons_succ, List.set_cons_zero, sSet_eq, fL_eq, fCons_eq, fNil_eq, gV_eq, List.getElem?_cons_succ, List.getElem?_cons_zero, T.bind_ok, a]
    exact ih
theorem Q_snoc (k : Nat) : Q n f k ++ [q8 (f k * cst n k)] = Q n f (k + 1) := by
  simp [Q, List.range_succ]
theorem price_run (h : Stair n f) : F_price_in [.tup (J n f)] = .ok (q8 (pr n f)) := by
  have h1 := h.one
  have h8 := h.eight
  have p := parts_run h F_made (fun t m a b => made_pos a b) _ rfl
  obtain ⟨l1, l2, l3⟩ := len_ok h1 h8
  have lm : F_made [.int (f (n - 1)), .int n] = .ok (q8 (f (n - 1) * cst n (n - 1))) := by
    rw [made_pos l1 (l3.mono (by decide)), q8_of l1 l2, cst_last h1]
  obtain ⟨z, sg⟩ := sum_go h F_add (fun a b x y => addq x y) (.val (.lst (Q n f n))) n 0 .un (by omega)
  have e1 : Q n f (n - 1) ++ [q8 (f (n - 1) * cst n (n - 1))] = Q n f n := by
    rw [Q_snoc]
    congr 1
    congr 1
    omega
  have hz : sizeOk (Q n f n) = true := size_small (by simp; omega)
  have sr : F_sum_in [.lst (Q n f n)] = .ok (q8 (pr n f)) := by
    rw [List.drop_zero, Nat.zero_add] at sg
    have z0 : k_NOUGHT = q8 (prS n f 0) := by
      show _ = q8 0
      rw [q8_0]
      rfl
    unfold F_sum_in
    rw [defF_eq _ _ _ _ rfl]
    simp only [startE, List.map_cons, List.map_nil, List.length_cons, List.length_nil, Nat.reduceAdd, Nat.reduceSub, List.replicate, List.cons_append, List.nil_append, sSeq_eq, sSet_eq, T.bind_ok, List.set_cons_succ, List.set_cons_zero, sFor_eq, iOf_eq, gV_eq, List.getElem?_cons_succ, List.getElem?_cons_zero, lstW, z0]
    rw [show (forL (goName 2) (sSet 1 (fL (fCons (gV 1) (fCons (gV 2) fNil)) F_add)) (Q n f n) [.val (.lst (Q n f n)), .val (q8 (prS n f 0)), .un]) = _ from sg]
    simp only [T.bind_ok, sRet_eq, gV_eq, List.getElem?_cons_succ, List.getElem?_cons_zero, endOf]
  unfold F_price_in
  rw [defF_eq _ _ _ _ rfl]
  simp only [startE, List.map_cons, List.map_nil, List.length_cons, List.length_nil, Nat.reduceAdd, Nat.reduceSub, List.replicate, List.cons_append, List.nil_append, sSeq_eq, sSet_eq, p, T.bind_ok, List.set_cons_succ, List.set_cons_zero, sRet_eq, fL_eq, fCons_eq, fNil_eq, fStar_eq, gV_eq, List.getElem?_cons_succ, List.getElem?_cons_zero, seqW, f2_eq, f1_eq, negW, ix_last f h1, lenW_tup, J_len, lm, e1, mkLst_eq, hz, if_true, sr, endOf]
end
abbrev ra (t m : Int) : PF.W := fr (num t m) (den t m)
theorem ra_is {t m t' m' : Int} (hm : 0 < m) (hm' : 0 < m') (e : t * m' = t' * m) : ra t m = ra t' m' := by
  have x := cross (t := t') (b := m')
  obtain ⟨e1, e2⟩ := nrm_is (t := t) (b := m) hm (fr_nrm (t := t') hm') (by
    refine Int.eq_of_mul_eq_mul_left (a := m') (by omega) ?_
    grind)
  show fr _ _ = fr _ _
  rw [e1, e2]
theorem ra_ok {a m b n : Int} (hm : 0 < m) (hn : 0 < n) (sa : S 100 a) (sm : S 100 m) (sb : S 100 b) (sn : S 100 n) : Ok4 3500 (num a m) (den a m) (num b n) (den b n) := ⟨fr_nrm hm, fr_nrm hn, sa.num.mono (by decide), sm.den.mono (by decide), sb.num.mono (by decide), sn.den.mono (by decide)⟩
theorem ra_0 {m : Int} (hm : 0 < m) : ra 0 m = fr 0 1 := by
  rw [ra_is (t' := 0) (m' := 1) hm (by decide) (by simp)]
  rfl
section
variable {a m b n : Int}
theorem add_ra (hm : 0 < m) (sm : S 100 m) (sa : S 100 a) (sb : S 100 b) : F_add [ra a m, ra b m] = .ok (ra (a + b) m) := by
  have o := ra_ok hm hm sa sm sb sm
  have x := cross (t := a) (b := m)
  have y := cross (t := b) (b := m)
  rw [add_run o]
  exact congrArg T.ok (ra_is (bd_pos o.p o.q) hm (by grind))
theorem ladd_ra (hm : 0 < m) (sm : S 100 m) (sa : S 100 a) (sb : S 100 b) : F__law_plus [ra a m, ra b m] = .ok (ra (a + b) m) := by
  have o := ra_ok hm hm sa sm sb sm
  have x := cross (t := a) (b := m)
  have y := cross (t := b) (b := m)
  rw [lplus_run o]
  exact congrArg T.ok (ra_is (bd_pos o.p o.q) hm (by grind))
theorem num_pos (hn : 0 < n) (hb : 0 < b) : 0 < num b n := by
  have y := cross (t := b) (b := n)
  have d := den_pos (t := b) hn
  have p : 0 < b * den b n := Int.mul_pos hb d
  rw [← y] at p
  exact Int.pos_of_mul_pos_left p (by omega)
theorem div_ra (hm : 0 < m) (hn : 0 < n) (hb : 0 < b) (sa : S 100 a) (sm : S 100 m) (sb : S 100 b) (sn : S 100 n) : F_div [ra a m, ra b n] = .ok (ra (a * n) (m * b)) := by
  have o := ra_ok hm hn sa sm sb sn
  have x := cross (t := a) (b := m)
  have y := cross (t := b) (b := n)
  have p : 0 < den a m * num b n := Int.mul_pos o.p.1 (num_pos hn hb)
  have e : F_div [ra a m, ra b n] = F_made [.int (num a m * den b n), .int (den a m * num b n)] := by
    simp [F_div, defF, startE, endOf, ix0, ix1, o.sa.ok o.sd, o.sb.ok o.sc, made_pos p ((o.sb.mul o.sc).mono (by decide))]
  rw [e, made_pos p ((o.sb.mul o.sc).mono (by decide))]
  exact congrArg T.ok (ra_is p (Int.mul_pos hm hb) (by grind))
theorem ldiv_ra (hm : 0 < m) (hn : 0 < n) (hb : 0 < b) (sa : S 100 a) (sm : S 100 m) (sb : S 100 b) (sn : S 100 n) : F__law_over [ra a m, ra b n] = .ok (ra (a * n) (m * b)) := by
  have o := ra_ok hm hn sa sm sb sn
  have x := cross (t := a) (b := m)
  have y := cross (t := b) (b := n)
  have p : 0 < den a m * num b n := Int.mul_pos o.p.1 (num_pos hn hb)
  have e : F__law_over [ra a m, ra b n] = F__law_ratio [.int (num a m * den b n), .int (den a m * num b n)] := by
    simp [F__law_over, defF, startE, endOf, ix0, ix1, o.sa.ok o.sd, o.sb.ok o.sc, lrat_run p ((o.sb.mul o.sc).mono (by decide))]
  rw [e, lrat_run p ((o.sb.mul o.sc).mono (by decide))]
  exact congrArg T.ok (ra_is p (Int.mul_pos hm hb) (by grind))
theorem lt_scale {x y x' y' k l : Int} (hk : 0 < k) (hl : 0 < l) (e : x * k = y * l) (e' : x' * k = y' * l) : x < x' ↔ y < y' := by
  constructor
  · intro h
    have := Int.mul_lt_mul_of_pos_right h hk
    rw [e, e'] at this
    exact Int.lt_of_mul_lt_mul_right this (by omega)
  · intro h
    have := Int.mul_lt_mul_of_pos_right h hl
    rw [← e, ← e'] at this
    exact Int.lt_of_mul_lt_mul_right this (by omega)
theorem lt_ra (hm : 0 < m) (hn : 0 < n) : num a m * den b n < num b n * den a m ↔ a * n < b * m := by
  have x := cross (t := a) (b := m)
  have y := cross (t := b) (b := n)
  exact lt_scale (k := m * n) (l := den a m * den b n) (Int.mul_pos hm hn) (Int.mul_pos (den_pos hm) (den_pos hn)) (by grind) (by grind)
theorem under_ra (hm : 0 < m) (hn : 0 < n) (sa : S 100 a) (sm : S 100 m) (sb : S 100 b) (sn : S 100 n) : F_is_under [ra a m, ra b n] = .ok (.bl (decide (a * n < b * m))) := by
  rw [under_run (ra_ok hm hn sa sm sb sn), decide_eq_decide.mpr (lt_ra hm hn)]
theorem lunder_ra (hm : 0 < m) (hn : 0 < n) (sa : S 100 a) (sm : S 100 m) (sb : S 100 b) (sn : S 100 n) : F__law_under [ra a m, ra b n] = .ok (.bl (decide (a * n < b * m))) := by
  rw [lunder_run (ra_ok hm hn sa sm sb sn), decide_eq_decide.mpr (lt_ra hm hn)]
end
abbrev Bk := List (Int × Int)
def sP : Bk → Int
  | [] => 0
  | x :: xs => x.1 + sP xs
def sC : Bk → Int
  | [] => 0
  | x :: xs => x.2 + sC xs
theorem sP_app : ∀ x y : Bk, sP (x ++ y) = sP x + sP y
  | [], y => by simp [sP]
  | a :: x, y => by simp [sP, sP_app x y, Int.add_assoc]
theorem sC_app : ∀ x y : Bk, sC (x ++ y) = sC x + sC y
  | [], y => by simp [sC]
  | a :: x, y => by simp [sC, sC_app x y, Int.add_assoc]
abbrev Pos (b : Bk) : Prop := ∀ x ∈ b, 0 < x.2
theorem sC_nn : ∀ {b : Bk}, Pos b → 0 ≤ sC b
  | [], _ => Int.le_refl _
  | x :: xs, h => by
    have h1 := h x (List.mem_cons_self ..)
    have h2 := sC_nn (b := xs) fun y hy => h y (List.mem_cons_of_mem _ hy)
    show 0 ≤ x.2 + sC xs
    omega
theorem sC_pos : ∀ {b : Bk}, Pos b → b ≠ [] → 0 < sC b
  | [], _, n => absurd rfl n
  | x :: xs, h, _ => by
    have h1 := h x (List.mem_cons_self ..)
    have h2 := sC_nn (b := xs) fun y hy => h y (List.mem_cons_of_mem _ hy)
    show 0 < x.2 + sC xs
    omega
theorem Pos.left {x y : Bk} (h : Pos (x ++ y)) : Pos x := fun z hz => h z (List.mem_append_left _ hz)
theorem Pos.right {x y : Bk} (h : Pos (x ++ y)) : Pos y := fun z hz => h z (List.mem_append_right _ hz)
/-- no beginning of it is flatter -/
structure Good (b : Bk) : Prop where
  ne : b ≠ []
  pos : Pos b
  pre : ∀ x y, b = x ++ y → sP b * sC x ≤ sP x * sC b
abbrev Lt (a b : Bk) : Prop := sP a * sC b < sP b * sC a
theorem Good.c {b : Bk} (h : Good b) : 0 < sC b := sC_pos h.pos h.ne
theorem good_one {p c : Int} (hc : 0 < c) : Good [(p, c)] where
  ne := by simp
  pos := fun x hx => by
    rw [List.mem_singleton.mp hx]
    exact hc
  pre := fun x y e => by
    match x, e with
    | [], _ => simp [sP, sC]
    | [z], e =>
      have : z = (p, c) := by
        simp at e
        exact e.1.symm
      rw [this]
      exact Int.le_refl _
    | z :: z' :: x, e => simp at e
theorem nn_of {k x : Int} (hk : 0 < k) (h : 0 ≤ k * x) : 0 ≤ x := by
  rcases Int.lt_or_le x 0 with g | g
  · have := Int.mul_neg_of_pos_of_neg hk g
    omega
  · exact g
theorem mrg_ar {Pa Ca Pb Cb Px Cx : Int} (hb : 0 < Cb) (ha : 0 < Ca) (h2 : Cx ≤ Cb) (u : Pb * Ca ≤ Pa * Cb) (v : Pb * Cx ≤ Px * Cb) : (Pa + Pb) * (Ca + Cx) ≤ (Pa + Px) * (Ca + Cb) := by
  have n1 : 0 ≤ (Cb - Cx) * (Pa * Cb - Pb * Ca) := Int.mul_nonneg (by omega) (by omega)
  have n2 : 0 ≤ (Cb + Ca) * (Px * Cb - Pb * Cx) := Int.mul_nonneg (by omega) (by omega)
  have e : Cb * ((Pa + Px) * (Ca + Cb) - (Pa + Pb) * (Ca + Cx)) = (Cb - Cx) * (Pa * Cb - Pb * Ca) + (Cb + Ca) * (Px * Cb - Pb * Cx) := by grind
  have := nn_of hb (by rw [e]; omega)
  omega
theorem mrg_br {Pa Ca Pb Cb Px Cx : Int} (hb : 0 < Cb) (ha : 0 < Ca) (h1 : 0 ≤ Cx) (u : Pb * Ca ≤ Pa * Cb) (v : Pa * Cx ≤ Px * Ca) : (Pa + Pb) * Cx ≤ Px * (Ca + Cb) := by
  have n1 : 0 ≤ (Ca + Cb) * (Px * Ca - Pa * Cx) := Int.mul_nonneg (by omega) (by omega)
  have n2 : 0 ≤ Cx * (Pa * Cb - Pb * Ca) := Int.mul_nonneg (by omega) (by omega)
  have e : Ca * (Px * (Ca + Cb) - (Pa + Pb) * Cx) = (Ca + Cb) * (Px * Ca - Pa * Cx) + Cx * (Pa * Cb - Pb * Ca) := by grind
  have := nn_of ha (by rw [e]; omega)
  omega
theorem good_merge {a b : Bk} (ha : Good a) (hb : Good b) (h : ¬ Lt a b) : Good (a ++ b) where
  ne := by simp [ha.ne]
  pos := fun x hx => by
    rcases List.mem_append.mp hx with hx | hx
    · exact ha.pos x hx
    · exact hb.pos x hx
  pre := fun x y e => by
    have h' : sP b * sC a ≤ sP a * sC b := Int.not_lt.mp h
    rw [sP_app, sC_app]
    rcases List.append_eq_append_iff.mp e with ⟨z, e1, e2⟩ | ⟨z, e1, e2⟩
    · have p := hb.pos
      rw [e2] at p
      have q := sC_nn p.right
      have r : sC b = sC z + sC y := by rw [e2, sC_app]
      rw [e1, sP_app, sC_app]
      exact mrg_ar hb.c ha.c (by omega) h' (hb.pre z y e2)
    · have p := ha.pos
      rw [e1] at p
      exact mrg_br hb.c ha.c (sC_nn p.left) h' (ha.pre x z e1)
theorem lt_ar {Pa Ca Pb Cb Px Cx : Int} (hb : 0 < Cb) (ha : 0 < Ca) (h1 : 0 < Cx) (u : Pa * Cb < Pb * Ca) (v : Pb * Cx ≤ Px * Cb) : Pa * Cx < Px * Ca := by
  have n1 : 0 < Cx * (Pb * Ca - Pa * Cb) := Int.mul_pos h1 (by omega)
  have n2 : 0 ≤ Ca * (Px * Cb - Pb * Cx) := Int.mul_nonneg (by omega) (by omega)
  have e : Cb * (Px * Ca - Pa * Cx) = Cx * (Pb * Ca - Pa * Cb) + Ca * (Px * Cb - Pb * Cx) := by grind
  rcases Int.lt_or_le 0 (Px * Ca - Pa * Cx) with g | g
  · omega
  · have := Int.mul_nonpos_of_nonneg_of_nonpos (Int.le_of_lt hb) g
    omega
theorem lt_trans' {a b c : Bk} (hb : 0 < sC b) (ha : 0 < sC a) (hc : 0 < sC c) (h1 : Lt a b) (h2 : Lt b c) : Lt a c := lt_ar hb ha hc h1 (by show _ ≤ _; exact Int.le_of_lt h2)
/-- blocks one steeper than the other -/
structure Row (bs : List Bk) : Prop where
  good : ∀ b ∈ bs, Good b
  asc : bs.Pairwise Lt
theorem Row.snoc {bs : List Bk} {a t : Bk} (h : Row (bs ++ [a])) (ht : Good t) (hl : Lt a t) : Row ((bs ++ [a]) ++ [t]) where
  good := fun b hb => by
    rcases List.mem_append.mp hb with hb | hb
    · exact h.good b hb
    · rw [List.mem_singleton.mp hb]
      exact ht
  asc := by
    refine List.pairwise_append.mpr ⟨h.asc, List.pairwise_singleton _ _, fun b hb c hc => ?_⟩
    rw [List.mem_singleton.mp hc]
    have ga := h.good a (by simp)
    rcases List.mem_append.mp hb with hb' | hb'
    · exact lt_trans' ga.c (h.good b hb).c ht.c ((List.pairwise_append.mp h.asc).2.2 b hb' a (by simp)) hl
    · rw [List.mem_singleton.mp hb']
      exact hl
theorem Row.init {bs : List Bk} {a : Bk} (h : Row (bs ++ [a])) : Row bs := ⟨fun b hb => h.good b (List.mem_append_left _ hb), (List.pairwise_append.mp h.asc).1⟩
theorem Row.tail {bs : List Bk} {a : Bk} (h : Row (a :: bs)) : Row bs := ⟨fun b hb => h.good b (List.mem_cons_of_mem _ hb), (List.pairwise_cons.mp h.asc).2⟩
def flatB : List Bk → Bk
  | [] => []
  | b :: bs => b ++ flatB bs
theorem flatB_app : ∀ as bs : List Bk, flatB (as ++ bs) = flatB as ++ flatB bs
  | [], bs => rfl
  | a :: as, bs => by simp [flatB, flatB_app as bs]
/-- all that goes on behind is steeper -/
theorem beyond {a : Bk} (ha : 0 < sC a) : ∀ {bs : List Bk}, (∀ b ∈ bs, Good b ∧ Lt a b) → ∀ z y, flatB bs = z ++ y → z ≠ [] → Lt a z
  | [], _, z, y, e, n => by
    have : z = [] := by
      cases z with
      | nil => rfl
      | cons _ _ => simp [flatB] at e
    exact absurd this n
  | b :: bs, h, z, y, e, n => by
    obtain ⟨gb, lb⟩ := h b (List.mem_cons_self ..)
    rcases List.append_eq_append_iff.mp (show b ++ flatB bs = z ++ y from e) with ⟨c, e1, e2⟩ | ⟨c, e1, e2⟩
    · by_cases hc : c = []
      · rw [e1, hc, List.append_nil]
        exact lb
      · have ih := beyond ha (fun b hb => h b (List.mem_cons_of_mem _ hb)) c y e2 hc
        rw [e1]
        show sP a * sC (b ++ c) < sP (b ++ c) * sC a
        rw [sP_app, sC_app, Int.mul_add, Int.add_mul]
        have lb : sP a * sC b < sP b * sC a := lb
        have ih : sP a * sC c < sP c * sC a := ih
        omega
    · have p := gb.pos
      rw [e1] at p
      exact lt_ar gb.c ha (sC_pos p.left n) lb (gb.pre z c e1)
theorem beyond' {a : Bk} {bs : List Bk} (h : Row (a :: bs)) {z y : Bk} (e : flatB bs = z ++ y) (n : z ≠ []) : Lt a (a ++ z) := by
  have ga := h.good a (List.mem_cons_self ..)
  have l : sP a * sC z < sP z * sC a := beyond ga.c (fun b hb => ⟨h.good b (List.mem_cons_of_mem _ hb), (List.pairwise_cons.mp h.asc).1 b hb⟩) z y e n
  show sP a * sC (a ++ z) < sP (a ++ z) * sC a
  rw [sP_app, sC_app, Int.mul_add, Int.add_mul]
  omega
end Lw
namespace Lw
open PySem L2 PF Rt
structure Fit (b : Bk) : Prop where
  len : b.length ≤ 8
  each : ∀ x ∈ b, 0 ≤ x.1 ∧ x.1 ≤ 400 ∧ 0 < x.2 ∧ x.2 ≤ 840
theorem Fit.sub {b x : Bk} (h : Fit b) (hl : x.length ≤ b.length) (hm : ∀ y ∈ x, y ∈ b) : Fit x := ⟨by have := h.len; omega, fun y hy => h.each y (hm y hy)⟩
theorem Fit.left {x y : Bk} (h : Fit (x ++ y)) : Fit x := h.sub (by simp) fun _ z => List.mem_append_left _ z
theorem Fit.right {x y : Bk} (h : Fit (x ++ y)) : Fit y := h.sub (by simp) fun _ z => List.mem_append_right _ z
theorem sums_b : ∀ {b : Bk}, (∀ x ∈ b, 0 ≤ x.1 ∧ x.1 ≤ 400 ∧ 0 < x.2 ∧ x.2 ≤ 840) → 0 ≤ sP b ∧ sP b ≤ 400 * b.length ∧ 0 ≤ sC b ∧ sC b ≤ 840 * b.length
  | [], _ => by simp [sP, sC]
  | x :: xs, h => by
    have h1 := h x (List.mem_cons_self ..)
    have h2 := sums_b (b := xs) fun y hy => h y (List.mem_cons_of_mem _ hy)
    simp only [sP, sC, List.length_cons]
    omega
theorem Fit.sp {b : Bk} (h : Fit b) : S 14 (sP b) := by
  have := sums_b h.each
  have := h.len
  unfold S
  omega
theorem Fit.sc {b : Bk} (h : Fit b) : S 14 (sC b) := by
  have := sums_b h.each
  have := h.len
  unfold S
  omega
/-- the numbers by which chances are told -/
structure Base (s : Int) : Prop where
  pos : 0 < s
  top : S 14 s
theorem p840 : (0 : Int) < 840 := by decide
/-- the slope of a block -/
abbrev sl (s : Int) (b : Bk) : PF.W := ra (sP b * 840) (s * sC b)
section
variable {s : Int} {a b : Bk}
theorem sl_pos (hs : Base s) (hb : 0 < sC b) : 0 < s * sC b := Int.mul_pos hs.pos hb
theorem sl_lt (hs : Base s) : (sP a * 840) * (s * sC b) < (sP b * 840) * (s * sC a) ↔ Lt a b := by
  have p : 0 < 840 * s := Int.mul_pos p840 hs.pos
  exact lt_scale (k := 1) (l := 840 * s) (by decide) p (by grind) (by grind)
theorem sl_s1 (h : Fit b) : S 100 (sP b * 840) := (h.sp.mul s840).mono (by decide)
theorem sl_s2 (hs : Base s) (h : Fit b) : S 100 (s * sC b) := (hs.top.mul h.sc).mono (by decide)
theorem under_sl (hs : Base s) (ha : Fit a) (hb : Fit b) (pa : 0 < sC a) (pb : 0 < sC b) : F_is_under [sl s a, sl s b] = .ok (.bl (decide (Lt a b))) := by
  rw [under_ra (sl_pos hs pa) (sl_pos hs pb) (sl_s1 ha) (sl_s2 hs ha) (sl_s1 hb) (sl_s2 hs hb), decide_eq_decide.mpr (sl_lt hs)]
theorem lunder_sl (hs : Base s) (ha : Fit a) (hb : Fit b) (pa : 0 < sC a) (pb : 0 < sC b) : F__law_under [sl s a, sl s b] = .ok (.bl (decide (Lt a b))) := by
  rw [lunder_ra (sl_pos hs pa) (sl_pos hs pb) (sl_s1 ha) (sl_s2 hs ha) (sl_s1 hb) (sl_s2 hs hb), decide_eq_decide.mpr (sl_lt hs)]
abbrev pool (s : Int) (f : Nat) (b : Bk) : PF.W := .tup [.int (f : Int), .int ((f : Int) + (b.length : Int) - 1), ra (sP b) s, ra (sC b) 840]
theorem slope_run (hs : Base s) (hb : Fit b) (pb : 0 < sC b) (f : Nat) : F_slope_of [pool s f b] = .ok (sl s b) := by
  have d := div_ra (a := sP b) (m := s) (b := sC b) (n := 840) hs.pos p840 pb (hb.sp.mono (by decide)) (hs.top.mono (by decide)) (hb.sc.mono (by decide)) (s840.mono (by decide))
  have i2 : ∀ x y z w : PF.W, ixW (.tup [x, y, z, w]) (.int 2) = .ok z := fun _ _ _ _ => rfl
  have i3 : ∀ x y z w : PF.W, ixW (.tup [x, y, z, w]) (.int 3) = .ok w := fun _ _ _ _ => rfl
  unfold F_slope_of
  rw [defF_eq _ _ _ _ rfl]
  simp only [startE, List.map_cons, List.map_nil, List.length_cons, List.length_nil, Nat.reduceAdd, Nat.reduceSub, List.replicate, List.cons_append, List.nil_append, sRet_eq, fL_eq, fCons_eq, fNil_eq, f2_eq, gV_eq, List.getElem?_cons_zero, T.bind_ok, i2, i3, d, endOf]
end
def stk (s : Int) : Nat → List Bk → List PF.W
  | _, [] => []
  | f, b :: bs => pool s f b :: stk s (f + b.length) bs
theorem stk_app (s : Int) : ∀ (as bs : List Bk) (f : Nat), stk s f (as ++ bs) = stk s f as ++ stk s (f + (flatB as).length) bs
  | [], bs, f => by simp [stk, flatB]
  | a :: as, bs, f => by
    simp only [List.cons_append, stk, stk_app s as bs, flatB, List.length_append, Nat.add_assoc]
theorem stk_len (s : Int) : ∀ (as : List Bk) (f : Nat), (stk s f as).length = as.length
  | [], f => rfl
  | a :: as, f => by simp [stk, stk_len s as]
theorem ix_m2 (X : List PF.W) (A B : PF.W) : ixW (.lst (X ++ [A, B])) (.int (-2)) = .ok A := by
  have e : atI (X ++ [A, B]) (-2) = some A := by
    have g3 : (-2 + ((X.length : Int) + 2)).toNat = X.length := by omega
    have g1 : -((X.length : Int) + 2) ≤ -2 := by omega
    simp [atI, ixN, g1, g3]
  simp [ixW, e]
theorem ix_m1 (X : List PF.W) (A B : PF.W) : ixW (.lst (X ++ [A, B])) (.int (-1)) = .ok B := by
  have e : atI (X ++ [A, B]) (-1) = some B := by
    have g3 : (-1 + ((X.length : Int) + 2)).toNat = X.length + 1 := by omega
    have g1 : -((X.length : Int) + 2) ≤ -1 := by omega
    simp [atI, ixN, g1, g3]
  simp [ixW, e]
theorem Row.len : ∀ {bs : List Bk}, Row bs → bs.length ≤ (flatB bs).length
  | [], _ => Nat.le_refl _
  | b :: bs, h => by
    have ih := Row.len h.tail
    have n := (h.good b (List.mem_cons_self ..)).ne
    have : 0 < b.length := List.length_pos_iff.mpr n
    simp only [flatB, List.length_append, List.length_cons]
    omega
abbrev pE (c : PF.W) (ws : List PF.W) (k r : Sl) (x4 x5 : Sl) : En := [.val c, .own ws, k, r, x4, x5]
theorem neg_int (i : Int) : negW (.int i) = .ok (.int (-i)) := rfl
theorem test_run {c : PF.W} {k r x4 x5 : Sl} {X : List PF.W} {A B va vb : PF.W} {b : Bool} (hA : F_slope_of [A] = .ok va) (hB : F_slope_of [B] = .ok vb) (un : F_is_under [va, vb] = .ok (.bl b)) : (onFrz 1 (fAnd (fBl (f2 gtW (fL (fCons (gV 1) fNil) lenW) (fun _ => .ok (.int 1)))) (fNot (fTru (fL (fCons (fL (fCons (f2 ixW (gV 1) (f1 negW (fun _ => .ok (.int 2)))) fNil) F_slope_of) (fCons (fL (fCons (f2 ixW (gV 1) (f1 negW (fun _ => .ok (.int 1)))) fNil) F_slope_of) fNil)) F_is_under))))) (pE c (X ++ [A, B]) k r x4 x5) = .ok (!b) := by
  have gt : decide ((1 : Int) < ((X ++ [A, B]).length : Int)) = true := by
    rw [List.length_append]
    simp
    omega
  have f : frz 1 (pE c (X ++ [A, B]) k r x4 x5) = [.val c, .val (.lst (X ++ [A, B])), k, r, x4, x5] := rfl
  have l : lenW [.lst (X ++ [A, B])] = .ok (.int ((X ++ [A, B]).length : Int)) := rfl
  have m2 := ix_m2 X A B
  have m1 := ix_m1 X A B
  simp only [onFrz, f, fAnd_eq, fBl_eq, f2_eq, fL_eq, fCons_eq, fNil_eq, gV_eq, List.getElem?_cons_succ, List.getElem?_cons_zero, T.bind_ok, l, gtW_int, gt, if_true, fNot_eq, fTru_eq, f1_eq, neg_int, m2, m1, hA, hB, un, truW_bl]
  rfl
theorem body_run {c : PF.W} {k r x4 x5 : Sl} {X : List PF.W} {a0 a1 a2 a3 b0 b1 b2 b3 u v : PF.W} (h1 : F_add [a2, b2] = .ok u) (h2 : F_add [a3, b3] = .ok v) (rk : roomOk X = true) :
    (sSeq (sPop0 1 (goName 4)) (sSeq (sPop0 1 (goName 5)) (sApp 1 (fCons (fL (fCons (f2 ixW (gV 5) (fun _ => .ok (.int 0))) (fCons (f2 ixW (gV 4) (fun _ => .ok (.int 1))) (fCons (fL (fCons (f2 ixW (gV 5) (fun _ => .ok (.int 2))) (fCons (f2 ixW (gV 4) (fun _ => .ok (.int 2))) fNil)) F_add) (fCons (fL (fCons (f2 ixW (gV 5) (fun _ => .ok (.int 3))) (fCons (f2 ixW (gV 4) (fun _ => .ok (.int 3))) fNil)) F_add) fNil)))) mkTup) fNil)))) (pE c (X ++ [.tup [a0, a1, a2, a3], .tup [b0, b1, b2, b3]]) k r x4 x5) = .ok (.nx, pE c (X ++ [.tup [a0, b1, u, v]]) k r (.val (.tup [b0, b1, b2, b3])) (.val (.tup [a0, a1, a2, a3]))) := by
  have i0 : ixW (.tup [a0, a1, a2, a3]) (.int 0) = .ok a0 := rfl
  have i1 : ixW (.tup [b0, b1, b2, b3]) (.int 1) = .ok b1 := rfl
  have i2 : ixW (.tup [a0, a1, a2, a3]) (.int 2) = .ok a2 := rfl
  have j2 : ixW (.tup [b0, b1, b2, b3]) (.int 2) = .ok b2 := rfl
  have i3 : ixW (.tup [a0, a1, a2, a3]) (.int 3) = .ok a3 := rfl
  have j3 : ixW (.tup [b0, b1, b2, b3]) (.int 3) = .ok b3 := rfl
  have p1 : ∀ (Y : List PF.W) (B : PF.W), (Y ++ [B])[(Y ++ [B]).length - 1]? = some B := fun Y B => by simp
  have p2 : ∀ (Y : List PF.W) (B : PF.W), (Y ++ [B]).dropLast = Y := fun Y B => by simp
  have e : X ++ [PF.W.tup [a0, a1, a2, a3], .tup [b0, b1, b2, b3]] = (X ++ [.tup [a0, a1, a2, a3]]) ++ [.tup [b0, b1, b2, b3]] := by simp
  rw [e]
  simp only [sSeq_eq, sPop0, pE, List.getElem?_cons_succ, List.getElem?_cons_zero, p1, p2, goName_eq, List.set_cons_succ, List.set_cons_zero, T.bind_ok, sApp, fCons_eq, fNil_eq, fL_eq, f2_eq, gV_eq, i0, i1, i2, i3, j2, j3, h1, h2, mkTup_eq, sizeOk_4, if_true, rk]
theorem while_run {s : Int} (hs : Base s) (c : PF.W) (k r : Sl) : ∀ (n : Nat) (bs : List Bk) (t : Bk) (x4 x5 : Sl) (fuel : Nat), bs.length = n → n < fuel → Row bs → Good t → Fit (flatB bs ++ t) →
    ∃ bs' y4 y5, Row bs' ∧ flatB bs' = flatB bs ++ t ∧ whileL (onFrz 1 (fAnd (fBl (f2 gtW (fL (fCons (gV 1) fNil) lenW) (fun _ => .ok (.int 1)))) (fNot (fTru (fL (fCons (fL (fCons (f2 ixW (gV 1) (f1 negW (fun _ => .ok (.int 2)))) fNil) F_slope_of) (fCons (fL (fCons (f2 ixW (gV 1) (f1 negW (fun _ => .ok (.int 1)))) fNil) F_slope_of) fNil)) F_is_under))))) (sSeq (sPop0 1 (goName 4)) (sSeq (sPop0 1 (goName 5)) (sApp 1 (fCons (fL (fCons (f2 ixW (gV 5) (fun _ => .ok (.int 0))) (fCons (f2 ixW (gV 4) (fun _ => .ok (.int 1))) (fCons (fL (fCons (f2 ixW (gV 5) (fun _ => .ok (.int 2))) (fCons (f2 ixW (gV 4) (fun _ => .ok (.int 2))) fNil)) F_add) (fCons (fL (fCons (f2 ixW (gV 5) (fun _ => .ok (.int 3))) (fCons (f2 ixW (gV 4) (fun _ => .ok (.int 3))) fNil)) F_add) fNil)))) mkTup) fNil)))) fuel (pE c (stk s 1 (bs ++ [t])) k r x4 x5) = .ok (.nx, pE c (stk s 1 bs') k r y4 y5)
  | 0, bs, t, x4, x5, fuel, hl, hf, hr, ht, fit => by
    obtain ⟨m, rfl⟩ : ∃ m, fuel = m + 1 := ⟨fuel - 1, by omega⟩
    have e0 : bs = [] := List.eq_nil_of_length_eq_zero hl
    subst e0
    refine ⟨[t], x4, x5, ⟨fun b hb => by rw [List.mem_singleton.mp hb]; exact ht, List.pairwise_singleton _ _⟩, by simp [flatB], ?_⟩
    unfold whileL
    simp [pE, stk, onFrz, frz, lenW]
  | n + 1, bs, t, x4, x5, fuel, hl, hf, hr, ht, fit => by
    obtain ⟨m, rfl⟩ : ∃ m, fuel = m + 1 := ⟨fuel - 1, by omega⟩
    rcases List.eq_nil_or_concat bs with e0 | ⟨init, a, e0⟩
    · subst e0
      simp at hl
    rw [List.concat_eq_append] at e0
    subst e0
    have li : init.length = n := by simpa using hl
    have fb : flatB (init ++ [a]) = flatB init ++ a := by simp [flatB_app, flatB]
    rw [fb] at fit
    have ga := hr.good a (by simp)
    have fa := fit.left.right
    have ft := fit.right
    have ew : stk s 1 (init ++ [a] ++ [t]) = stk s 1 init ++ [pool s (1 + (flatB init).length) a, pool s (1 + (flatB init).length + a.length) t] := by
      rw [stk_app, stk_app, fb]
      simp [stk, Nat.add_assoc]
    have sa := slope_run hs fa ga.c (1 + (flatB init).length)
    have st := slope_run hs ft ht.c (1 + (flatB init).length + a.length)
    have un := under_sl hs fa ft ga.c ht.c
    have tr := fun x4 x5 => test_run (c := c) (k := k) (r := r) (x4 := x4) (x5 := x5) (X := stk s 1 init) sa st un
    by_cases hlt : Lt a t
    · refine ⟨init ++ [a] ++ [t], x4, x5, hr.snoc ht hlt, by simp [flatB_app, flatB], ?_⟩
      unfold whileL
      rw [ew, tr, decide_eq_true hlt]
      rfl
    · have ad1 := add_ra (a := sP a) (b := sP t) hs.pos (hs.top.mono (by decide)) (fa.sp.mono (by decide)) (ft.sp.mono (by decide))
      have ad2 := add_ra (a := sC a) (b := sC t) p840 (s840.mono (by decide)) (fa.sc.mono (by decide)) (ft.sc.mono (by decide))
      obtain ⟨bs', y4, y5, r1, r2, r3⟩ := while_run hs c k r n init (a ++ t) (.val (pool s (1 + (flatB init).length + a.length) t)) (.val (pool s (1 + (flatB init).length) a)) m li (by omega) hr.init (good_merge ga ht hlt) (by rw [← List.append_assoc]; exact fit)
      refine ⟨bs', y4, y5, r1, by rw [r2, fb, List.append_assoc], ?_⟩
      have ew2 : stk s 1 (init ++ [a ++ t]) = stk s 1 init ++ [pool s (1 + (flatB init).length) (a ++ t)] := by
        rw [stk_app]
        rfl
      have en : ((1 + (flatB init).length + a.length : Nat) : Int) + (t.length : Int) - 1 = ((1 + (flatB init).length : Nat) : Int) + ((a ++ t).length : Int) - 1 := by
        rw [List.length_append]
        omega
      have rk : roomOk (stk s 1 init) = true := room_is (by
        rw [stk_len]
        have h8 := fit.len
        have := hr.init.len
        rw [List.length_append, List.length_append] at h8
        omega)
      have br := body_run (c := c) (k := k) (r := r) (x4 := x4) (x5 := x5) (X := stk s 1 init) (a0 := .int ((1 + (flatB init).length : Nat) : Int)) (a1 := .int (((1 + (flatB init).length : Nat) : Int) + (a.length : Int) - 1)) (b0 := .int ((1 + (flatB init).length + a.length : Nat) : Int)) (b1 := .int (((1 + (flatB init).length + a.length : Nat) : Int) + (t.length : Int) - 1)) ad1 ad2 rk
      have pe : pool s (1 + (flatB init).length) (a ++ t) = .tup [.int ((1 + (flatB init).length : Nat) : Int), .int (((1 + (flatB init).length + a.length : Nat) : Int) + (t.length : Int) - 1), ra (sP a + sP t) s, ra (sC a + sC t) 840] := by
        rw [en, ← sP_app, ← sC_app]
      rw [ew2, pe] at r3
      unfold whileL
      rw [ew, tr, decide_eq_false hlt]
      simp only [Bool.not_false, T.bind_ok, if_true]
      rw [br, T.bind_ok]
      exact r3
end Lw
namespace Lw
open PySem L2 PF Rt
abbrev cs (m : Nat) : List Int := (List.range m).map (cst m)
abbrev rs (cl : List Int) : List PF.W := cl.map fun c => ra c 840
theorem eight {m : Nat} (h1 : 1 ≤ m) (h8 : m ≤ 8) : m = 1 ∨ m = 2 ∨ m = 3 ∨ m = 4 ∨ m = 5 ∨ m = 6 ∨ m = 7 ∨ m = 8 := by omega
theorem rates_run {m : Nat} (h1 : 1 ≤ m) (h8 : m ≤ 8) : F_rates_in [.int (m : Int)] = .ok (.lst (rs (cs m))) := by
  rcases eight h1 h8 with rfl | rfl | rfl | rfl | rfl | rfl | rfl | rfl <;> kernel_rfl
theorem rates_run' {m : Nat} (h1 : 1 ≤ m) (h8 : m ≤ 8) : F_rates [.int (m : Int)] = .ok (.tup (rs (cs m))) := by
  rcases eight h1 h8 with rfl | rfl | rfl | rfl | rfl | rfl | rfl | rfl <;> kernel_rfl
theorem lrates_run {m : Nat} (h1 : 1 ≤ m) (h8 : m ≤ 8) : F__law_rate_row [.int (m : Int)] = .ok (.lst (rs (cs m))) := by
  rcases eight h1 h8 with rfl | rfl | rfl | rfl | rfl | rfl | rfl | rfl <;> kernel_rfl
def sI : List Int → Int
  | [] => 0
  | x :: xs => x + sI xs
theorem sP_is : ∀ b : Bk, sP b = sI (b.map Prod.fst)
  | [] => rfl
  | x :: xs => by simp [sP, sI, sP_is xs]
theorem sC_is : ∀ b : Bk, sC b = sI (b.map Prod.snd)
  | [] => rfl
  | x :: xs => by simp [sC, sI, sC_is xs]
abbrev ras (m : Int) (ns : List Int) : List PF.W := ns.map fun p => ra p m
theorem sums_go {m : Int} (F : List PF.W → T PF.W) (hF : ∀ a b : Int, S 100 a → S 100 b → F [ra a m, ra b m] = .ok (ra (a + b) m)) (v0 : Sl) : ∀ (ns : List Int) (acc : Int) (y : Sl), (∀ p ∈ ns, 0 ≤ p ∧ p ≤ 1000) → 0 ≤ acc → acc + 1000 * ns.length ≤ 2 ^ 30 →
    ∃ z, forL (goName 2) (sSet 1 (fL (fCons (gV 1) (fCons (gV 2) fNil)) F)) (ras m ns) [v0, .val (ra acc m), y] = .ok (.nx, [v0, .val (ra (acc + sI ns) m), z])
  | [], acc, y, _, _, _ => ⟨y, by simp [forL, sI]⟩
  | p :: ns, acc, y, hp, h0, h1 => by
    have h2 := hp p (List.mem_cons_self ..)
    rw [List.length_cons] at h1
    obtain ⟨z, ih⟩ := sums_go F hF v0 ns (acc + p) (.val (ra p m)) (fun q hq => hp q (List.mem_cons_of_mem _ hq)) (by omega) (by omega)
    refine ⟨z, ?_⟩
    have a := hF acc p (by unfold S; omega) (by unfold S; omega)
    have e : acc + sI (p :: ns) = acc + p + sI ns := by simp [sI, Int.add_assoc]
    rw [e]
    show forL (goName 2) _ (ra p m :: ras m ns) _ = _
    unfold forL
    simp only [goName_eq, List.set_cons_succ, List.set_cons_zero, sSet_eq, fL_eq, fCons_eq, fNil_eq, gV_eq, List.getElem?_cons_succ, List.getElem?_cons_zero, T.bind_ok, a]
    exact ih
section
variable {m : Int} {ns : List Int}
theorem sumin_run (hm : 0 < m) (sm : S 100 m) (hp : ∀ p ∈ ns, 0 ≤ p ∧ p ≤ 1000) (hl : ns.length ≤ 9) : F_sum_in [.lst (ras m ns)] = .ok (ra (sI ns) m) := by
  obtain ⟨z, sg⟩ := sums_go F_add (fun a b x y => add_ra hm sm x y) (.val (.lst (ras m ns))) ns 0 .un hp (by decide) (by omega)
  have z0 : k_NOUGHT = ra 0 m := by
    rw [ra_0 hm]
    rfl
  unfold F_sum_in
  rw [defF_eq _ _ _ _ rfl]
  simp only [startE, List.map_cons, List.map_nil, List.length_cons, List.length_nil, Nat.reduceAdd, Nat.reduceSub, List.replicate, List.cons_append, List.nil_append, sSeq_eq, sSet_eq, T.bind_ok, List.set_cons_succ, List.set_cons_zero, sFor_eq, iOf_eq, gV_eq, List.getElem?_cons_succ, List.getElem?_cons_zero, lstW, z0]
  rw [sg]
  simp only [T.bind_ok, sRet_eq, gV_eq, List.getElem?_cons_succ, List.getElem?_cons_zero, endOf, Int.zero_add]
theorem lsum_run (hm : 0 < m) (sm : S 100 m) (hp : ∀ p ∈ ns, 0 ≤ p ∧ p ≤ 1000) (hl : ns.length ≤ 9) : F__law_sum [.lst (ras m ns)] = .ok (ra (sI ns) m) := by
  obtain ⟨z, sg⟩ := sums_go F__law_plus (fun a b x y => ladd_ra hm sm x y) (.val (.lst (ras m ns))) ns 0 .un hp (by decide) (by omega)
  have z0 : PF.W.tup [.int 0, .int 1] = ra 0 m := (ra_0 hm).symm
  unfold F__law_sum
  rw [defF_eq _ _ _ _ rfl]
  simp only [startE, List.map_cons, List.map_nil, List.length_cons, List.length_nil, Nat.reduceAdd, Nat.reduceSub, List.replicate, List.cons_append, List.nil_append, sSeq_eq, sSet_eq, fL_eq, fCons_eq, fNil_eq, mkTup_eq, sizeOk_2, if_true, T.bind_ok, List.set_cons_succ, List.set_cons_zero, sFor_eq, iOf_eq, gV_eq, List.getElem?_cons_succ, List.getElem?_cons_zero, lstW]
  rw [z0, sg]
  simp only [T.bind_ok, sRet_eq, gV_eq, List.getElem?_cons_succ, List.getElem?_cons_zero, endOf, Int.zero_add]
end
abbrev odds (s p0 : Int) (its : Bk) : PF.W := .tup (ra p0 s :: ras s (its.map Prod.fst))
structure Ch (s p0 : Int) (its : Bk) : Prop where
  b : Base s
  fit : Fit its
  one : 1 ≤ its.length
  p : 0 ≤ p0 ∧ p0 ≤ 400
  all : p0 + sP its = s
  rts : its.map Prod.snd = cs its.length
section
variable {s p0 : Int} {its : Bk}
theorem Ch.rows (h : Ch s p0 its) : rs (cs its.length) = its.map fun x => ra x.2 840 := by
  rw [← h.rts]
  show List.map _ (List.map _ _) = _
  rw [List.map_map]
  rfl
theorem Ch.each (h : Ch s p0 its) : ∀ p ∈ p0 :: its.map Prod.fst, 0 ≤ p ∧ p ≤ 400 := fun p hp => by
  rcases List.mem_cons.mp hp with rfl | hp
  · exact h.p
  · obtain ⟨x, hx, rfl⟩ := List.mem_map.mp hp
    have := h.fit.each x hx
    omega
theorem num_nn {a m : Int} (hm : 0 < m) (ha : 0 ≤ a) : 0 ≤ num a m := Int.ediv_nonneg ha (by omega)
theorem shares_of {L bs : List PF.W} (hz : sizeOk L = true) (c : compL (goName 1) fYes (fAndV (fL (fCons (gV 1) fNil) F_is_fraction) (f2 geW (f2 ixW (gV 1) (fun _ => .ok (.int 0))) (fun _ => .ok (.int 0)))) [.val (.tup L), .un] L = .ok bs) (al : allW [.lst bs] = .ok (.bl true)) (sm : F_sum_in [.lst L] = .ok k_ALL) : F_are_shares [.tup L] = .ok (.bl true) := by
  have eq : eqS k_ALL k_ALL = .ok (.bl true) := by kernel_rfl
  unfold F_are_shares
  rw [defF_eq _ _ _ _ rfl]
  simp only [startE, List.map_cons, List.map_nil, List.length_cons, List.length_nil, Nat.reduceAdd, Nat.reduceSub, List.replicate, List.cons_append, List.nil_append, sSeq_eq, sIf_eq, fOr_eq, fNot_eq, fTru_eq, f1_eq, gV_eq, List.getElem?_cons_zero, T.bind_ok, tup_is, truW_bl, Bool.not_true, Bool.false_eq_true, if_false, fL_eq, fCons_eq, fNil_eq, fComp_eq, iOf_eq, tupW, hz, if_true, wipeE, List.set_cons_succ, List.set_cons_zero, c, al, sNil_eq, sRet_eq, f2_eq, lstOfW_tup, sm, eq, endOf]
theorem chances_of {L : List PF.W} (sh : F_are_shares [.tup L] = .ok (.bl true)) (l2 : (2 : Int) ≤ L.length) (l9 : (L.length : Int) ≤ 9) : F_is_chances [.tup L] = .ok (.bl true) := by
  have k1 : addW k_LEAST_MANY (.int 1) = .ok (.int 2) := by kernel_rfl
  have k2 : addW k_MOST_MANY (.int 1) = .ok (.int 9) := by kernel_rfl
  unfold F_is_chances
  rw [defF_eq _ _ _ _ rfl]
  simp only [startE, List.map_cons, List.map_nil, List.length_cons, List.length_nil, Nat.reduceAdd, Nat.reduceSub, List.replicate, List.cons_append, List.nil_append, sRet_eq, fAndV_eq, fL_eq, fCons_eq, fNil_eq, gV_eq, List.getElem?_cons_zero, T.bind_ok, sh, fCh_eq, f2_eq, k1, k2, lenW_tup, leW_int, decide_eq_true l2, decide_eq_true l9, endOf]
theorem chances_run (h : Ch s p0 its) : F_is_chances [odds s p0 its] = .ok (.bl true) := by
  have e : odds s p0 its = .tup (ras s (p0 :: its.map Prod.fst)) := rfl
  have hl : (p0 :: its.map Prod.fst).length = its.length + 1 := by simp
  have l8 := h.fit.len
  have l1 := h.one
  have hz : sizeOk (ras s (p0 :: its.map Prod.fst)) = true := size_small (by rw [List.length_map, hl]; omega)
  have c : compL (goName 1) fYes (fAndV (fL (fCons (gV 1) fNil) F_is_fraction) (f2 geW (f2 ixW (gV 1) (fun _ => .ok (.int 0))) (fun _ => .ok (.int 0)))) [.val (.tup (ras s (p0 :: its.map Prod.fst))), .un] (ras s (p0 :: its.map Prod.fst)) = .ok ((p0 :: its.map Prod.fst).map fun _ => PF.W.bl true) := by
    refine compL_map _ _ _ fun p hp => ⟨_, rfl, rfl, ?_⟩
    have hp := h.each p hp
    have f := isfrac_run (fr_nrm (t := p) h.b.pos)
    have n : decide (0 ≤ num p s) = true := decide_eq_true (num_nn h.b.pos hp.1)
    have i0 : ixW (ra p s) (.int 0) = .ok (.int (num p s)) := rfl
    simp only [fAndV_eq, fL_eq, fCons_eq, fNil_eq, gV_eq, List.set_cons_succ, List.set_cons_zero, List.getElem?_cons_succ, List.getElem?_cons_zero, T.bind_ok, f, f2_eq, i0, geW_int, n]
  have al : allW [.lst ((p0 :: its.map Prod.fst).map fun _ => PF.W.bl true)] = .ok (.bl true) := all_bls (t := fun _ => true) fun _ _ => rfl
  have sm := sumin_run (ns := p0 :: its.map Prod.fst) h.b.pos (h.b.top.mono (by decide)) (fun p hp => by have := h.each p hp; omega) (by rw [hl]; omega)
  have se : sI (p0 :: its.map Prod.fst) = s := by
    have := h.all
    rw [sP_is] at this
    exact this
  have one : ra s s = k_ALL := by
    rw [ra_is (t' := 1) (m' := 1) h.b.pos (by decide) (by simp)]
    rfl
  rw [se, one] at sm
  exact chances_of (shares_of hz c al sm) (by simp; omega) (by simp; omega)
theorem needch_run (h : Ch s p0 its) : F_need_chances [odds s p0 its] = .ok (odds s p0 its) := by
  have c := chances_run h
  unfold F_need_chances
  rw [defF_eq _ _ _ _ rfl]
  simp only [startE, List.map_cons, List.map_nil, List.length_cons, List.length_nil, Nat.reduceAdd, Nat.reduceSub, List.replicate, List.cons_append, List.nil_append, sSeq_eq, sIf_eq, fNot_eq, fTru_eq, fL_eq, fCons_eq, fNil_eq, gV_eq, List.getElem?_cons_zero, T.bind_ok] at c ⊢
  rw [c]
  simp only [T.bind_ok, truW_bl, Bool.not_true, Bool.false_eq_true, if_false, sNil_eq, sRet_eq, gV_eq, List.getElem?_cons_zero, endOf]
theorem ix_nth {L : List PF.W} {k : Nat} {w : PF.W} (h : L[k]? = some w) : ixW (.tup L) (.int (k : Int)) = .ok w := by
  have hk : k < L.length := (List.getElem?_eq_some_iff.mp h).1
  have e : atI L (k : Int) = some w := by
    have g1 : (k : Int) < (L.length : Int) := by omega
    simp [atI, ixN, g1, h]
  simp [ixW, e]
theorem pools_go (h : Ch s p0 its) : ∀ (rest done : Bk) (bs : List Bk) (x2 x3 x4 x5 : Sl), its = done ++ rest → Row bs → flatB bs = done →
    ∃ bs' y2 y3 y4 y5, Row bs' ∧ flatB bs' = its ∧ forL (goTup 2 (goCons (goName 2) (goCons (goName 3) goNil))) (sSeq (sApp 1 (fCons (fL (fCons (f2 addW (gV 2) (fun _ => .ok (.int 1))) (fCons (f2 addW (gV 2) (fun _ => .ok (.int 1))) (fCons (f2 ixW (gV 0) (f2 addW (gV 2) (fun _ => .ok (.int 1)))) (fCons (gV 3) fNil)))) mkTup) fNil)) (sWhile (fun _ => 100) (onFrz 1 (fAnd (fBl (f2 gtW (fL (fCons (gV 1) fNil) lenW) (fun _ => .ok (.int 1)))) (fNot (fTru (fL (fCons (fL (fCons (f2 ixW (gV 1) (f1 negW (fun _ => .ok (.int 2)))) fNil) F_slope_of) (fCons (fL (fCons (f2 ixW (gV 1) (f1 negW (fun _ => .ok (.int 1)))) fNil) F_slope_of) fNil)) F_is_under))))) (sSeq (sPop0 1 (goName 4)) (sSeq (sPop0 1 (goName 5)) (sApp 1 (fCons (fL (fCons (f2 ixW (gV 5) (fun _ => .ok (.int 0))) (fCons (f2 ixW (gV 4) (fun _ => .ok (.int 1))) (fCons (fL (fCons (f2 ixW (gV 5) (fun _ => .ok (.int 2))) (fCons (f2 ixW (gV 4) (fun _ => .ok (.int 2))) fNil)) F_add) (fCons (fL (fCons (f2 ixW (gV 5) (fun _ => .ok (.int 3))) (fCons (f2 ixW (gV 4) (fun _ => .ok (.int 3))) fNil)) F_add) fNil)))) mkTup) fNil)))))) (enumF (done.length : Int) (rest.map fun x => ra x.2 840)) (pE (odds s p0 its) (stk s 1 bs) x2 x3 x4 x5) = .ok (.nx, pE (odds s p0 its) (stk s 1 bs') y2 y3 y4 y5)
  | [], done, bs, x2, x3, x4, x5, e, hr, hf => ⟨bs, x2, x3, x4, x5, hr, by rw [hf, e, List.append_nil], rfl⟩
  | x :: rest, done, bs, x2, x3, x4, x5, e, hr, hf => by
    have fx := h.fit.each x (by rw [e]; simp)
    have fit : Fit (flatB bs ++ [x]) := by
      rw [hf]
      refine h.fit.sub (by rw [e]; simp) fun y hy => ?_
      rw [e]
      simp only [List.mem_append, List.mem_cons, List.not_mem_nil, or_false] at hy ⊢
      rcases hy with hy | hy
      · exact .inl hy
      · exact .inr (.inl hy)
    have hlen := hr.len
    have h8 := fit.len
    rw [List.length_append] at h8
    have rk : roomOk (stk s 1 bs) = true := room_is (by rw [stk_len]; omega)
    obtain ⟨bs1, y4, y5, r1, r2, r3⟩ := while_run h.b (odds s p0 its) (.val (.int (done.length : Int))) (.val (ra x.2 840)) bs.length bs [x] x4 x5 100 rfl (by omega) hr (good_one fx.2.2.1) fit
    have e2 : its = (done ++ [x]) ++ rest := by rw [e]; simp
    obtain ⟨bs2, z2, z3, z4, z5, q1, q2, q3⟩ := pools_go h rest (done ++ [x]) bs1 (.val (.int (done.length : Int))) (.val (ra x.2 840)) y4 y5 e2 r1 (by rw [r2, hf])
    refine ⟨bs2, z2, z3, z4, z5, q1, q2, ?_⟩
    have en : (((done ++ [x]).length : Nat) : Int) = (done.length : Int) + 1 := by simp
    rw [en] at q3
    have ew : stk s 1 (bs ++ [[x]]) = stk s 1 bs ++ [.tup [.int ((done.length : Int) + 1), .int ((done.length : Int) + 1), ra x.1 s, ra x.2 840]] := by
      have a1 : ((1 + done.length : Nat) : Int) = (done.length : Int) + 1 := by omega
      have a2 : ((1 + done.length : Nat) : Int) + (([x] : Bk).length : Int) - 1 = (done.length : Int) + 1 := by
        simp
        omega
      rw [stk_app, hf]
      simp only [stk, pool, a2, sP, sC, Int.add_zero]
      rw [a1]
    rw [ew] at r3
    have ix : ixW (odds s p0 its) (.int ((done.length : Int) + 1)) = .ok (ra x.1 s) := by
      have : (ra p0 s :: ras s (its.map Prod.fst))[done.length + 1]? = some (ra x.1 s) := by
        rw [e]
        simp
      exact ix_nth this
    show forL _ _ (.tup [.int (done.length : Int), ra x.2 840] :: enumF ((done.length : Int) + 1) (rest.map fun x => ra x.2 840)) _ = _
    unfold forL
    have g : (goTup 2 (goCons (goName 2) (goCons (goName 3) goNil))) (.tup [.int (done.length : Int), ra x.2 840]) (pE (odds s p0 its) (stk s 1 bs) x2 x3 x4 x5) = some (pE (odds s p0 its) (stk s 1 bs) (.val (.int (done.length : Int))) (.val (ra x.2 840)) x4 x5) := rfl
    rw [g]
    have b1 : (sApp 1 (fCons (fL (fCons (f2 addW (gV 2) (fun _ => .ok (.int 1))) (fCons (f2 addW (gV 2) (fun _ => .ok (.int 1))) (fCons (f2 ixW (gV 0) (f2 addW (gV 2) (fun _ => .ok (.int 1)))) (fCons (gV 3) fNil)))) mkTup) fNil)) (pE (odds s p0 its) (stk s 1 bs) (.val (.int (done.length : Int))) (.val (ra x.2 840)) x4 x5) = .ok (.nx, pE (odds s p0 its) (stk s 1 bs ++ [.tup [.int ((done.length : Int) + 1), .int ((done.length : Int) + 1), ra x.1 s, ra x.2 840]]) (.val (.int (done.length : Int))) (.val (ra x.2 840)) x4 x5) := by
      simp only [sApp, pE, List.getElem?_cons_succ, List.getElem?_cons_zero, fCons_eq, fNil_eq, fL_eq, f2_eq, gV_eq, T.bind_ok, addW_int, ix, mkTup_eq, sizeOk_4, if_true, rk, List.set_cons_succ, List.set_cons_zero]
    simp only [sSeq_eq]
    rw [b1, T.bind_ok]
    simp only [sWhile]
    rw [r3, T.bind_ok]
    exact q3
theorem poolsin_run (h : Ch s p0 its) : ∃ bs, Row bs ∧ flatB bs = its ∧ F_pools_in [odds s p0 its] = .ok (.lst (stk s 1 bs)) := by
  obtain ⟨bs, y2, y3, y4, y5, r1, r2, r3⟩ := pools_go h its [] [] .un .un .un .un rfl ⟨fun b hb => (by cases hb), List.Pairwise.nil⟩ rfl
  refine ⟨bs, r1, r2, ?_⟩
  have rt := rates_run h.one h.fit.len
  rw [h.rows] at rt
  have ln : lenW [odds s p0 its] = .ok (.int ((its.length : Int) + 1)) := by simp
  have en : ∀ ws, enL [.lst ws] = .ok (enumF 0 ws) := fun _ => rfl
  have sb : ((its.length : Int) + 1 - 1) = (its.length : Int) := by omega
  have z0 : sizeOk ([] : List PF.W) = true := sizeOk_nil
  have r3 : forL (goTup 2 (goCons (goName 2) (goCons (goName 3) goNil))) (sSeq (sApp 1 (fCons (fL (fCons (f2 addW (gV 2) (fun _ => .ok (.int 1))) (fCons (f2 addW (gV 2) (fun _ => .ok (.int 1))) (fCons (f2 ixW (gV 0) (f2 addW (gV 2) (fun _ => .ok (.int 1)))) (fCons (gV 3) fNil)))) mkTup) fNil)) (sWhile (fun _ => 100) (onFrz 1 (fAnd (fBl (f2 gtW (fL (fCons (gV 1) fNil) lenW) (fun _ => .ok (.int 1)))) (fNot (fTru (fL (fCons (fL (fCons (f2 ixW (gV 1) (f1 negW (fun _ => .ok (.int 2)))) fNil) F_slope_of) (fCons (fL (fCons (f2 ixW (gV 1) (f1 negW (fun _ => .ok (.int 1)))) fNil) F_slope_of) fNil)) F_is_under))))) (sSeq (sPop0 1 (goName 4)) (sSeq (sPop0 1 (goName 5)) (sApp 1 (fCons (fL (fCons (f2 ixW (gV 5) (fun _ => .ok (.int 0))) (fCons (f2 ixW (gV 4) (fun _ => .ok (.int 1))) (fCons (fL (fCons (f2 ixW (gV 5) (fun _ => .ok (.int 2))) (fCons (f2 ixW (gV 4) (fun _ => .ok (.int 2))) fNil)) F_add) (fCons (fL (fCons (f2 ixW (gV 5) (fun _ => .ok (.int 3))) (fCons (f2 ixW (gV 4) (fun _ => .ok (.int 3))) fNil)) F_add) fNil)))) mkTup) fNil)))))) (enumF 0 (its.map fun x => ra x.2 840)) [.val (odds s p0 its), .own [], .un, .un, .un, .un] = _ := r3
  unfold F_pools_in
  rw [defF_eq _ _ _ _ rfl]
  have st : startE 6 [odds s p0 its] = [.val (odds s p0 its), .un, .un, .un, .un, .un] := rfl
  rw [st]
  simp only [sSeq_eq, sOwn, fNil_eq, T.bind_ok, z0, if_true, List.set_cons_succ, List.set_cons_zero, sFor_eq, iL_eq, fCons_eq, fL_eq, f2_eq, gV_eq, List.getElem?_cons_zero, ln, subW_int, sb, rt, en]
  rw [r3, T.bind_ok]
  simp only [onFrz, frz, pE, List.getElem?_cons_succ, List.getElem?_cons_zero, List.set_cons_succ, List.set_cons_zero, sRet_eq, gV_eq, T.bind_ok, endOf]
end
end Lw
namespace Lw
open PySem L2 PF Rt
def pos : Nat → List Bk → List (Nat × Bk)
  | _, [] => []
  | f, b :: bs => (f, b) :: pos (f + b.length) bs
theorem stk_pos (s : Int) : ∀ (bs : List Bk) (f : Nat), stk s f bs = (pos f bs).map fun x => pool s x.1 x.2
  | [], f => rfl
  | b :: bs, f => by simp only [stk, pos, List.map_cons, stk_pos s bs]
theorem pos_mem : ∀ (bs : List Bk) (f0 : Nat) (x : Nat × Bk), x ∈ pos f0 bs → x.2 ∈ bs ∧ ∃ pre post, flatB bs = pre ++ x.2 ++ post ∧ x.1 = f0 + pre.length
  | [], f0, x, h => by cases h
  | b :: bs, f0, x, h => by
    rcases List.mem_cons.mp h with rfl | h
    · exact ⟨List.mem_cons_self .., [], flatB bs, rfl, rfl⟩
    · obtain ⟨h1, pre, post, h2, h3⟩ := pos_mem bs _ x h
      refine ⟨List.mem_cons_of_mem _ h1, b ++ pre, post, ?_, ?_⟩
      · simp only [flatB, h2, List.append_assoc]
      · rw [h3, List.length_append]
        omega
theorem pos_len : ∀ (bs : List Bk) (f : Nat), (pos f bs).length = bs.length
  | [], f => rfl
  | b :: bs, f => by simp [pos, pos_len bs]
abbrev prW (x : Nat × Bk) : PF.W := .tup [.int (x.1 : Int), .int ((x.1 : Int) + (x.2.length : Int) - 1)]
section
variable {s p0 : Int} {its : Bk}
theorem pools_of (h : Ch s p0 its) {bs : List Bk} (hr : Row bs) (hf : flatB bs = its) (hp : F_pools_in [odds s p0 its] = .ok (.lst (stk s 1 bs))) : F_pools [odds s p0 its] = .ok (.tup ((pos 1 bs).map prW)) := by
  have nd := needch_run h
  have hl := hr.len
  have h8 := h.fit.len
  rw [hf] at hl
  have hz : sizeOk (stk s 1 bs) = true := size_small (by rw [stk_len]; omega)
  have c : compL (goName 1) fYes (fSl (gV 1) pNo (pSome (fun _ => .ok (.int 2)))) [.val (odds s p0 its), .un] (stk s 1 bs) = .ok ((pos 1 bs).map prW) := by
    rw [stk_pos]
    refine compL_map _ _ _ fun x _ => ⟨_, rfl, rfl, ?_⟩
    rfl
  unfold F_pools
  rw [defF_eq _ _ _ _ rfl]
  have st : startE 2 [odds s p0 its] = [.val (odds s p0 its), .un] := rfl
  rw [st]
  simp only [sRet_eq, fL_eq, fCons_eq, fNil_eq, fComp_eq, iOf_eq, gV_eq, List.getElem?_cons_zero, T.bind_ok, nd, hp, lstW, hz, if_true, wipeE, List.set_cons_succ, List.set_cons_zero, c, tupOfW_lst, endOf]
theorem slopes_of (h : Ch s p0 its) {bs : List Bk} (hr : Row bs) (hf : flatB bs = its) (hp : F_pools_in [odds s p0 its] = .ok (.lst (stk s 1 bs))) : F_slopes [odds s p0 its] = .ok (.tup ((pos 1 bs).map fun x => sl s x.2)) := by
  have nd := needch_run h
  have hl := hr.len
  have h8 := h.fit.len
  rw [hf] at hl
  have hz : sizeOk (stk s 1 bs) = true := size_small (by rw [stk_len]; omega)
  have c : compL (goName 1) fYes (fL (fCons (gV 1) fNil) F_slope_of) [.val (odds s p0 its), .un] (stk s 1 bs) = .ok ((pos 1 bs).map fun x => sl s x.2) := by
    rw [stk_pos]
    refine compL_map _ _ _ fun x hx => ⟨_, rfl, rfl, ?_⟩
    obtain ⟨m1, pre, post, m2, _⟩ := pos_mem bs 1 x hx
    have fit := h.fit
    rw [← hf, m2] at fit
    have sr := slope_run h.b fit.left.right (hr.good _ m1).c x.1
    simp only [fL_eq, fCons_eq, fNil_eq, gV_eq, List.set_cons_succ, List.set_cons_zero, List.getElem?_cons_succ, List.getElem?_cons_zero, T.bind_ok, sr]
  unfold F_slopes
  rw [defF_eq _ _ _ _ rfl]
  have st : startE 2 [odds s p0 its] = [.val (odds s p0 its), .un] := rfl
  rw [st]
  simp only [sRet_eq, fL_eq, fCons_eq, fNil_eq, fComp_eq, iOf_eq, gV_eq, List.getElem?_cons_zero, T.bind_ok, nd, hp, lstW, hz, if_true, wipeE, List.set_cons_succ, List.set_cons_zero, c, tupOfW_lst, endOf]
theorem cut_mid {A x B : List PF.W} {lo hi : Int} (h1 : lo = A.length) (h2 : hi = (A.length : Int) + x.length) : cutW (A ++ (x ++ B)) (some lo) (some hi) = x := by
  have e2 : hi = ((A.length + x.length : Nat) : Int) := by omega
  subst h1
  rw [e2]
  unfold cutW
  rw [HT.sIx_nat, HT.sIx_nat]
  have a : min A.length (A ++ (x ++ B)).length = A.length := by simp
  have b : min (A.length + x.length) (A ++ (x ++ B)).length = A.length + x.length := by simp
  rw [a, b, List.drop_left, Nat.add_sub_cancel_left, List.take_left]
theorem lslope_run (h : Ch s p0 its) {pre x post : Bk} (e : its = pre ++ x ++ post) (n : x ≠ []) {f l : Int} (hf : f = (pre.length : Int) + 1) (hl : l = (pre.length : Int) + x.length) : F__law_slope [odds s p0 its, .int f, .int l] = .ok (sl s x) := by
  have fit := h.fit
  rw [e] at fit
  have fx := fit.left.right
  have px : Pos x := fun y hy => (fx.each y hy).2.2.1
  have c1 : slW (odds s p0 its) (some f) (some (l + 1)) = .ok (.tup (ras s (x.map Prod.fst))) := by
    have : ra p0 s :: ras s (its.map Prod.fst) = (ra p0 s :: ras s (pre.map Prod.fst)) ++ (ras s (x.map Prod.fst) ++ ras s (post.map Prod.fst)) := by
      rw [e]
      simp
    show T.ok (PF.W.tup (cutW (ra p0 s :: ras s (its.map Prod.fst)) _ _)) = _
    rw [this, cut_mid (by simp; omega) (by simp; omega)]
  have rt := lrates_run h.one h.fit.len
  rw [h.rows] at rt
  have c2 : slW (.lst (its.map fun y => ra y.2 840)) (some (f - 1)) (some l) = .ok (.lst (ras 840 (x.map Prod.snd))) := by
    have : (its.map fun y => ra y.2 840) = (pre.map fun y => ra y.2 840) ++ (ras 840 (x.map Prod.snd) ++ (post.map fun y => ra y.2 840)) := by
      rw [e]
      simp
    show T.ok (PF.W.lst (cutW _ _ _)) = _
    rw [this, cut_mid (by simp; omega) (by simp; omega)]
  have s1 := lsum_run (ns := x.map Prod.fst) h.b.pos (h.b.top.mono (by decide)) (fun p hp => by
    obtain ⟨y, hy, rfl⟩ := List.mem_map.mp hp
    have := fx.each y hy
    omega) (by rw [List.length_map]; have := fx.len; omega)
  have s2 := lsum_run (ns := x.map Prod.snd) p840 (s840.mono (by decide)) (fun p hp => by
    obtain ⟨y, hy, rfl⟩ := List.mem_map.mp hp
    have := fx.each y hy
    omega) (by rw [List.length_map]; have := fx.len; omega)
  rw [← sP_is] at s1
  rw [← sC_is] at s2
  have ov := ldiv_ra (a := sP x) (m := s) (b := sC x) (n := 840) h.b.pos p840 (sC_pos px n) (fx.sp.mono (by decide)) (h.b.top.mono (by decide)) (fx.sc.mono (by decide)) (s840.mono (by decide))
  have ln : lenW [odds s p0 its] = .ok (.int ((its.length : Int) + 1)) := by simp
  have sb : ((its.length : Int) + 1 - 1) = (its.length : Int) := by omega
  have pi : ∀ i : Int, pInt (.int i) = .ok i := fun _ => rfl
  unfold F__law_slope
  rw [defF_eq _ _ _ _ rfl]
  have st : startE 4 [odds s p0 its, .int f, .int l] = [.val (odds s p0 its), .val (.int f), .val (.int l), .un] := rfl
  rw [st]
  simp only [sSeq_eq, sSet_eq, sRet_eq, fL_eq, fCons_eq, fNil_eq, fSl_eq, pSome_eq, gV_eq, f2_eq, List.getElem?_cons_succ, List.getElem?_cons_zero, T.bind_ok, addW_int, subW_int, pi, c1, lstOfW_tup, s1, List.set_cons_succ, List.set_cons_zero, ln, sb, rt, c2, s2, ov, endOf]
abbrev bst (s : Int) (pre y : Bk) : PF.W := .tup [sl s y, .int ((pre.length : Int) + (y.length : Int))]
/-- what is best behind the beginning x -/
def Bst (s : Int) (pre a x : Bk) (w : PF.W) : Prop := (∃ d, a = x ++ d ∧ d ≠ [] ∧ ((x = [] ∧ w = .non) ∨ ∃ y c, a = y ++ c ∧ y ≠ [] ∧ w = bst s pre y)) ∨ (∃ z, x = a ++ z ∧ w = bst s pre a)
abbrev lE (c : PF.W) (got : List PF.W) (f : Int) (b : PF.W) (x4 x5 : Sl) : En := [.val c, .own got, .val (.int f), .val b, x4, x5]
theorem is_non : isW .non .non = .ok (.bl true) := rfl
theorem is_tup (ws : List PF.W) : isW (.tup ws) .non = .ok (.bl false) := rfl
theorem lbody {c h : PF.W} {got : List PF.W} {f l : Int} {b : PF.W} {x5 : Sl} {t : Bool} (hs : F__law_slope [c, .int f, .int l] = .ok h) (ht : (b = .non ∧ t = true) ∨ ∃ u v g, b = .tup [u, v] ∧ F__law_under [u, h] = .ok (.bl g) ∧ t = !g) :
    (sSeq (sSet 5 (fL (fCons (gV 0) (fCons (gV 2) (fCons (gV 4) fNil))) F__law_slope)) (sIf (fOr (fBl (f2 isW (gV 3) (fun _ => .ok .non))) (fNot (fTru (fL (fCons (f2 ixW (gV 3) (fun _ => .ok (.int 0))) (fCons (gV 5) fNil)) F__law_under)))) (sSet 3 (fL (fCons (gV 5) (fCons (gV 4) fNil)) mkTup)) sNil)) (lE c got f b (.val (.int l)) x5) = .ok (.nx, lE c got f (if t then .tup [h, .int l] else b) (.val (.int l)) (.val h)) := by
  rcases ht with ⟨rfl, rfl⟩ | ⟨u, v, g, rfl, hu, rfl⟩
  · simp only [sSeq_eq, sSet_eq, fL_eq, fCons_eq, fNil_eq, gV_eq, List.getElem?_cons_succ, List.getElem?_cons_zero, T.bind_ok, hs, List.set_cons_succ, List.set_cons_zero, sIf_eq, fOr_eq, fBl_eq, f2_eq, is_non, blW, if_true, mkTup_eq, sizeOk_2]
  · have i0 : ixW (.tup [u, v]) (.int 0) = .ok u := rfl
    cases g with
    | true => simp only [sSeq_eq, sSet_eq, fL_eq, fCons_eq, fNil_eq, gV_eq, List.getElem?_cons_succ, List.getElem?_cons_zero, T.bind_ok, hs, List.set_cons_succ, List.set_cons_zero, sIf_eq, fOr_eq, fBl_eq, f2_eq, is_tup, blW, Bool.false_eq_true, if_false, fNot_eq, fTru_eq, i0, hu, truW_bl, Bool.not_true, sNil_eq]
    | false => simp only [sSeq_eq, sSet_eq, fL_eq, fCons_eq, fNil_eq, gV_eq, List.getElem?_cons_succ, List.getElem?_cons_zero, T.bind_ok, hs, List.set_cons_succ, List.set_cons_zero, sIf_eq, fOr_eq, fBl_eq, f2_eq, is_tup, blW, Bool.false_eq_true, if_false, fNot_eq, fTru_eq, i0, hu, truW_bl, Bool.not_false, if_true, mkTup_eq, sizeOk_2]
theorem lfor_go (h : Ch s p0 its) {pre a : Bk} {bs : List Bk} (hr : Row (a :: bs)) (e : its = pre ++ (a ++ flatB bs)) (got : List PF.W) : ∀ (rest x : Bk) (w : PF.W) (x4 x5 : Sl), a ++ flatB bs = x ++ rest → Bst s pre a x w →
    ∃ y4 y5, forL (goName 4) (sSeq (sSet 5 (fL (fCons (gV 0) (fCons (gV 2) (fCons (gV 4) fNil))) F__law_slope)) (sIf (fOr (fBl (f2 isW (gV 3) (fun _ => .ok .non))) (fNot (fTru (fL (fCons (f2 ixW (gV 3) (fun _ => .ok (.int 0))) (fCons (gV 5) fNil)) F__law_under)))) (sSet 3 (fL (fCons (gV 5) (fCons (gV 4) fNil)) mkTup)) sNil)) (intsFrom ((pre.length : Int) + 1 + x.length) rest.length) (lE (odds s p0 its) got ((pre.length : Int) + 1) w x4 x5) = .ok (.nx, lE (odds s p0 its) got ((pre.length : Int) + 1) (bst s pre a) y4 y5)
  | [], x, w, x4, x5, hx, hw => by
    rw [List.append_nil] at hx
    have ew : w = bst s pre a := by
      rcases hw with ⟨d, e1, nd, _⟩ | ⟨z, _, e2⟩
      · exfalso
        have := congrArg List.length hx
        have e3 := congrArg List.length e1
        rw [List.length_append] at this e3
        have : 0 < d.length := List.length_pos_iff.mpr nd
        omega
      · exact e2
    subst ew
    exact ⟨x4, x5, rfl⟩
  | q :: rest, x, w, x4, x5, hx, hw => by
    have ga := hr.good a (List.mem_cons_self ..)
    have nx : x ++ [q] ≠ [] := by simp
    have hx' : a ++ flatB bs = (x ++ [q]) ++ rest := by rw [hx]; simp
    have ei : its = pre ++ (x ++ [q]) ++ rest := by rw [e, hx']; simp
    have ls := lslope_run h ei nx (f := (pre.length : Int) + 1) (l := (pre.length : Int) + 1 + x.length) rfl (by simp; omega)
    have fit := h.fit
    rw [ei] at fit
    have fx := fit.left.right
    have px : 0 < sC (x ++ [q]) := sC_pos (fun y hy => (fx.each y hy).2.2.1) nx
    have el : (pre.length : Int) + 1 + x.length = (pre.length : Int) + ((x ++ [q]).length : Int) := by simp; omega
    have fa : Fit a := by
      have := h.fit
      rw [e] at this
      exact this.right.left
    have fy : ∀ {y c : Bk}, a = y ++ c → y ≠ [] → Fit y ∧ 0 < sC y := fun {y c} hy n => by
      have f := fa
      rw [hy] at f
      exact ⟨f.left, sC_pos (fun z hz => (f.left.each z hz).2.2.1) n⟩
    have key : ∃ t : Bool, ((w = .non ∧ t = true) ∨ ∃ u v g, w = .tup [u, v] ∧ F__law_under [u, sl s (x ++ [q])] = .ok (.bl g) ∧ t = !g) ∧ Bst s pre a (x ++ [q]) (if t then .tup [sl s (x ++ [q]), .int ((pre.length : Int) + 1 + x.length)] else w) := by
      rcases hw with ⟨d, e1, nd, hb⟩ | ⟨z, e1, e2⟩
      · -- within the block
        obtain ⟨d0, d', rfl⟩ : ∃ d0 d', d = d0 :: d' := by
          cases d with
          | nil => exact absurd rfl nd
          | cons d0 d' => exact ⟨d0, d', rfl⟩
        have eq : d0 = q := by
          rw [e1, List.append_assoc] at hx
          have := List.append_cancel_left hx
          simp at this
          exact this.1
        subst eq
        have ea : a = (x ++ [d0]) ++ d' := by rw [e1]; simp
        have last : d' = [] → x ++ [d0] = a := fun n => by rw [ea, n, List.append_nil]
        rw [el]
        rcases hb with ⟨_, rfl⟩ | ⟨y, c, ey, ny, rfl⟩
        · refine ⟨true, .inl ⟨rfl, rfl⟩, ?_⟩
          rw [if_pos rfl]
          by_cases hd : d' = []
          · rw [last hd]
            exact .inr ⟨[], by simp, rfl⟩
          · exact .inl ⟨d', ea, hd, .inr ⟨_, d', ea, nx, rfl⟩⟩
        · obtain ⟨f1, p1⟩ := fy ey ny
          have un := lunder_sl h.b f1 fx p1 px
          refine ⟨!decide (Lt y (x ++ [d0])), .inr ⟨_, _, _, rfl, un, rfl⟩, ?_⟩
          by_cases hd : d' = []
          · have nl : ¬ Lt y (x ++ [d0]) := by
              rw [last hd]
              exact Int.not_lt.mpr (ga.pre y c ey)
            rw [decide_eq_false nl, Bool.not_false, if_pos rfl, last hd]
            exact .inr ⟨[], by simp, rfl⟩
          · by_cases hl : Lt y (x ++ [d0])
            · rw [decide_eq_true hl, Bool.not_true, if_neg (by simp)]
              exact .inl ⟨d', ea, hd, .inr ⟨y, c, ey, ny, rfl⟩⟩
            · rw [decide_eq_false hl, Bool.not_false, if_pos rfl]
              exact .inl ⟨d', ea, hd, .inr ⟨_, d', ea, nx, rfl⟩⟩
      · -- beyond it
        subst e1 e2
        have hz : flatB bs = (z ++ [q]) ++ rest := by
          rw [List.append_assoc] at hx'
          rw [List.append_assoc] at hx'
          have := List.append_cancel_left hx'
          rw [this]
          simp
        have lt : Lt a (a ++ z ++ [q]) := by
          have := beyond' hr hz (by simp)
          rw [← List.append_assoc] at this
          exact this
        have un := lunder_sl h.b fa fx ga.c px
        rw [decide_eq_true lt] at un
        exact ⟨false, .inr ⟨_, _, true, rfl, un, rfl⟩, .inr ⟨z ++ [q], by simp, rfl⟩⟩
    obtain ⟨t, k1, k2⟩ := key
    have bd := lbody (got := got) (x5 := x5) ls k1
    obtain ⟨y4, y5, ih⟩ := lfor_go h hr e got rest (x ++ [q]) _ (.val (.int ((pre.length : Int) + 1 + x.length))) (.val (sl s (x ++ [q]))) hx' k2
    refine ⟨y4, y5, ?_⟩
    have el2 : (pre.length : Int) + 1 + ((x ++ [q]).length : Int) = (pre.length : Int) + 1 + x.length + 1 := by simp; omega
    rw [el2] at ih
    show forL _ _ (.int ((pre.length : Int) + 1 + x.length) :: intsFrom ((pre.length : Int) + 1 + x.length + 1) rest.length) _ = _
    unfold forL
    have g : goName 4 (.int ((pre.length : Int) + 1 + x.length)) (lE (odds s p0 its) got ((pre.length : Int) + 1) w x4 x5) = some (lE (odds s p0 its) got ((pre.length : Int) + 1) w (.val (.int ((pre.length : Int) + 1 + x.length))) x5) := rfl
    rw [g]
    simp only []
    rw [bd, T.bind_ok]
    exact ih
end
end Lw
namespace Lw
open PySem L2 PF Rt
section
variable {s p0 : Int} {its : Bk}
theorem lwhile_go (h : Ch s p0 its) : ∀ (bs : List Bk) (pre : Bk) (got : List PF.W) (x3 x4 x5 : Sl) (fuel : Nat), bs.length < fuel → its = pre ++ flatB bs → Row bs → got.length ≤ pre.length →
    ∃ y3 y4 y5, whileL (fBl (f2 ltW (gV 2) (fL (fCons (gV 0) fNil) lenW))) (sSeq (sSet 3 (fun _ => .ok .non)) (sSeq (sFor (iL rng2 (fCons (gV 2) (fCons (fL (fCons (gV 0) fNil) lenW) fNil))) (goName 4) (sSeq (sSet 5 (fL (fCons (gV 0) (fCons (gV 2) (fCons (gV 4) fNil))) F__law_slope)) (sIf (fOr (fBl (f2 isW (gV 3) (fun _ => .ok .non))) (fNot (fTru (fL (fCons (f2 ixW (gV 3) (fun _ => .ok (.int 0))) (fCons (gV 5) fNil)) F__law_under)))) (sSet 3 (fL (fCons (gV 5) (fCons (gV 4) fNil)) mkTup)) sNil))) (sSeq (sApp 1 (fCons (fL (fCons (gV 2) (fCons (f2 ixW (gV 3) (fun _ => .ok (.int 1))) fNil)) mkTup) fNil)) (sSet 2 (f2 addW (f2 ixW (gV 3) (fun _ => .ok (.int 1))) (fun _ => .ok (.int 1))))))) fuel [.val (odds s p0 its), .own got, .val (.int ((pre.length : Int) + 1)), x3, x4, x5] = .ok (.nx, [.val (odds s p0 its), .own (got ++ (pos (1 + pre.length) bs).map prW), .val (.int ((its.length : Int) + 1)), y3, y4, y5])
  | [], pre, got, x3, x4, x5, fuel, hf, e, hr, hg => by
    obtain ⟨m, rfl⟩ : ∃ m, fuel = m + 1 := ⟨fuel - 1, by omega⟩
    have e1 : its = pre := by rw [e]; simp [flatB]
    refine ⟨x3, x4, x5, ?_⟩
    have ln : lenW [odds s p0 its] = .ok (.int ((its.length : Int) + 1)) := by simp
    rw [← e1]
    unfold whileL
    simp only [fBl_eq, f2_eq, fL_eq, fCons_eq, fNil_eq, gV_eq, List.getElem?_cons_succ, List.getElem?_cons_zero, T.bind_ok, ln, ltW_int, Int.lt_irrefl, decide_false, blW, Bool.false_eq_true, if_false, pos, List.map_nil, List.append_nil]
  | a :: bs, pre, got, x3, x4, x5, fuel, hf, e, hr, hg => by
    obtain ⟨m, rfl⟩ : ∃ m, fuel = m + 1 := ⟨fuel - 1, by omega⟩
    have ga := hr.good a (List.mem_cons_self ..)
    have la : 0 < a.length := List.length_pos_iff.mpr ga.ne
    have e' : its = pre ++ (a ++ flatB bs) := e
    have ln : lenW [odds s p0 its] = .ok (.int ((its.length : Int) + 1)) := by simp
    have il : its.length = pre.length + (a.length + (flatB bs).length) := by rw [e', List.length_append, List.length_append]
    have h8 := h.fit.len
    have lt : decide (((pre.length : Int) + 1) < (its.length : Int) + 1) = true := decide_eq_true (by omega)
    obtain ⟨y4, y5, fr⟩ := lfor_go h hr e' got (a ++ flatB bs) [] .non x4 x5 rfl (.inl ⟨a, rfl, ga.ne, .inl ⟨rfl, rfl⟩⟩)
    have rg : rng2 [.int ((pre.length : Int) + 1), .int ((its.length : Int) + 1)] = .ok (intsFrom ((pre.length : Int) + 1 + (([] : Bk).length : Int)) (a ++ flatB bs).length) := by
      rw [rng2_is (by omega) (by omega)]
      have a1 : ((its.length : Int) + 1 - ((pre.length : Int) + 1)).toNat = (a ++ flatB bs).length := by
        rw [List.length_append]
        omega
      have a2 : (pre.length : Int) + 1 + (([] : Bk).length : Int) = (pre.length : Int) + 1 := by simp
      rw [a1, a2]
    have rk : roomOk got = true := room_is (by omega)
    have i1 : ixW (bst s pre a) (.int 1) = .ok (.int ((pre.length : Int) + (a.length : Int))) := rfl
    have e2 : its = (pre ++ a) ++ flatB bs := by rw [e']; simp
    obtain ⟨z3, z4, z5, ih⟩ := lwhile_go h bs (pre ++ a) (got ++ [.tup [.int ((pre.length : Int) + 1), .int ((pre.length : Int) + (a.length : Int))]]) (.val (bst s pre a)) y4 y5 m (by simpa using hf) e2 hr.tail (by simp; omega)
    refine ⟨z3, z4, z5, ?_⟩
    have a3 : (((pre ++ a).length : Nat) : Int) + 1 = (pre.length : Int) + (a.length : Int) + 1 := by simp
    have a4 : (got ++ [.tup [.int ((pre.length : Int) + 1), .int ((pre.length : Int) + (a.length : Int))]]) ++ (pos (1 + (pre ++ a).length) bs).map prW = got ++ (pos (1 + pre.length) (a :: bs)).map prW := by
      have b1 : ((1 + pre.length : Nat) : Int) = (pre.length : Int) + 1 := by omega
      have b2 : ((1 + pre.length : Nat) : Int) + (a.length : Int) - 1 = (pre.length : Int) + (a.length : Int) := by omega
      have b3 : 1 + (pre ++ a).length = 1 + pre.length + a.length := by
        rw [List.length_append]
        omega
      rw [b3, List.append_assoc]
      simp only [pos, List.map_cons, prW, b2, List.cons_append, List.nil_append]
      rw [b1]
    rw [a3, a4] at ih
    unfold whileL
    simp only [fBl_eq, f2_eq, fL_eq, fCons_eq, fNil_eq, gV_eq, List.getElem?_cons_succ, List.getElem?_cons_zero, T.bind_ok, ln, ltW_int, lt, blW, if_true, sSeq_eq, sSet_eq, List.set_cons_succ, List.set_cons_zero, sFor_eq, iL_eq, rg]
    rw [fr]
    simp only [T.bind_ok, sApp, List.getElem?_cons_succ, List.getElem?_cons_zero, fCons_eq, fNil_eq, fL_eq, f2_eq, gV_eq, i1, mkTup_eq, sizeOk_2, if_true, rk, List.set_cons_succ, List.set_cons_zero, sSet_eq, addW_int]
    exact ih
theorem lrow_run (h : Ch s p0 its) {bs : List Bk} (hr : Row bs) (hf : flatB bs = its) : F__law_pool_row [odds s p0 its] = .ok (.lst ((pos 1 bs).map prW)) := by
  have hl := hr.len
  have h8 := h.fit.len
  rw [hf] at hl
  obtain ⟨y3, y4, y5, w⟩ := lwhile_go h bs [] [] .un .un .un 100 (by omega) hf.symm hr (Nat.le_refl _)
  have w : whileL (fBl (f2 ltW (gV 2) (fL (fCons (gV 0) fNil) lenW))) (sSeq (sSet 3 (fun _ => .ok .non)) (sSeq (sFor (iL rng2 (fCons (gV 2) (fCons (fL (fCons (gV 0) fNil) lenW) fNil))) (goName 4) (sSeq (sSet 5 (fL (fCons (gV 0) (fCons (gV 2) (fCons (gV 4) fNil))) F__law_slope)) (sIf (fOr (fBl (f2 isW (gV 3) (fun _ => .ok .non))) (fNot (fTru (fL (fCons (f2 ixW (gV 3) (fun _ => .ok (.int 0))) (fCons (gV 5) fNil)) F__law_under)))) (sSet 3 (fL (fCons (gV 5) (fCons (gV 4) fNil)) mkTup)) sNil))) (sSeq (sApp 1 (fCons (fL (fCons (gV 2) (fCons (f2 ixW (gV 3) (fun _ => .ok (.int 1))) fNil)) mkTup) fNil)) (sSet 2 (f2 addW (f2 ixW (gV 3) (fun _ => .ok (.int 1))) (fun _ => .ok (.int 1))))))) 100 [.val (odds s p0 its), .own [], .val (.int 1), .un, .un, .un] = .ok (.nx, [.val (odds s p0 its), .own ((pos 1 bs).map prW), .val (.int ((its.length : Int) + 1)), y3, y4, y5]) := w
  unfold F__law_pool_row
  rw [defF_eq _ _ _ _ rfl]
  have st : startE 6 [odds s p0 its] = [.val (odds s p0 its), .un, .un, .un, .un, .un] := rfl
  rw [st]
  simp only [sSeq_eq, sOwnPar, fCons_eq, fNil_eq, T.bind_ok, List.set_cons_succ, List.set_cons_zero, sWhile]
  rw [w]
  simp only [T.bind_ok, onFrz, frz, List.getElem?_cons_succ, List.getElem?_cons_zero, List.set_cons_succ, List.set_cons_zero, sRet_eq, gV_eq, endOf]
theorem sh_fr {a b : Int} (ha : S 400 a) (hb : S 400 b) : Sh 4000 2 (fr a b) := by
  refine (sh_tup (n := 402) (k := 1) fun w hw => ?_).mono (by simp) (by omega)
  simp only [List.mem_cons, List.not_mem_nil, or_false] at hw
  rcases hw with rfl | rfl
  · exact sh_int ha
  · exact sh_int hb
theorem sh_ra {t m : Int} (ht : S 100 t) (hm : S 100 m) : Sh 4000 2 (ra t m) := sh_fr (ht.num.mono (by decide)) (hm.den.mono (by decide))
theorem sh_rows {ws : List PF.W} (hl : ws.length ≤ 9) (h : ∀ w ∈ ws, Sh 4000 2 w) : Sh 40000 3 (.tup ws) := (sh_tup h).mono (by omega) (by omega)
theorem sh_odds (h : Ch s p0 its) : Sh 40000 3 (odds s p0 its) := by
  refine sh_rows (ws := ras s (p0 :: its.map Prod.fst)) (by have := h.fit.len; simp; omega) fun w hw => ?_
  obtain ⟨p, hp, rfl⟩ := List.mem_map.mp hw
  have := h.each p hp
  exact sh_ra (by unfold S; omega) (h.b.top.mono (by decide))
theorem sh_four {a b c d : PF.W} (ha : Sh 40000 3 a) (hb : Sh 40000 3 b) (hc : Sh 40000 3 c) (hd : Sh 40000 3 d) : Sh 200000 4 (.lst [a, b, c, d]) := by
  refine (sh_lst (n := 40000) (k := 3) fun w hw => ?_).mono (by simp) (by omega)
  simp only [List.mem_cons, List.not_mem_nil, or_false] at hw
  rcases hw with rfl | rfl | rfl | rfl <;> assumption
theorem pairs_none : ∀ (bs : List Bk) (f : Nat), bs.Pairwise Lt → ∀ i x y, ((pos f bs).map Prod.snd)[i]? = some x → ((pos f bs).map Prod.snd)[i + 1]? = some y → Lt x y := fun bs f hp i x y h1 h2 => by
  have e : ∀ (bs : List Bk) (f : Nat), (pos f bs).map Prod.snd = bs := fun bs => by
    induction bs with
    | nil => exact fun _ => rfl
    | cons b bs ih => exact fun f => by simp [pos, ih]
  rw [e] at h1 h2
  obtain ⟨l1, g1⟩ := List.getElem?_eq_some_iff.mp h1
  obtain ⟨l2, g2⟩ := List.getElem?_eq_some_iff.mp h2
  have := List.pairwise_iff_getElem.mp hp i (i + 1) l1 l2 (Nat.lt_succ_self i)
  rw [g1, g2] at this
  exact this
end
end Lw
namespace Lw
open PySem L2 PF Rt
section
variable {s p0 : Int} {its : Bk}
theorem zip_next : ∀ (ws : List PF.W), zipF ws (ws.drop 1) = (List.range (ws.length - 1)).map fun i => PF.W.tup [ws.getD i .non, ws.getD (i + 1) .non] := fun ws => by
  refine List.ext_getElem (by simp [zipF_length]) fun i h1 h2 => ?_
  obtain ⟨w, u, e1, e2, e3⟩ := zipF_get _ _ i _ (List.getElem?_eq_getElem h1)
  rw [List.getElem?_drop, Nat.add_comm] at e2
  rw [e3]
  simp [List.getD_eq_getElem?_getD, e1, e2]
theorem cut_one (ws : List PF.W) : cutW ws (some 1) none = ws.drop 1 := by
  unfold cutW
  have e : HT.sIx ws.length 0 (some 1) = min 1 ws.length := HT.sIx_nat ws.length 0 1
  rw [e, HT.sIx_none]
  cases ws with
  | nil => rfl
  | cons w ws => simp
theorem lright_run (h : Ch s p0 its) : F__law_right [odds s p0 its] = .ok (.bl true) := by
  obtain ⟨bs, hr, hf, hp⟩ := poolsin_run h
  have hl := hr.len
  have h8 := h.fit.len
  have h1 := h.one
  rw [hf] at hl
  have po := pools_of h hr hf hp
  have so := slopes_of h hr hf hp
  have nd := needch_run h
  have ra' := rates_run' h.one h.fit.len
  have lr := lrates_run h.one h.fit.len
  have lw := lrow_run h hr hf
  have ln : lenW [odds s p0 its] = .ok (.int ((its.length : Int) + 1)) := by simp
  have sb : ((its.length : Int) + 1 - 1) = (its.length : Int) := by omega
  obtain ⟨t1, r1⟩ := repr_is (sh_odds h) (by decide) (by decide)
  have shp : Sh 40000 3 (.tup ((pos 1 bs).map prW)) := sh_rows (by rw [List.length_map, pos_len]; omega) fun w hw => by
    obtain ⟨x, hx, rfl⟩ := List.mem_map.mp hw
    obtain ⟨m1, pre, post, m2, m3⟩ := pos_mem bs 1 x hx
    have e := congrArg List.length m2
    rw [hf, List.length_append, List.length_append] at e
    exact sh_fr (by unfold S; omega) (by unfold S; omega)
  have fitb : ∀ x ∈ pos 1 bs, Fit x.2 ∧ 0 < sC x.2 := fun x hx => by
    obtain ⟨m1, pre, post, m2, m3⟩ := pos_mem bs 1 x hx
    have fit := h.fit
    rw [← hf, m2] at fit
    exact ⟨fit.left.right, (hr.good _ m1).c⟩
  have shs : Sh 40000 3 (.tup ((pos 1 bs).map fun x => sl s x.2)) := sh_rows (by rw [List.length_map, pos_len]; omega) fun w hw => by
    obtain ⟨x, hx, rfl⟩ := List.mem_map.mp hw
    obtain ⟨f1, f2⟩ := fitb x hx
    exact sh_ra (sl_s1 f1) (sl_s2 h.b f1)
  have shr : Sh 40000 3 (.tup (rs (cs its.length))) := sh_rows (by simp; omega) fun w hw => by
    rw [h.rows] at hw
    obtain ⟨x, hx, rfl⟩ := List.mem_map.mp hw
    have := h.fit.each x hx
    exact sh_ra (by unfold S; omega) (s840.mono (by decide))
  obtain ⟨t2, r2⟩ := repr_is (sh_four shp shs shr (sh_odds h)) (by decide) (by decide)
  have hz : sizeOk ((pos 1 bs).map prW) = true := size_small (by rw [List.length_map, pos_len]; omega)
  have c1 : ∀ ρ : En, ρ = [.val (odds s p0 its), .val (.str t1), .val (.tup ((pos 1 bs).map prW)), .un, .un, .un, .un, .un, .un, .un] → compL (goTup 2 (goCons (goName 6) (goCons (goName 7) goNil))) fYes (fL (fCons (gV 0) (fCons (gV 6) (fCons (gV 7) fNil))) F__law_slope) ρ ((pos 1 bs).map prW) = .ok ((pos 1 bs).map fun x => sl s x.2) := fun ρ hρ => by
    subst hρ
    refine compL_map _ _ _ fun x hx => ⟨_, rfl, rfl, ?_⟩
    obtain ⟨m1, pre, post, m2, m3⟩ := pos_mem bs 1 x hx
    have ls := lslope_run h (by rw [← hf]; exact m2) (hr.good _ m1).ne (f := (x.1 : Int)) (l := (x.1 : Int) + (x.2.length : Int) - 1) (by omega) (by omega)
    simp only [fL_eq, fCons_eq, fNil_eq, gV_eq, List.set_cons_succ, List.set_cons_zero, List.getElem?_cons_succ, List.getElem?_cons_zero, T.bind_ok, ls]
  have zt : ∀ ws : List PF.W, zpW [.tup ws, .tup (ws.drop 1)] = .ok ((List.range (ws.length - 1)).map fun i => PF.W.tup [ws.getD i .non, ws.getD (i + 1) .non]) := fun ws => by
    rw [← zip_next]
    rfl
  have hz2 : sizeOk ((List.range (((pos 1 bs).map fun x => sl s x.2).length - 1)).map fun i => PF.W.tup [((pos 1 bs).map fun x => sl s x.2).getD i .non, ((pos 1 bs).map fun x => sl s x.2).getD (i + 1) .non]) = true := size_small (by simp [pos_len]; omega)
  have c2 : ∀ (x : Sl) (ρ : En), ρ = [.val (odds s p0 its), .val (.str t1), .val (.tup ((pos 1 bs).map prW)), .val (.tup ((pos 1 bs).map fun x => sl s x.2)), .un, .un, .un, .un, .un, .un] → compL (goTup 2 (goCons (goName 8) (goCons (goName 9) goNil))) (fNot (fTru (fL (fCons (gV 8) (fCons (gV 9) fNil)) F__law_under))) (fun _ => .ok (.int 1)) ρ ((List.range (((pos 1 bs).map fun x => sl s x.2).length - 1)).map fun i => PF.W.tup [((pos 1 bs).map fun x => sl s x.2).getD i .non, ((pos 1 bs).map fun x => sl s x.2).getD (i + 1) .non]) = .ok [] := fun x ρ hρ => by
    subst hρ
    have := compL_filter (G := goTup 2 (goCons (goName 8) (goCons (goName 9) goNil))) (tt := fNot (fTru (fL (fCons (gV 8) (fCons (gV 9) fNil)) F__law_under))) (fe := fun _ => .ok (.int 1)) (ρ := [.val (odds s p0 its), .val (.str t1), .val (.tup ((pos 1 bs).map prW)), .val (.tup ((pos 1 bs).map fun x => sl s x.2)), .un, .un, .un, .un, .un, .un]) (fun i => PF.W.tup [((pos 1 bs).map fun x => sl s x.2).getD i .non, ((pos 1 bs).map fun x => sl s x.2).getD (i + 1) .non]) (fun _ => .int 1) (fun _ => false) (List.range (((pos 1 bs).map fun x => sl s x.2).length - 1)) fun i hi => ⟨_, rfl, ?_, fun q => by cases q⟩
    · rw [this]
      simp
    · have hi := List.mem_range.mp hi
      rw [List.length_map] at hi
      have q1 : (pos 1 bs)[i]? = some (pos 1 bs)[i] := List.getElem?_eq_getElem (by omega)
      have q2 : (pos 1 bs)[i + 1]? = some (pos 1 bs)[i + 1] := List.getElem?_eq_getElem (by omega)
      have d1 : ((pos 1 bs).map fun x => sl s x.2).getD i .non = sl s (pos 1 bs)[i].2 := by simp [List.getD_eq_getElem?_getD, q1]
      have d2 : ((pos 1 bs).map fun x => sl s x.2).getD (i + 1) .non = sl s (pos 1 bs)[i + 1].2 := by simp [List.getD_eq_getElem?_getD, q2]
      obtain ⟨f1, f2⟩ := fitb _ (List.getElem_mem (l := pos 1 bs) (n := i) (by omega))
      obtain ⟨g1, g2⟩ := fitb _ (List.getElem_mem (l := pos 1 bs) (n := i + 1) (by omega))
      have lt := pairs_none bs 1 hr.asc i (pos 1 bs)[i].2 (pos 1 bs)[i + 1].2 (by simp [q1]) (by simp [q2])
      have un := lunder_sl h.b f1 g1 f2 g2
      rw [decide_eq_true lt] at un
      rw [d1, d2]
      simp only [fNot_eq, fTru_eq, fL_eq, fCons_eq, fNil_eq, gV_eq, List.set_cons_succ, List.set_cons_zero, List.getElem?_cons_succ, List.getElem?_cons_zero, T.bind_ok, un, truW_bl, Bool.not_true]
  have rg : rng1 [.int 2] = .ok [.int 0, .int 1] := by kernel_rfl
  have cz : ∀ ws : List PF.W, slW (.tup ws) (some 1) none = .ok (.tup (ws.drop 1)) := fun ws => by
    show T.ok (PF.W.tup (cutW ws _ _)) = _
    rw [cut_one]
  have c1 := c1 _ rfl
  have c2 := c2 .un _ rfl
  have nn : neS (.lst []) (.lst []) = .ok (.bl false) := by kernel_rfl
  have pi : ∀ i : Int, pInt (.int i) = .ok i := fun _ => rfl
  have zt := zt ((pos 1 bs).map fun x => sl s x.2)
  have cz := cz ((pos 1 bs).map fun x => sl s x.2)
  clear shp shs shr fitb
  generalize hR : rs (cs its.length) = R' at *
  generalize hO : odds s p0 its = O at *
  generalize hL1 : (pos 1 bs).map prW = L1 at *
  generalize hL2 : ((pos 1 bs).map fun x => sl s x.2) = L2 at *
  generalize hL3 : ((List.range (L2.length - 1)).map fun i => PF.W.tup [L2.getD i .non, L2.getD (i + 1) .non]) = L3 at *
  generalize hL4 : L2.drop 1 = L4 at *
  unfold F__law_right
  rw [defF_eq _ _ _ _ rfl]
  have st : startE 10 [O] = [.val O, .un, .un, .un, .un, .un, .un, .un, .un, .un] := rfl
  rw [st]
  simp only [sSeq_eq, sPar, fCons_eq, fNil_eq, fL_eq, gV_eq, List.getElem?_cons_succ, List.getElem?_cons_zero, T.bind_ok, r1, lw, tupOfW_lst, List.set_cons_succ, List.set_cons_zero, sSet_eq, fComp_eq, iOf_eq, tupW, hz, if_true, wipeE, c1]
  simp only [sSeq_eq, fCons_eq, fNil_eq, fL_eq, gV_eq, List.getElem?_cons_succ, List.getElem?_cons_zero, T.bind_ok, List.set_cons_succ, List.set_cons_zero, sIf_eq, fBl_eq, f2_eq, fComp_eq, iL_eq, fSl_eq, pSome_eq, pNo_eq, pi, cz, zt, hz2, if_true, wipeE, c2, mkLst_eq, sizeOk_nil, nn, blW, Bool.false_eq_true, if_false, sNil_eq, sFor_eq, rg]
  simp only [forL, goName_eq, sSeq_eq, fCons_eq, fNil_eq, fL_eq, gV_eq, List.getElem?_cons_succ, List.getElem?_cons_zero, T.bind_ok, List.set_cons_succ, List.set_cons_zero, sSet_eq, po, so, f2_eq, ln, subW_int, sb, ra', nd, mkLst_eq, sizeOk_4, if_true, sIf_eq, fBl_eq, r2, lr, tupOfW_lst, neS_str, blW, Bool.false_eq_true, if_false, sNil_eq, sRet_eq, r1, eqS_str, endOf]
end
end Lw
namespace Lw
open PySem L2 PF Rt
theorem sI_sum : ∀ ns : List Int, ns.sum = sI ns
  | [] => rfl
  | n :: ns => by simp [sI, sI_sum ns]
theorem cst_pos {n i : Nat} (h1 : 1 ≤ n) (h8 : n ≤ 8) (h : i < n) : 0 < cst n i := by
  have hi : i = 0 ∨ i = 1 ∨ i = 2 ∨ i = 3 ∨ i = 4 ∨ i = 5 ∨ i = 6 ∨ i = 7 := by omega
  rcases hi with rfl | rfl | rfl | rfl | rfl | rfl | rfl | rfl <;> rcases eight h1 h8 with rfl | rfl | rfl | rfl | rfl | rfl | rfl | rfl <;> first | omega | (unfold cst; decide)
theorem sI_b : ∀ {ns : List Int} {c : Int}, (∀ p ∈ ns, 0 ≤ p ∧ p ≤ c) → 0 ≤ sI ns ∧ sI ns ≤ c * ns.length
  | [], c, _ => by simp [sI]
  | x :: xs, c, h => by
    have h1 := h x (List.mem_cons_self ..)
    have h2 := sI_b (ns := xs) (c := c) fun y hy => h y (List.mem_cons_of_mem _ hy)
    simp only [sI, List.length_cons, Int.natCast_add, Int.mul_add]
    omega
theorem sI_nn : ∀ {ns : List Int}, (∀ p ∈ ns, 0 ≤ p) → 0 ≤ sI ns
  | [], _ => Int.le_refl _
  | a :: as, h => by
    have h1 := h a (List.mem_cons_self ..)
    have h2 := sI_nn fun p hp => h p (List.mem_cons_of_mem a hp)
    simp only [sI]
    omega
theorem sI_mem : ∀ {ns : List Int} {x : Int}, (∀ p ∈ ns, 0 ≤ p) → x ∈ ns → x ≤ sI ns
  | [], x, _, h => by cases h
  | y :: ys, x, h, hx => by
    have h1 := h y (List.mem_cons_self ..)
    have h3 := sI_nn fun p hp => h p (List.mem_cons_of_mem y hp)
    simp only [sI]
    rcases List.mem_cons.mp hx with rfl | hx
    · omega
    · have := sI_mem (fun p hp => h p (List.mem_cons_of_mem _ hp)) hx
      omega
/-- parts of their sum, the sum above nought, are chances -/
theorem ch_of {p0 : Int} {ns : List Int} (h1 : 1 ≤ ns.length) (h8 : ns.length ≤ 8) (hp : ∀ p ∈ p0 :: ns, 0 ≤ p ∧ p ≤ 40) (hs : 0 < sI (p0 :: ns)) : Ch (sI (p0 :: ns)) p0 (ns.zip (cs ns.length)) := by
  have lc : (cs ns.length).length = ns.length := by simp
  have lz : (ns.zip (cs ns.length)).length = ns.length := by simp
  have m1 : (ns.zip (cs ns.length)).map Prod.fst = ns := List.map_fst_zip (by omega)
  have m2 : (ns.zip (cs ns.length)).map Prod.snd = cs ns.length := List.map_snd_zip (by omega)
  have b := sI_b hp
  refine ⟨⟨hs, ?_⟩, ⟨by omega, fun x hx => ?_⟩, by omega, ?_, ?_, by rw [m2, lz]⟩
  · rw [List.length_cons] at b
    unfold S
    omega
  · have f1 : x.1 ∈ ns := by
      rw [← m1]
      exact List.mem_map_of_mem hx
    have f2 : x.2 ∈ cs ns.length := by
      rw [← m2]
      exact List.mem_map_of_mem hx
    obtain ⟨i, hi, e⟩ := List.mem_map.mp f2
    have hi := List.mem_range.mp hi
    have c1 := cst_pos h1 h8 hi
    have c2 := cst_b h1 h8 hi
    have := hp x.1 (List.mem_cons_of_mem _ f1)
    rw [← e]
    omega
  · have := hp p0 (List.mem_cons_self ..)
    omega
  · rw [sP_is, m1]
    rfl
def odE (n : Nat) (D : Nat) (ws : List PF.W) (d : Nat) (ρ : En) : Prop := ∃ (ns : List Int) (x3 : Sl), ns.length + ws.length = n ∧ ρ = [.val .stt, .val (.int 8), .own (ns.map PF.W.int), x3, .un, .un] ∧ (∀ p ∈ ns, 0 ≤ p ∧ p ≤ 39) ∧ D + 2 * ws.length ≤ d
theorem od_step {n : Nat} (h9 : n ≤ 9) {D : Nat} {E : Nat → Nat → List PF.W → Prop} (u : PF.W) (ws : List PF.W) (d : Nat) (ρ : En) (hI : odE n D (u :: ws) d ρ) : ∃ ρ1, goName 3 u ρ = some ρ1 ∧ ((sApp 2 (fCons (fL (fCons (gV 0) (fCons (fL (fCons (fun _ => .ok (.int 0)) (fCons (fun _ => .ok (.int 1)) (fCons (fun _ => .ok (.int 1)) (fCons (fun _ => .ok (.int 2)) (fCons (fun _ => .ok (.int 5)) (fCons (fL (fCons (gV 0) (fCons (fun _ => .ok (.int 40)) fNil)) F__law_draw) fNil)))))) mkLst) fNil)) F__law_of) fNil)) ρ1).AllB (fun d x => ∃ ρ2, x = (.nx, ρ2) ∧ odE n D ws d ρ2) E d := by
  obtain ⟨ns, x3, hl, rfl, hp, hd⟩ := hI
  rw [List.length_cons] at hl hd
  refine ⟨_, rfl, ?_⟩
  have rk : roomOk (ns.map PF.W.int) = true := room_is (by rw [List.length_map]; omega)
  have z6 : ∀ a b c d e f : PF.W, sizeOk [a, b, c, d, e, f] = true := fun _ _ _ _ _ _ => sizeOk_is (by simp)
  have of : ∀ x : Int, F__law_of [.stt, .lst [.int 0, .int 1, .int 1, .int 2, .int 5, .int x]] = .ask 6 fun i => ixW (.lst [.int 0, .int 1, .int 1, .int 2, .int 5, .int x]) (.int (i : Int)) := fun x => by
    unfold F__law_of
    rw [defF_eq _ _ _ _ rfl]
    have st : startE 2 [.stt, .lst [.int 0, .int 1, .int 1, .int 2, .int 5, .int x]] = [.val .stt, .val (.lst [.int 0, .int 1, .int 1, .int 2, .int 5, .int x])] := rfl
    have ln : lenW [.lst [.int 0, .int 1, .int 1, .int 2, .int 5, .int x]] = .ok (.int 6) := rfl
    rw [st]
    simp only [sRet_eq, f2_eq, fL_eq, fCons_eq, fNil_eq, gV_eq, List.getElem?_cons_succ, List.getElem?_cons_zero, T.bind_ok, ln, draw_is (n := 6) (by decide) (by decide), T.bind_ask]
    refine congrArg (T.ask 6) (funext fun i => ?_)
    simp only [ixW]
    split <;> rfl
  simp only [sApp, List.getElem?_cons_succ, List.getElem?_cons_zero, List.set_cons_succ, List.set_cons_zero, fL_eq, fCons_eq, fNil_eq, gV_eq, T.bind_ok, draw_is (n := 40) (by decide) (by decide), T.bind_ask, mkLst_eq, z6, if_true, of]
  refine ask_all (by omega) fun j hj => ask_all (by omega) fun i hi => ?_
  have hj : j < 40 := hj
  have hi : i < 6 := hi
  have fin : ∀ y : Int, 0 ≤ y → y ≤ 39 → ∃ ρ2, (Fl.nx, ([.val .stt, .val (.int 8), .own (ns.map PF.W.int ++ [.int y]), .val u, .un, .un] : En)) = (Fl.nx, ρ2) ∧ odE n D ws (d - 1 - 1) ρ2 := fun y a b => by
    refine ⟨_, rfl, ns ++ [y], .val u, by simp; omega, by simp, fun p hp' => ?_, by omega⟩
    rcases List.mem_append.mp hp' with q | q
    · exact hp p q
    · rw [List.mem_singleton.mp q]
      omega
  have : i = 0 ∨ i = 1 ∨ i = 2 ∨ i = 3 ∨ i = 4 ∨ i = 5 := by omega
  have x0 : ∀ y : Int, ixW (.lst [.int 0, .int 1, .int 1, .int 2, .int 5, .int y]) (.int ((0 : Nat) : Int)) = .ok (.int 0) := fun _ => rfl
  have x1 : ∀ y : Int, ixW (.lst [.int 0, .int 1, .int 1, .int 2, .int 5, .int y]) (.int ((1 : Nat) : Int)) = .ok (.int 1) := fun _ => rfl
  have x2 : ∀ y : Int, ixW (.lst [.int 0, .int 1, .int 1, .int 2, .int 5, .int y]) (.int ((2 : Nat) : Int)) = .ok (.int 1) := fun _ => rfl
  have x3 : ∀ y : Int, ixW (.lst [.int 0, .int 1, .int 1, .int 2, .int 5, .int y]) (.int ((3 : Nat) : Int)) = .ok (.int 2) := fun _ => rfl
  have x4 : ∀ y : Int, ixW (.lst [.int 0, .int 1, .int 1, .int 2, .int 5, .int y]) (.int ((4 : Nat) : Int)) = .ok (.int 5) := fun _ => rfl
  have x5 : ∀ y : Int, ixW (.lst [.int 0, .int 1, .int 1, .int 2, .int 5, .int y]) (.int ((5 : Nat) : Int)) = .ok (.int y) := fun _ => rfl
  rcases this with e | e | e | e | e | e <;> rw [e]
  · simp only [x0, T.bind_ok, rk, if_true]
    exact fin _ (by omega) (by omega)
  · simp only [x1, T.bind_ok, rk, if_true]
    exact fin _ (by omega) (by omega)
  · simp only [x2, T.bind_ok, rk, if_true]
    exact fin _ (by omega) (by omega)
  · simp only [x3, T.bind_ok, rk, if_true]
    exact fin _ (by omega) (by omega)
  · simp only [x4, T.bind_ok, rk, if_true]
    exact fin _ (by omega) (by omega)
  · simp only [x5, T.bind_ok, rk, if_true]
    exact fin _ (by omega) (by omega)
theorem odds_all {P : Nat → PF.W → Prop} {E : Nat → Nat → List PF.W → Prop} {d : Nat} (hd : 30 ≤ d) (hP : ∀ s p0 its d', Ch s p0 its → d ≤ d' + 30 → P d' (odds s p0 its)) : (F__law_odds [.stt, .int 8]).AllB P E d := by
  unfold F__law_odds
  rw [defF_eq _ _ _ _ rfl]
  have st : startE 6 [.stt, .int 8] = [.val .stt, .val (.int 8), .un, .un, .un, .un] := rfl
  rw [st]
  refine T.allB_bind.mpr ?_
  simp only [sSeq_eq, sOwn, fNil_eq, T.bind_ok, sizeOk_nil, if_true, List.set_cons_succ, List.set_cons_zero, sFor_eq, iL_eq, fCons_eq, f2_eq, fL_eq, gV_eq, List.getElem?_cons_succ, List.getElem?_cons_zero, draw_is (n := 8) (by decide) (by decide), T.bind_ask, addW_int]
  refine ask_all (by omega) fun m hm => ?_
  have hm : m < 8 := hm
  rw [rng1_is (by omega) (by omega), T.bind_ok]
  refine T.allB_bind.mpr ?_
  have en : (2 + (m : Int)).toNat = m + 2 := by omega
  rw [en]
  have i0 : odE (m + 2) (d - 1 - 20) (PF.intsFrom 0 (m + 2)) (d - 1) [.val .stt, .val (.int 8), .own [], .un, .un, .un] := ⟨[], .un, by rw [ints_len]; simp, rfl, fun p hp => (by cases hp), by rw [ints_len]; omega⟩
  have key := forL_all (E := E) (odE (m + 2) (d - 1 - 20)) (od_step (by omega)) (PF.intsFrom 0 (m + 2)) (d - 1) _ i0
  refine T.AllB.imp (fun d1 x hx => ?_) (fun _ _ _ y => y) key
  obtain ⟨ρ2, ex, ns, x3, hl, eρ, hp, hd1⟩ := hx
  rw [ex, eρ]
  rw [List.length_nil] at hl hd1
  clear key i0
  have ln : lenW [.lst (ns.map PF.W.int)] = .ok (.int (ns.length : Int)) := by simp
  simp only [onFrz, frz, List.getElem?_cons_succ, List.getElem?_cons_zero, List.set_cons_succ, List.set_cons_zero, sSet_eq, fL_eq, fCons_eq, fNil_eq, gV_eq, T.bind_ok, ln, flat, draw_is (n := (ns.length : Int)) (by omega) (by omega), T.bind_ask]
  refine ask_all (by omega) fun a ha => ?_
  have ha : a < ns.length := by omega
  have ga : (ns.map PF.W.int)[a]? = some (.int ns[a]) := by simp [ha]
  have ix : ixW (.lst (ns.map PF.W.int)) (.int (a : Int)) = .ok (.int ns[a]) := by
    have e : atI (ns.map PF.W.int) (a : Int) = some (.int ns[a]) := by
      have g1 : (a : Int) < (ns.length : Int) := by omega
      simp [atI, ixN, g1, ha]
    simp [ixW, e]
  have ixn : ixN (ns.map PF.W.int).length (a : Int) = some a := by
    have g1 : (a : Int) < (ns.length : Int) := by omega
    simp [ixN, g1]
  simp only [T.bind_ok, sAt, List.getElem?_cons_succ, List.getElem?_cons_zero, List.set_cons_succ, List.set_cons_zero, f2_eq, gV_eq, ix, flat, addW_int, ixn]
  have hq := hp ns[a] (List.getElem_mem ha)
  have es : (ns.map PF.W.int).set a (.int (ns[a] + 1)) = (ns.set a (ns[a] + 1)).map PF.W.int := by rw [List.map_set]
  rw [es]
  have hp' : ∀ p ∈ ns.set a (ns[a] + 1), 0 ≤ p ∧ p ≤ 40 := fun p hp1 => by
    rcases List.mem_or_eq_of_mem_set hp1 with q | q
    · have := hp p q
      omega
    · omega
  have big : 1 ≤ sI (ns.set a (ns[a] + 1)) := by
    have : ns[a] + 1 ∈ ns.set a (ns[a] + 1) := List.mem_set ha _
    have := sI_mem (fun p q => (hp' p q).1) this
    omega
  have hl' : (ns.set a (ns[a] + 1)).length = m + 2 := by rw [List.length_set]; omega
  generalize ns.set a (ns[a] + 1) = qs at hp' big hl' es
  clear es
  obtain ⟨p0, q1, rfl⟩ : ∃ p0 q1, qs = p0 :: q1 := by
    cases qs with
    | nil => simp at hl'
    | cons p0 q1 => exact ⟨p0, q1, rfl⟩
  rw [List.length_cons] at hl'
  have ch := ch_of (p0 := p0) (ns := q1) (by omega) (by omega) hp' (by omega)
  have hz : sizeOk ((p0 :: q1).map PF.W.int) = true := size_small (by simp; omega)
  have sm : sumW [.lst ((p0 :: q1).map PF.W.int)] = .ok (.int (sI (p0 :: q1))) := by rw [sumW_lst, sI_sum]
  have c : compL (goName 5) fYes (fL (fCons (gV 5) (fCons (fL (fCons (gV 2) fNil) sumW) fNil)) F__law_ratio) [.val .stt, .val (.int 8), .val (.lst ((p0 :: q1).map PF.W.int)), x3, .val (.int (a : Int)), .un] ((p0 :: q1).map PF.W.int) = .ok ((p0 :: q1).map fun p => ra p (sI (p0 :: q1))) := by
    refine compL_map _ _ _ fun p hp1 => ⟨_, rfl, rfl, ?_⟩
    have lr := lrat_run (t := p) (b := sI (p0 :: q1)) (by omega) (ch.b.top.mono (by decide))
    simp only [fL_eq, fCons_eq, fNil_eq, gV_eq, List.set_cons_succ, List.set_cons_zero, List.getElem?_cons_succ, List.getElem?_cons_zero, T.bind_ok, sm, lr]
  have eo : PF.W.tup ((p0 :: q1).map fun p => ra p (sI (p0 :: q1))) = odds (sI (p0 :: q1)) p0 (q1.zip (cs q1.length)) := by
    have m1 : (q1.zip (cs q1.length)).map Prod.fst = q1 := List.map_fst_zip (by simp)
    show _ = PF.W.tup (ra p0 _ :: ras _ ((q1.zip (cs q1.length)).map Prod.fst))
    rw [m1]
    rfl
  generalize hL : (p0 :: q1).map PF.W.int = L at *
  simp only [onFrz, frz, List.getElem?_cons_succ, List.getElem?_cons_zero, List.set_cons_succ, List.set_cons_zero, sRet_eq, fL_eq, fCons_eq, fNil_eq, gV_eq, T.bind_ok, fComp_eq, iOf_eq, lstW, hz, if_true, wipeE, c, tupOfW_lst, endOf]
  rw [eo]
  exact hP _ _ _ _ ch (by omega)
end Lw
namespace Lw
open PySem L2 PF Rt
section
variable {n : Nat} {f : Nat → Int}
theorem needst_run (h : Stair n f) : F_need_stair [.tup (J n f)] = .ok .non := by
  have sr := stair_run h
  unfold F_need_stair
  rw [defF_eq _ _ _ _ rfl]
  have st : startE 1 [.tup (J n f)] = [.val (.tup (J n f))] := rfl
  rw [st]
  simp only [sIf_eq, fNot_eq, fTru_eq, fL_eq, fCons_eq, fNil_eq, gV_eq, List.getElem?_cons_zero, T.bind_ok, sr, truW_bl, Bool.not_true, Bool.false_eq_true, if_false, sNil_eq, endOf]
theorem priceof_run (h : Stair n f) : F_price_of [.tup (J n f)] = .ok (q8 (pr n f)) := by
  have nr := needst_run h
  have p := price_run h
  unfold F_price_of
  rw [defF_eq _ _ _ _ rfl]
  have st : startE 1 [.tup (J n f)] = [.val (.tup (J n f))] := rfl
  rw [st]
  simp only [sSeq_eq, sExpr_eq, sRet_eq, fL_eq, fCons_eq, fNil_eq, gV_eq, List.getElem?_cons_zero, T.bind_ok, nr, p, endOf]
theorem times_run {c x : Int} (sc : S 100 c) (sx : S 100 x) : F__law_times [ra c 840, .tup [.int x, .int 1]] = .ok (q8 (x * c)) := by
  have f := fr_nrm (t := c) p840
  have o : mulOk (num c 840) x = true := (S.num (b := 840) sc).ok sx (by decide)
  have o2 : mulOk (den c 840) 1 = true := (S.den (t := c) s840).ok (show S 10 1 by unfold S; decide) (by decide)
  have y := cross (t := c) (b := 840)
  have e : F__law_times [ra c 840, .tup [.int x, .int 1]] = F__law_ratio [.int (num c 840 * x), .int (den c 840 * 1)] := by
    have lr := lrat_run (t := num c 840 * x) (b := den c 840 * 1) (by have := f.1; omega) (by rw [Int.mul_one]; exact (S.den (t := c) s840).mono (by decide))
    rw [lr]
    simp [F__law_times, defF, startE, endOf, ix0, ix1, o, o2] at lr ⊢
    rw [lr]
    rfl
  rw [e, lrat_run (by have := f.1; omega) (by rw [Int.mul_one]; exact (S.den (t := c) s840).mono (by decide))]
  exact congrArg T.ok (ra_is (by have := f.1; omega) p840 (by grind))
theorem lprc_run (h : Stair n f) : F__law_price [.tup (J n f)] = .ok (q8 (pr n f)) := by
  have h1 := h.one
  have h8 := h.eight
  have lr := lrates_run h1 h8
  have ln : lenW [.tup (J n f)] = .ok (.int (n : Int)) := by simp
  have zz : zipF (rs (cs n)) (J n f) = (List.range n).map fun i => PF.W.tup [ra (cst n i) 840, .int (f i)] := by
    refine List.ext_getElem (by simp [zipF_length]) fun i a1 a2 => ?_
    obtain ⟨w, u, e1, e2, e3⟩ := zipF_get _ _ i _ (List.getElem?_eq_getElem a1)
    have hi : i < n := by simpa using a2
    rw [e3]
    simp [hi] at e1 e2
    simp [← e1, ← e2]
  have zb : zbW [.lst (rs (cs n)), .tup (J n f)] = .ok ((List.range n).map fun i => PF.W.tup [ra (cst n i) 840, .int (f i)]) := by
    rw [← zz]
    rfl
  have hz : sizeOk ((List.range n).map fun i => PF.W.tup [ra (cst n i) 840, .int (f i)]) = true := size_small (by simp; omega)
  have c : compL (goTup 2 (goCons (goName 2) (goCons (goName 3) goNil))) fYes (fL (fCons (gV 2) (fCons (fL (fCons (gV 3) (fCons (fun _ => .ok (.int 1)) fNil)) mkTup) fNil)) F__law_times) [.val (.tup (J n f)), .un, .un, .un] ((List.range n).map fun i => PF.W.tup [ra (cst n i) 840, .int (f i)]) = .ok (Q n f n) := by
    refine compL_map _ _ _ fun i hi => ⟨_, rfl, rfl, ?_⟩
    have hi := List.mem_range.mp hi
    have b := cst_b h1 h8 hi
    have l := h.low i hi
    have t := h.top i hi
    have tr := times_run (c := cst n i) (x := f i) (by unfold S; omega) (by unfold S; omega)
    simp only [fL_eq, fCons_eq, fNil_eq, gV_eq, List.set_cons_succ, List.set_cons_zero, List.getElem?_cons_succ, List.getElem?_cons_zero, T.bind_ok, mkTup_eq, sizeOk_2, if_true, tr]
  obtain ⟨z, sg⟩ := sum_go h F__law_plus (fun a b x y => laddq x y) (.val (.lst (Q n f n))) n 0 .un (by omega)
  have sr : F__law_sum [.lst (Q n f n)] = .ok (q8 (pr n f)) := by
    rw [List.drop_zero, Nat.zero_add] at sg
    have z0 : PF.W.tup [.int 0, .int 1] = q8 (prS n f 0) := by
      show _ = q8 0
      rw [q8_0]
    unfold F__law_sum
    rw [defF_eq _ _ _ _ rfl]
    have st : startE 3 [.lst (Q n f n)] = [.val (.lst (Q n f n)), .un, .un] := rfl
    rw [st]
    simp only [sSeq_eq, sSet_eq, fL_eq, fCons_eq, fNil_eq, mkTup_eq, sizeOk_2, if_true, T.bind_ok, List.set_cons_succ, List.set_cons_zero, sFor_eq, iOf_eq, gV_eq, List.getElem?_cons_succ, List.getElem?_cons_zero, lstW]
    rw [z0, sg]
    simp only [T.bind_ok, sRet_eq, gV_eq, List.getElem?_cons_succ, List.getElem?_cons_zero, endOf]
  unfold F__law_price
  rw [defF_eq _ _ _ _ rfl]
  have st : startE 4 [.tup (J n f)] = [.val (.tup (J n f)), .un, .un, .un] := rfl
  rw [st]
  simp only [sSeq_eq, sSet_eq, sRet_eq, fComp_eq, iL_eq, fL_eq, fCons_eq, fNil_eq, gV_eq, List.getElem?_cons_succ, List.getElem?_cons_zero, T.bind_ok, ln, lr, zb, hz, if_true, wipeE, List.set_cons_succ, List.set_cons_zero, c, sr, endOf]
end
theorem low_q (v : Int) : low 2 (q8 v) := low_tup fun w hw => by
  simp only [List.mem_cons, List.not_mem_nil, or_false] at hw
  rcases hw with rfl | rfl <;> exact low_int _
/-- ints in their order are a stair -/
theorem stair_of {ns : List Int} (h1 : 1 ≤ ns.length) (h8 : ns.length ≤ 8) (hp : ∀ p ∈ ns, 0 ≤ p ∧ p ≤ 1000) (ha : ns.Pairwise (· ≤ ·)) : ∃ f, Stair ns.length f ∧ ns.map PF.W.int = J ns.length f := by
  have g : ∀ i, i < ns.length → ns.getD i 0 ∈ ns := fun i hi => by
    rw [List.getD_eq_getElem?_getD, List.getElem?_eq_getElem hi]
    exact List.getElem_mem hi
  refine ⟨fun i => ns.getD i 0, ⟨h1, h8, fun i hi => (hp _ (g i hi)).1, fun i hi => (hp _ (g i hi)).2, fun i hi => ?_⟩, ?_⟩
  · have q := List.pairwise_iff_getElem.mp ha i (i + 1) (by omega) hi (Nat.lt_succ_self i)
    simp only [List.getD_eq_getElem?_getD]
    rw [List.getElem?_eq_getElem (show i < ns.length by omega), List.getElem?_eq_getElem hi]
    exact q
  · refine List.ext_getElem (by simp) fun i a1 a2 => ?_
    have : i < ns.length := by simpa using a1
    simp [this]
def lwE (n D : Nat) (ws : List PF.W) (d : Nat) (ρ : En) : Prop := ∃ x2 x3 x4, ρ = [.val (.scr n), .val .stt, x2, x3, x4, .un, .un, .un, .un, .un, .un] ∧ D + 40 * ws.length ≤ d
theorem lw_step {n D : Nat} {E : Nat → Nat → List PF.W → Prop} (w : PF.W) (ws : List PF.W) (d : Nat) (ρ : En) (hI : lwE n D (w :: ws) d ρ) : ∃ ρ1, goName 2 w ρ = some ρ1 ∧ ((sSeq (sSet 3 (fL (fCons (gV 1) (fCons (fun _ => .ok (.int 8)) fNil)) F__law_odds)) (sSeq (sIf (fNot (fTru (fL (fCons (gV 3) fNil) F__law_right))) (sRet (fun _ => .ok (.bl false))) sNil) (sSeq (sSet 4 (fL (fCons (fL (fCons (fComp [10] (iOf tupW (fSl (gV 3) (pSome (fun _ => .ok (.int 1))) pNo)) (goName 10) fYes (fL (fCons (gV 1) (fCons (fun _ => .ok (.int 30)) fNil)) F__law_draw)) fNil) sortedI) fNil) tupOfW)) (sIf (fBl (f2 neS (fL (fCons (gV 4) fNil) F_price_of) (fL (fCons (gV 4) fNil) F__law_price))) (sRet (fun _ => .ok (.bl false))) sNil)))) ρ1).AllB (fun d x => ∃ ρ2, x = (.nx, ρ2) ∧ lwE n D ws d ρ2) E d := by
  obtain ⟨x2, x3, x4, rfl, hd⟩ := hI
  rw [List.length_cons] at hd
  refine ⟨_, rfl, ?_⟩
  simp only [sSeq_eq, sSet_eq, fL_eq, fCons_eq, fNil_eq, gV_eq, List.set_cons_succ, List.set_cons_zero, List.getElem?_cons_succ, List.getElem?_cons_zero, T.bind_ok, T.bind_assoc]
  refine T.allB_bind.mpr (odds_all (by omega) fun s p0 its d1 ch hd1 => ?_)
  have lr := lright_run ch
  have o1 := ch.one
  have o8 := ch.fit.len
  have ct : slW (odds s p0 its) (some 1) none = .ok (.tup (ras s (its.map Prod.fst))) := by
    show T.ok (PF.W.tup (cutW _ _ _)) = _
    rw [cut_one]
    rfl
  have pi : ∀ i : Int, pInt (.int i) = .ok i := fun _ => rfl
  have hz : sizeOk (ras s (its.map Prod.fst)) = true := size_small (by simp; omega)
  have em : ras s (its.map Prod.fst) = (List.range its.length).map fun i => (ras s (its.map Prod.fst)).getD i .non := by
    refine List.ext_getElem (by simp) fun i a1 a2 => ?_
    have : i < its.length := by simpa using a1
    simp [this]
  simp only [T.bind_ok, List.set_cons_succ, List.set_cons_zero, sSeq_eq, sIf_eq, fNot_eq, fTru_eq, fL_eq, fCons_eq, fNil_eq, gV_eq, List.getElem?_cons_succ, List.getElem?_cons_zero, lr, truW_bl, Bool.not_true, Bool.false_eq_true, if_false, sNil_eq, sSet_eq, fComp_eq, iOf_eq, fSl_eq, pSome_eq, pNo_eq, pi, ct, tupW, hz, if_true, wipeE, T.bind_assoc]
  refine T.allB_bind.mpr ?_
  rw [em]
  refine compL_ints (fun _ x => 0 ≤ x ∧ x ≤ 29) 1 (fun a ha => ⟨_, rfl, rfl, fun Q d hd hQ => ?_⟩) (by omega) fun f d2 hf hd2 => ?_
  · simp only [fL_eq, fCons_eq, fNil_eq, gV_eq, List.set_cons_succ, List.set_cons_zero, List.getElem?_cons_succ, List.getElem?_cons_zero, T.bind_ok, draw_is (n := 30) (by decide) (by decide), noX_ask, noX_ok']
    refine ask_all (by omega) fun i hi => ?_
    have hi : i < 30 := hi
    exact hQ _ _ (by omega) (by omega)
  · have ef : ((List.range its.length).map fun i => PF.W.int (f i)) = ((List.range its.length).map f).map PF.W.int := by rw [List.map_map]; rfl
    rw [ef]
    have pm := sortI_perm ((List.range its.length).map f)
    have lg : (sortI ((List.range its.length).map f)).length = its.length := by rw [pm.length_eq]; simp
    obtain ⟨g, sg, eg⟩ := stair_of (ns := sortI ((List.range its.length).map f)) (by omega) (by omega) (fun p hp => by
      obtain ⟨i, hi, rfl⟩ := List.mem_map.mp (pm.mem_iff.mp hp)
      have := hf i (List.mem_range.mp hi)
      omega) (sortI_asc _)
    have so : sortedI [.lst (((List.range its.length).map f).map PF.W.int)] = .ok (.lst (J (sortI ((List.range its.length).map f)).length g)) := by
      rw [← eg]
      simp only [sortedI, intsW_of]
    have p1 := priceof_run sg
    have p2 := lprc_run sg
    have ne := ne_same (low_q (pr (sortI ((List.range its.length).map f)).length g)) (by decide)
    simp only [T.bind_ok, so, tupOfW_lst, List.set_cons_succ, List.set_cons_zero, sIf_eq, fBl_eq, f2_eq, fL_eq, fCons_eq, fNil_eq, gV_eq, List.getElem?_cons_succ, List.getElem?_cons_zero, p1, p2, neS_tup, ne, blW, Bool.false_eq_true, if_false, sNil_eq]
    exact ⟨_, rfl, _, _, _, rfl, by omega⟩
theorem law_ends : LawEnds g_law 9 := fun n hn => by
  unfold g_law
  rw [sSeq_eq]
  refine T.allB_bind.mpr ?_
  rw [sFor_eq, iL_eq, fCons_eq, fNil_eq]
  have hr : ∃ k : Int, 0 ≤ k ∧ k ≤ 24 ∧ ((f2 addW (fun _ => .ok (.int 12)) (fL (fCons (fL (fCons (gV 0) fNil) lenW) (fCons (fun _ => .ok (.int 12)) fNil)) minW))) (lawE n 9) = .ok (.int k) := by
    refine ⟨12 + (if (12 : Int) < n then 12 else n), ?_, ?_, ?_⟩
    · split <;> omega
    · split <;> omega
    · simp [lawE]
      split <;> rfl
  obtain ⟨k, k0, k1, ke⟩ := hr
  rw [ke, T.bind_ok]
  simp only [T.bind_ok]
  rw [rng1_is (by omega) (by omega), T.bind_ok]
  have key := forL_all (E := fun _ _ _ => False) (lwE n 10) lw_step (PF.intsFrom 0 k.toNat) (2 ^ 60) (lawE n 9) ⟨_, _, _, rfl, by rw [ints_len]; omega⟩
  refine T.AllB.imp (fun d x hx => ?_) (fun _ _ _ y => y) key
  obtain ⟨ρ2, ex, x2, x3, x4, eρ, _⟩ := hx
  rw [ex, eρ]
  clear key ke
  exact law_tail (k := 0) (by kernel_rfl) (Nat.zero_le d)
end Lw
namespace Lw
open PySem PySem.Spec PyProof.Rows L2 PF
open He in
def fa : List Fa := [.glo "is_integer", .glo "common", .glo "made", .glo "is_fraction", .glo "add", .glo "div", .glo "is_under", .glo "sum_in", .glo "is_between", .glo "are_shares", .glo "is_chances", .glo "need_chances", .glo "rates_in", .glo "rates", .glo "pools_in", .glo "slope_of", .glo "pools", .glo "slopes", .glo "is_stair", .glo "need_stair", .glo "price_in", .glo "price_of", .glo "_law_mixed", .glo "_law_begin", .glo "_law_draw", .glo "_law_of", .glo "_law_ratio", .glo "_law_plus", .glo "_law_times", .glo "_law_over", .glo "_law_under", .glo "_law_sum", .glo "_law_odds", .glo "_law_rate_row", .glo "_law_slope", .glo "_law_pool_row", .glo "_law_price", .glo "_law_right", .glo "law", .glo "NOUGHT", .int "LEAST_MANY" 1, .int "MOST_MANY" 8, .glo "ALL", .int "MOST_LETTERS" 8, .int "MOST_STAIR" 1000, .free "list", .free "isinstance", .free "int", .free "bool", .free "abs", .free "tuple", .free "len", .free "all", .free "range", .free "enumerate", .free "zip", .free "sum", .free "repr", .free "min", .free "sorted"]
def d_is_integer : He.DefD := ⟨("is_integer", none), "is_integer", "is_integer", defArgs (top 7), defBody (top 7), sc_is_integer, [], []⟩
def d_common : He.DefD := ⟨("common", none), "common", "common", defArgs (top 8), defBody (top 8), sc_common, [], []⟩
def d_made : He.DefD := ⟨("made", none), "made", "made", defArgs (top 9), defBody (top 9), sc_made, [], []⟩
def d_is_fraction : He.DefD := ⟨("is_fraction", none), "is_fraction", "is_fraction", defArgs (top 10), defBody (top 10), sc_is_fraction, [], []⟩
def d_add : He.DefD := ⟨("add", none), "add", "add", defArgs (top 11), defBody (top 11), sc_add, [], []⟩
def d_div : He.DefD := ⟨("div", none), "div", "div", defArgs (top 12), defBody (top 12), sc_div, [], []⟩
def d_is_under : He.DefD := ⟨("is_under", none), "is_under", "is_under", defArgs (top 13), defBody (top 13), sc_is_under, [], []⟩
def d_sum_in : He.DefD := ⟨("sum_in", none), "sum_in", "sum_in", defArgs (top 14), defBody (top 14), sc_sum_in, [], []⟩
def d_is_between : He.DefD := ⟨("is_between", none), "is_between", "is_between", defArgs (top 16), defBody (top 16), sc_is_between, [], []⟩
def d_are_shares : He.DefD := ⟨("are_shares", none), "are_shares", "are_shares", defArgs (top 21), defBody (top 21), sc_are_shares, [], []⟩
def d_is_chances : He.DefD := ⟨("is_chances", none), "is_chances", "is_chances", defArgs (top 22), defBody (top 22), sc_is_chances, [], []⟩
def d_need_chances : He.DefD := ⟨("need_chances", none), "need_chances", "need_chances", defArgs (top 23), defBody (top 23), sc_need_chances, [], []⟩
def d_rates_in : He.DefD := ⟨("rates_in", none), "rates_in", "rates_in", defArgs (top 24), defBody (top 24), sc_rates_in, [], []⟩
def d_rates : He.DefD := ⟨("rates", none), "rates", "rates", defArgs (top 25), defBody (top 25), sc_rates, [], []⟩
def d_pools_in : He.DefD := ⟨("pools_in", none), "pools_in", "pools_in", defArgs (top 26), defBody (top 26), sc_pools_in, [], []⟩
def d_slope_of : He.DefD := ⟨("slope_of", none), "slope_of", "slope_of", defArgs (top 27), defBody (top 27), sc_slope_of, [], []⟩
def d_pools : He.DefD := ⟨("pools", none), "pools", "pools", defArgs (top 28), defBody (top 28), sc_pools, [], []⟩
def d_slopes : He.DefD := ⟨("slopes", none), "slopes", "slopes", defArgs (top 29), defBody (top 29), sc_slopes, [], []⟩
def d_is_stair : He.DefD := ⟨("is_stair", none), "is_stair", "is_stair", defArgs (top 33), defBody (top 33), sc_is_stair, [], []⟩
def d_need_stair : He.DefD := ⟨("need_stair", none), "need_stair", "need_stair", defArgs (top 34), defBody (top 34), sc_need_stair, [], []⟩
def d_price_in : He.DefD := ⟨("price_in", none), "price_in", "price_in", defArgs (top 36), defBody (top 36), sc_price_in, [], []⟩
def d_price_of : He.DefD := ⟨("price_of", none), "price_of", "price_of", defArgs (top 37), defBody (top 37), sc_price_of, [], []⟩
def d__law_mixed : He.DefD := ⟨("_law_mixed", none), "_law_mixed", "_law_mixed", defArgs (top 39), defBody (top 39), sc__law_mixed, [], []⟩
def d__law_begin : He.DefD := ⟨("_law_begin", none), "_law_begin", "_law_begin", defArgs (top 40), defBody (top 40), sc__law_begin, [], []⟩
def d__law_draw : He.DefD := ⟨("_law_draw", none), "_law_draw", "_law_draw", defArgs (top 41), defBody (top 41), sc__law_draw, [], []⟩
def d__law_of : He.DefD := ⟨("_law_of", none), "_law_of", "_law_of", defArgs (top 42), defBody (top 42), sc__law_of, [], []⟩
def d__law_ratio : He.DefD := ⟨("_law_ratio", none), "_law_ratio", "_law_ratio", defArgs (top 43), defBody (top 43), sc__law_ratio, [], []⟩
def d__law_plus : He.DefD := ⟨("_law_plus", none), "_law_plus", "_law_plus", defArgs (top 44), defBody (top 44), sc__law_plus, [], []⟩
def d__law_times : He.DefD := ⟨("_law_times", none), "_law_times", "_law_times", defArgs (top 45), defBody (top 45), sc__law_times, [], []⟩
def d__law_over : He.DefD := ⟨("_law_over", none), "_law_over", "_law_over", defArgs (top 46), defBody (top 46), sc__law_over, [], []⟩
def d__law_under : He.DefD := ⟨("_law_under", none), "_law_under", "_law_under", defArgs (top 47), defBody (top 47), sc__law_under, [], []⟩
def d__law_sum : He.DefD := ⟨("_law_sum", none), "_law_sum", "_law_sum", defArgs (top 48), defBody (top 48), sc__law_sum, [], []⟩
def d__law_odds : He.DefD := ⟨("_law_odds", none), "_law_odds", "_law_odds", defArgs (top 49), defBody (top 49), sc__law_odds, [], []⟩
def d__law_rate_row : He.DefD := ⟨("_law_rate_row", none), "_law_rate_row", "_law_rate_row", defArgs (top 50), defBody (top 50), sc__law_rate_row, [], []⟩
def d__law_slope : He.DefD := ⟨("_law_slope", none), "_law_slope", "_law_slope", defArgs (top 51), defBody (top 51), sc__law_slope, [], []⟩
def d__law_pool_row : He.DefD := ⟨("_law_pool_row", none), "_law_pool_row", "_law_pool_row", defArgs (top 52), defBody (top 52), sc__law_pool_row, [], []⟩
def d__law_price : He.DefD := ⟨("_law_price", none), "_law_price", "_law_price", defArgs (top 53), defBody (top 53), sc__law_price, [], []⟩
def d__law_right : He.DefD := ⟨("_law_right", none), "_law_right", "_law_right", defArgs (top 54), defBody (top 54), sc__law_right, [], []⟩
def d_law : He.DefD := ⟨("law", none), "law", "law", defArgs (top 55), defBody (top 55), sc_law, [], []⟩
def fn : List He.DefD := [d_is_integer, d_common, d_made, d_is_fraction, d_add, d_div, d_is_under, d_sum_in, d_is_between, d_are_shares, d_is_chances, d_need_chances, d_rates_in, d_rates, d_pools_in, d_slope_of, d_pools, d_slopes, d_is_stair, d_need_stair, d_price_in, d_price_of, d__law_mixed, d__law_begin, d__law_draw, d__law_of, d__law_ratio, d__law_plus, d__law_times, d__law_over, d__law_under, d__law_sum, d__law_odds, d__law_rate_row, d__law_slope, d__law_pool_row, d__law_price, d__law_right, d_law]
open He in
def ex : PySem.W.Frag → Bool := fun K => (tupB K "NOUGHT" [(.int 0), (.int 1)]) && (tupB K "ALL" [(.int 1), (.int 1)]) && (true)
def names0 : List Str := ["NestError", "BadNumber", "BadStair", "BadChances", "NOUGHT", "LEAST_MANY", "MOST_MANY", "ALL", "MOST_LETTERS", "MOST_STAIR", "is_integer", "common", "made", "is_fraction", "add", "div", "is_under", "sum_in", "is_between", "are_shares"]
def names1 : List Str := ["is_chances", "need_chances", "rates_in", "rates", "pools_in", "slope_of", "pools", "slopes", "is_stair", "need_stair", "price_in", "price_of", "_law_mixed", "_law_begin", "_law_draw", "_law_of", "_law_ratio", "_law_plus", "_law_times", "_law_over"]
def names2 : List Str := ["_law_under", "_law_sum", "_law_odds", "_law_rate_row", "_law_slope", "_law_pool_row", "_law_price", "_law_right"]
def names : List Str := names0 ++ names1 ++ names2
abbrev R : PySem.W.OpenRow := PySem.W.OpenLaw.row PySem.Challenge.rw_nestletters_k17_whole_chances
abbrev hk : PySem.W.Hook := hookF 4 fa fn ex
def ob (s : PySem.W.SharedT) : AlF := obsF 4 fa fn ex (HandSHeadRun.getT s)
theorem ob_eq (s : PySem.W.SharedT) : ob s = hk.obs s.abs := obsF_eq (HandSHeadRun.getT_eq s)
set_option maxHeartbeats 0 in
theorem run (w : World) : HandSHeadRun.RunEq R (PySem.W.view R.prog [55]) hk ob 8000 names w := by
  intro os
  kernel_rfl
theorem facts {P : Program} {w : World} {K : PySem.W.Frag} {h : Heap} {mg : Str → Option Value} {f : Addr} (en : LawEnds g_law 9) (X : K.In h) (G : h.Ns mainGlobals mg) (hfa : mg ("law" : Str) = some (.ref f)) (c : SaysF fa fn ex K) :
    ∃ fd : FuncData, (∀ (s : Shared) (v : Value), BindsTo s fd ⟨[v], []⟩ [("_law_script", v)]) ∧ ∀ base : Heap, K.In base → base.Ns mainGlobals mg → FnG P w K mg base 10 f fd ["_law_script"] (spLaw K) := by
  obtain ⟨fd_is_integer, D_is_integer⟩ := c.d.def_ 0 (d := d_is_integer) rfl
  have gl_is_integer := He.glo_ok X G (c.fact 0 (f := .glo "is_integer") rfl)
  obtain ⟨fd_common, D_common⟩ := c.d.def_ 1 (d := d_common) rfl
  have gl_common := He.glo_ok X G (c.fact 1 (f := .glo "common") rfl)
  obtain ⟨fd_made, D_made⟩ := c.d.def_ 2 (d := d_made) rfl
  have gl_made := He.glo_ok X G (c.fact 2 (f := .glo "made") rfl)
  obtain ⟨fd_is_fraction, D_is_fraction⟩ := c.d.def_ 3 (d := d_is_fraction) rfl
  have gl_is_fraction := He.glo_ok X G (c.fact 3 (f := .glo "is_fraction") rfl)
  obtain ⟨fd_add, D_add⟩ := c.d.def_ 4 (d := d_add) rfl
  have gl_add := He.glo_ok X G (c.fact 4 (f := .glo "add") rfl)
  obtain ⟨fd_div, D_div⟩ := c.d.def_ 5 (d := d_div) rfl
  have gl_div := He.glo_ok X G (c.fact 5 (f := .glo "div") rfl)
  obtain ⟨fd_is_under, D_is_under⟩ := c.d.def_ 6 (d := d_is_under) rfl
  have gl_is_under := He.glo_ok X G (c.fact 6 (f := .glo "is_under") rfl)
  obtain ⟨fd_sum_in, D_sum_in⟩ := c.d.def_ 7 (d := d_sum_in) rfl
  have gl_sum_in := He.glo_ok X G (c.fact 7 (f := .glo "sum_in") rfl)
  obtain ⟨fd_is_between, D_is_between⟩ := c.d.def_ 8 (d := d_is_between) rfl
  have gl_is_between := He.glo_ok X G (c.fact 8 (f := .glo "is_between") rfl)
  obtain ⟨fd_are_shares, D_are_shares⟩ := c.d.def_ 9 (d := d_are_shares) rfl
  have gl_are_shares := He.glo_ok X G (c.fact 9 (f := .glo "are_shares") rfl)
  obtain ⟨fd_is_chances, D_is_chances⟩ := c.d.def_ 10 (d := d_is_chances) rfl
  have gl_is_chances := He.glo_ok X G (c.fact 10 (f := .glo "is_chances") rfl)
  obtain ⟨fd_need_chances, D_need_chances⟩ := c.d.def_ 11 (d := d_need_chances) rfl
  have gl_need_chances := He.glo_ok X G (c.fact 11 (f := .glo "need_chances") rfl)
  obtain ⟨fd_rates_in, D_rates_in⟩ := c.d.def_ 12 (d := d_rates_in) rfl
  have gl_rates_in := He.glo_ok X G (c.fact 12 (f := .glo "rates_in") rfl)
  obtain ⟨fd_rates, D_rates⟩ := c.d.def_ 13 (d := d_rates) rfl
  have gl_rates := He.glo_ok X G (c.fact 13 (f := .glo "rates") rfl)
  obtain ⟨fd_pools_in, D_pools_in⟩ := c.d.def_ 14 (d := d_pools_in) rfl
  have gl_pools_in := He.glo_ok X G (c.fact 14 (f := .glo "pools_in") rfl)
  obtain ⟨fd_slope_of, D_slope_of⟩ := c.d.def_ 15 (d := d_slope_of) rfl
  have gl_slope_of := He.glo_ok X G (c.fact 15 (f := .glo "slope_of") rfl)
  obtain ⟨fd_pools, D_pools⟩ := c.d.def_ 16 (d := d_pools) rfl
  have gl_pools := He.glo_ok X G (c.fact 16 (f := .glo "pools") rfl)
  obtain ⟨fd_slopes, D_slopes⟩ := c.d.def_ 17 (d := d_slopes) rfl
  have gl_slopes := He.glo_ok X G (c.fact 17 (f := .glo "slopes") rfl)
  obtain ⟨fd_is_stair, D_is_stair⟩ := c.d.def_ 18 (d := d_is_stair) rfl
  have gl_is_stair := He.glo_ok X G (c.fact 18 (f := .glo "is_stair") rfl)
  obtain ⟨fd_need_stair, D_need_stair⟩ := c.d.def_ 19 (d := d_need_stair) rfl
  have gl_need_stair := He.glo_ok X G (c.fact 19 (f := .glo "need_stair") rfl)
  obtain ⟨fd_price_in, D_price_in⟩ := c.d.def_ 20 (d := d_price_in) rfl
  have gl_price_in := He.glo_ok X G (c.fact 20 (f := .glo "price_in") rfl)
  obtain ⟨fd_price_of, D_price_of⟩ := c.d.def_ 21 (d := d_price_of) rfl
  have gl_price_of := He.glo_ok X G (c.fact 21 (f := .glo "price_of") rfl)
  obtain ⟨fd__law_mixed, D__law_mixed⟩ := c.d.def_ 22 (d := d__law_mixed) rfl
  have gl__law_mixed := He.glo_ok X G (c.fact 22 (f := .glo "_law_mixed") rfl)
  obtain ⟨fd__law_begin, D__law_begin⟩ := c.d.def_ 23 (d := d__law_begin) rfl
  have gl__law_begin := He.glo_ok X G (c.fact 23 (f := .glo "_law_begin") rfl)
  obtain ⟨fd__law_draw, D__law_draw⟩ := c.d.def_ 24 (d := d__law_draw) rfl
  have gl__law_draw := He.glo_ok X G (c.fact 24 (f := .glo "_law_draw") rfl)
  obtain ⟨fd__law_of, D__law_of⟩ := c.d.def_ 25 (d := d__law_of) rfl
  have gl__law_of := He.glo_ok X G (c.fact 25 (f := .glo "_law_of") rfl)
  obtain ⟨fd__law_ratio, D__law_ratio⟩ := c.d.def_ 26 (d := d__law_ratio) rfl
  have gl__law_ratio := He.glo_ok X G (c.fact 26 (f := .glo "_law_ratio") rfl)
  obtain ⟨fd__law_plus, D__law_plus⟩ := c.d.def_ 27 (d := d__law_plus) rfl
  have gl__law_plus := He.glo_ok X G (c.fact 27 (f := .glo "_law_plus") rfl)
  obtain ⟨fd__law_times, D__law_times⟩ := c.d.def_ 28 (d := d__law_times) rfl
  have gl__law_times := He.glo_ok X G (c.fact 28 (f := .glo "_law_times") rfl)
  obtain ⟨fd__law_over, D__law_over⟩ := c.d.def_ 29 (d := d__law_over) rfl
  have gl__law_over := He.glo_ok X G (c.fact 29 (f := .glo "_law_over") rfl)
  obtain ⟨fd__law_under, D__law_under⟩ := c.d.def_ 30 (d := d__law_under) rfl
  have gl__law_under := He.glo_ok X G (c.fact 30 (f := .glo "_law_under") rfl)
  obtain ⟨fd__law_sum, D__law_sum⟩ := c.d.def_ 31 (d := d__law_sum) rfl
  have gl__law_sum := He.glo_ok X G (c.fact 31 (f := .glo "_law_sum") rfl)
  obtain ⟨fd__law_odds, D__law_odds⟩ := c.d.def_ 32 (d := d__law_odds) rfl
  have gl__law_odds := He.glo_ok X G (c.fact 32 (f := .glo "_law_odds") rfl)
  obtain ⟨fd__law_rate_row, D__law_rate_row⟩ := c.d.def_ 33 (d := d__law_rate_row) rfl
  have gl__law_rate_row := He.glo_ok X G (c.fact 33 (f := .glo "_law_rate_row") rfl)
  obtain ⟨fd__law_slope, D__law_slope⟩ := c.d.def_ 34 (d := d__law_slope) rfl
  have gl__law_slope := He.glo_ok X G (c.fact 34 (f := .glo "_law_slope") rfl)
  obtain ⟨fd__law_pool_row, D__law_pool_row⟩ := c.d.def_ 35 (d := d__law_pool_row) rfl
  have gl__law_pool_row := He.glo_ok X G (c.fact 35 (f := .glo "_law_pool_row") rfl)
  obtain ⟨fd__law_price, D__law_price⟩ := c.d.def_ 36 (d := d__law_price) rfl
  have gl__law_price := He.glo_ok X G (c.fact 36 (f := .glo "_law_price") rfl)
  obtain ⟨fd__law_right, D__law_right⟩ := c.d.def_ 37 (d := d__law_right) rfl
  have gl__law_right := He.glo_ok X G (c.fact 37 (f := .glo "_law_right") rfl)
  obtain ⟨fd_law, D_law⟩ := c.d.def_ 38 (d := d_law) rfl
  have gl_law := He.glo_ok X G (c.fact 38 (f := .glo "law") rfl)
  have m_list := He.free_ok X G (c.fact 45 (f := .free "list") rfl)
  have m_isinstance := He.free_ok X G (c.fact 46 (f := .free "isinstance") rfl)
  have m_int := He.free_ok X G (c.fact 47 (f := .free "int") rfl)
  have m_bool := He.free_ok X G (c.fact 48 (f := .free "bool") rfl)
  have m_abs := He.free_ok X G (c.fact 49 (f := .free "abs") rfl)
  have m_tuple := He.free_ok X G (c.fact 50 (f := .free "tuple") rfl)
  have m_len := He.free_ok X G (c.fact 51 (f := .free "len") rfl)
  have m_all := He.free_ok X G (c.fact 52 (f := .free "all") rfl)
  have m_range := He.free_ok X G (c.fact 53 (f := .free "range") rfl)
  have m_enumerate := He.free_ok X G (c.fact 54 (f := .free "enumerate") rfl)
  have m_zip := He.free_ok X G (c.fact 55 (f := .free "zip") rfl)
  have m_sum := He.free_ok X G (c.fact 56 (f := .free "sum") rfl)
  have m_repr := He.free_ok X G (c.fact 57 (f := .free "repr") rfl)
  have m_min := He.free_ok X G (c.fact 58 (f := .free "min") rfl)
  have m_sorted := He.free_ok X G (c.fact 59 (f := .free "sorted") rfl)
  have hex := c.more
  unfold ex at hex
  simp only [Bool.and_eq_true] at hex
  have c_NOUGHT : CsIs K mg "NOUGHT" k_NOUGHT := cs_tup X G (c.fact 39 (f := .glo "NOUGHT") rfl) hex.1.1 rfl
  have c_ALL : CsIs K mg "ALL" k_ALL := cs_tup X G (c.fact 42 (f := .glo "ALL") rfl) hex.1.2 rfl
  have c_LEAST_MANY : CsIs K mg "LEAST_MANY" k_LEAST_MANY := cs_int X G (c.fact 40 (f := .int "LEAST_MANY" 1) rfl)
  have c_MOST_MANY : CsIs K mg "MOST_MANY" k_MOST_MANY := cs_int X G (c.fact 41 (f := .int "MOST_MANY" 8) rfl)
  have c_MOST_LETTERS : CsIs K mg "MOST_LETTERS" k_MOST_LETTERS := cs_int X G (c.fact 43 (f := .int "MOST_LETTERS" 8) rfl)
  have c_MOST_STAIR : CsIs K mg "MOST_STAIR" k_MOST_STAIR := cs_int X G (c.fact 44 (f := .int "MOST_STAIR" 1000) rfl)
  have e := hfa.symm.trans gl_law
  cases e
  have b := FunD.bindsA (ps := ["_law_script"]) D_law fun _ _ _ _ _ _ us hl => match us, hl with | [_], _ => rfl
  refine ⟨fd_law, fun s v => b s [v] rfl, fun base _ _ => ?_⟩
  have h_is_integer := ok_is_integer (P := P) (w := w) (base := base) D_is_integer gl_is_integer m_isinstance m_int m_bool
  have h_common := ok_common (P := P) (w := w) (base := base) D_common gl_common m_abs m_int
  have h_made := ok_made (P := P) (w := w) (base := base) D_made gl_made h_common
  have h_is_fraction := ok_is_fraction (P := P) (w := w) (base := base) D_is_fraction gl_is_fraction m_isinstance m_tuple m_len m_all h_is_integer h_common
  have h_add := ok_add (P := P) (w := w) (base := base) D_add gl_add h_made
  have h_div := ok_div (P := P) (w := w) (base := base) D_div gl_div h_made
  have h_is_under := ok_is_under (P := P) (w := w) (base := base) D_is_under gl_is_under 
  have h_sum_in := ok_sum_in (P := P) (w := w) (base := base) D_sum_in gl_sum_in c_NOUGHT h_add
  have h_is_between := ok_is_between (P := P) (w := w) (base := base) D_is_between gl_is_between h_is_integer
  have h_are_shares := ok_are_shares (P := P) (w := w) (base := base) D_are_shares gl_are_shares m_isinstance m_tuple m_all m_list c_ALL h_is_fraction h_sum_in
  have h_is_chances := ok_is_chances (P := P) (w := w) (base := base) D_is_chances gl_is_chances m_len c_LEAST_MANY c_MOST_MANY h_are_shares
  have h_need_chances := ok_need_chances (P := P) (w := w) (base := base) D_need_chances gl_need_chances h_is_chances
  have h_rates_in := ok_rates_in (P := P) (w := w) (base := base) D_rates_in gl_rates_in m_range h_made
  have h_rates := ok_rates (P := P) (w := w) (base := base) D_rates gl_rates m_tuple c_MOST_MANY c_LEAST_MANY h_is_between h_rates_in
  have h_slope_of := ok_slope_of (P := P) (w := w) (base := base) D_slope_of gl_slope_of h_div
  have h_pools_in := ok_pools_in (P := P) (w := w) (base := base) D_pools_in gl_pools_in m_enumerate m_len h_rates_in h_is_under h_slope_of h_add
  have h_pools := ok_pools (P := P) (w := w) (base := base) D_pools gl_pools m_tuple h_pools_in h_need_chances
  have h_slopes := ok_slopes (P := P) (w := w) (base := base) D_slopes gl_slopes m_tuple h_pools_in h_need_chances h_slope_of
  have h_is_stair := ok_is_stair (P := P) (w := w) (base := base) D_is_stair gl_is_stair m_isinstance m_tuple m_len m_all m_zip c_MOST_LETTERS c_MOST_STAIR h_is_between
  have h_need_stair := ok_need_stair (P := P) (w := w) (base := base) D_need_stair gl_need_stair h_is_stair
  have h_price_in := ok_price_in (P := P) (w := w) (base := base) D_price_in gl_price_in m_enumerate m_len h_made h_sum_in
  have h_price_of := ok_price_of (P := P) (w := w) (base := base) D_price_of gl_price_of h_need_stair h_price_in
  have h__law_mixed := ok__law_mixed (P := P) (w := w) (base := base) D__law_mixed gl__law_mixed m_int
  have h__law_draw := FnIs.toG (ok__law_draw (P := P) (w := w) (base := base) D__law_draw gl__law_draw m_int m_len h__law_mixed)
  have h__law_of := ok__law_of (P := P) (w := w) (base := base) D__law_of gl__law_of m_len h__law_draw
  have h__law_ratio := ok__law_ratio (P := P) (w := w) (base := base) D__law_ratio gl__law_ratio m_abs m_int
  have h__law_plus := ok__law_plus (P := P) (w := w) (base := base) D__law_plus gl__law_plus h__law_ratio
  have h__law_times := ok__law_times (P := P) (w := w) (base := base) D__law_times gl__law_times h__law_ratio
  have h__law_over := ok__law_over (P := P) (w := w) (base := base) D__law_over gl__law_over h__law_ratio
  have h__law_under := ok__law_under (P := P) (w := w) (base := base) D__law_under gl__law_under 
  have h__law_sum := ok__law_sum (P := P) (w := w) (base := base) D__law_sum gl__law_sum h__law_plus
  have h__law_odds := ok__law_odds (P := P) (w := w) (base := base) D__law_odds gl__law_odds m_range m_len m_tuple m_sum h__law_draw h__law_of h__law_ratio
  have h__law_rate_row := ok__law_rate_row (P := P) (w := w) (base := base) D__law_rate_row gl__law_rate_row m_range
  have h__law_slope := ok__law_slope (P := P) (w := w) (base := base) D__law_slope gl__law_slope m_list m_len h__law_sum h__law_over h__law_rate_row
  have h__law_pool_row := ok__law_pool_row (P := P) (w := w) (base := base) D__law_pool_row gl__law_pool_row m_len m_range h__law_slope h__law_under
  have h__law_price := ok__law_price (P := P) (w := w) (base := base) D__law_price gl__law_price m_zip m_len h__law_rate_row h__law_times h__law_sum
  have h__law_right := ok__law_right (P := P) (w := w) (base := base) D__law_right gl__law_right m_tuple m_repr m_zip m_range m_len h__law_pool_row h__law_slope h__law_under h_need_chances h_rates h_slopes h_pools h__law_rate_row
  exact ok_law D_law D__law_begin gl__law_begin m_list en m_range m_min m_len m_tuple m_sorted h__law_odds h__law_right h__law_draw h_price_of h__law_price h_rates h_slopes h_pools
end Lw
open PySem PySem.W PySem.Calls PyProof.Rows
set_option maxRecDepth 100000 in
set_option maxHeartbeats 0 in
theorem PySem.Challenge.cw_nestletters_k17_whole_chances_holds : PySem.Challenge.rw_nestletters_k17_whole_chances.Holds := by
  w_on; o_law
  refine HandSHeadRun.head_any (r := OpenLaw.row PySem.Challenge.rw_nestletters_k17_whole_chances) (q := view (OpenLaw.row PySem.Challenge.rw_nestletters_k17_whole_chances).prog [55]) (H := Lw.hk) (ob := Lw.ob) (M := 8000) (loose := Lw.names) (d := HandSHeadRun.topDef (OpenLaw.row PySem.Challenge.rw_nestletters_k17_whole_chances).prog 55) (kwd := []) Lw.ob_eq
    (by kernel_rfl) (fun s => by kernel_rfl) Lw.run (by kernel_rfl) (by kernel_rfl) (by kernel_rfl) (by rfl) (by first | assumption | decide +kernel) (by decide +kernel) ⟨rfl, rfl, rfl, rfl, rfl, by decide +kernel⟩ ?hw ?hc
  case hw => w_witness2
  case hc =>
    refine PF.walk_g (l := PySem.Challenge.rw_nestletters_k17_whole_chances) (n := 63) (k := 10) (x := "_law_script") rfl (by decide) (by kernel_rfl) ⟨rfl, by decide, by decide⟩ ?F
    intro w mg fa h Y G hmg0
    obtain ⟨K, KX, c⟩ := Y
    have hmg : mg ("law" : PySem.Str) = some (.ref fa) := by
      have e : (HandSHeadRun.topDef (OpenLaw.row PySem.Challenge.rw_nestletters_k17_whole_chances).prog 55).name = ("law" : PySem.Str) := by kernel_rfl
      rw [← e]
      exact hmg0
    obtain ⟨fd, hb, hF⟩ := Lw.facts (P := (PySem.Challenge.rw_nestletters_k17_whole_chances).prog) (w := w) Lw.law_ends KX G hmg c
    exact ⟨K, fd, PF.spLaw K, KX, hb, fun H a ns hl _ hS => ⟨a, ns, rfl, hS, hl, fun _ => rfl⟩, hF⟩
