import PyProof.Rows.All
import Wide.All
import OpenK.AllK
import Wide.FinOn
import HandS.ForMost
import HandS.ForExc
import HandS.Wide
import HandS.CallSlots
import HandS.IsInst
import HandS.HeadWalk
import HandS.HeadHook4
import HandS.HeadEnd
import HandS.TupAny
import HandS.TupLe
import HandS.TupMul
import KE.KStateDown
import HandS.Iter
import HandS.Zip
import KE.GoesEnum
import KE.KTupSum
import KE.KEqDeep
import PyProof.P3Eq
import HandS.Head0
import HandS.Head1
import HandS.Head2
import HandS.HeadHook2
import PyProof.ReprRoads
import HandS.Star
import HandS.RaiseMore
import HandS.Deep
import HandS.Style
import PyProof.P3In
import HandS.SortRule
import HandS.SortInts
import KE.GoesZip
import HandS.Lambda
import KE.KExcInit
import HandS.ExcInit
import HandS.ExcField
import HandS.ClsMeth
import HandS.TryMany
import HandS.DictComp
import HandS.WordsDict
import HandS.Conv
import HandS.More
import PySem.Challenge.RW_nestletters_k05_whole_letters
set_option Elab.async false
set_option linter.all false
set_option maxRecDepth 100000
set_option maxHeartbeats 4000000
namespace PF
open PySem PySem.Spec PyProof.Rows L2
abbrev St := L2.St
inductive W where
  | non | bl (b : Bool) | int (i : Int) | str (x : Str)
  | tup (ws : List W) | lst (ws : List W)
  | dct (ks : List Key) (ws : List W)
  | scr (n : Nat) | stt
  | clo (i : Nat) (ws : List W) | exo (c : Nat) (fs : List W) | ref (n : Nat)
inductive T (α : Type) where
  | ok (a : α) | exc (c : Nat) (fs : List W) | bad | ask (n : Nat) (k : Nat → T α)
def T.bind {α β : Type} : T α → (α → T β) → T β
  | .ok a, f => f a
  | .exc c fs, _ => .exc c fs
  | .bad, _ => .bad
  | .ask n k, f => .ask n fun i => (k i).bind f
/-- d: how many draws may come -/
def T.AllB {α : Type} (P : Nat → α → Prop) (E : Nat → Nat → List W → Prop) : Nat → T α → Prop
  | d, .ok a => P d a
  | d, .exc c fs => E d c fs
  | _, .bad => False
  | d, .ask n k => ∃ e, d = e + 1 ∧ ∀ i, i < n → T.AllB P E e (k i)
theorem T.AllB.imp {α : Type} {P P' : Nat → α → Prop} {E E' : Nat → Nat → List W → Prop} (h : ∀ d a, P d a → P' d a) (g : ∀ d c fs, E d c fs → E' d c fs) : ∀ {t : T α} {d : Nat}, t.AllB P E d → t.AllB P' E' d
  | .ok a, d, x => h d a x
  | .exc c fs, d, x => g d c fs x
  | .bad, _, x => x
  | .ask n k, d, x => by
    obtain ⟨e, he, x⟩ := x
    exact ⟨e, he, fun i hi => T.AllB.imp h g (x i hi)⟩
theorem T.allB_bind {α β : Type} {P : Nat → β → Prop} {E : Nat → Nat → List W → Prop} {f : α → T β} : ∀ {t : T α} {d : Nat}, (t.bind f).AllB P E d ↔ t.AllB (fun d a => (f a).AllB P E d) E d
  | .ok a, d => Iff.rfl
  | .exc c fs, d => Iff.rfl
  | .bad, _ => Iff.rfl
  | .ask n k, d => by
    constructor
    · rintro ⟨e, he, x⟩
      exact ⟨e, he, fun i hi => T.allB_bind.mp (x i hi)⟩
    · rintro ⟨e, he, x⟩
      exact ⟨e, he, fun i hi => T.allB_bind.mpr (x i hi)⟩
structure Cc where
  S : Addr
  ca : Addr
  la : Addr
  A : List Addr
  M : List Addr
  T : List (Addr × Str) := []
def kCells : Str := "cells"
def kLefts : Str := "lefts"
def kAt : Str := "at"
def kRoom : Str := "room"
/-- the state stands; so many draws may come -/
def StOk (c : Cc) (d : Nat) (H : Hp) : Prop :=
  ∃ (cells lefts : List Int) (k r : Int), H c.S = some (.dK [(.inr kCells, .ref c.ca), (.inr kLefts, .ref c.la), (.inr kAt, .int k), (.inr kRoom, .int r)]) ∧
    H c.ca = some (.lst (cells.map V.int)) ∧ H c.la = some (.lst (lefts.map V.int)) ∧ lefts.length = cells.length ∧ 0 < cells.length ∧ 0 ≤ k ∧ k + d ≤ 2 ^ 60 ∧ c.ca ≠ c.la ∧ LamX.Tabs c.T H
/-- no table of code objects -/
abbrev NoT (o : HO) : Prop := ∀ ps, o ≠ .tbl ps
/-- all but the state's own two objects is kept; tables of code objects grow -/
structure Step (c : Cc) (H H' : Hp) : Prop where
  keep : ∀ b o, H b = some o → b ≠ c.S → b ≠ c.la → NoT o → H' b = some o
  tbl : ∀ b ps, H b = some (.tbl ps) → ∃ more, H' b = some (.tbl (ps ++ more))
theorem Step.refl (c : Cc) (H : Hp) : Step c H H := ⟨fun _ _ e _ _ _ => e, fun _ ps e => ⟨#[], by rw [e]; simp⟩⟩
theorem Step.trans {c : Cc} {H H1 H2 : Hp} (a : Step c H H1) (b : Step c H1 H2) : Step c H H2 := ⟨fun x o e h1 h2 h3 => b.keep x o (a.keep x o e h1 h2 h3) h1 h2 h3, fun x ps e => by
  obtain ⟨m, e1⟩ := a.tbl x ps e
  obtain ⟨n, e2⟩ := b.tbl x _ e1
  exact ⟨m ++ n, by rw [e2, Array.append_assoc]⟩⟩
/-- all stays that stood -/
theorem Step.same {c : Cc} {H H' : Hp} (h : ∀ b o, H b = some o → H' b = some o) : Step c H H' := ⟨fun b o e _ _ _ => h b o e, fun b ps e => ⟨#[], by rw [h b _ e]; simp⟩⟩
theorem Step.new {c : Cc} {H : Hp} {p : Addr} {o : HO} (n : H p = none) : Step c H (upd H p o) := .same fun b u e => by
  rw [upd_ne (ne_of_none e n)]
  exact e
theorem Tabs.upd {T : List (Addr × Str)} {H : Hp} {p : Addr} {o u : HO} (t : LamX.Tabs T H) (h : H p = some o) (nt : NoT o) (nc : ∀ q, o ≠ LamX.CodeO p q) : LamX.Tabs T (L2.upd H p u) := fun x hx => by
  obtain ⟨ps, h1, h2, h3⟩ := t x hx
  refine ⟨ps, by rw [upd_ne (ne_of h1 h (Ne.symm (nt _)))]; exact h1, h2, fun pos cv hc => ?_⟩
  obtain ⟨c, e1, e2⟩ := h3 pos cv hc
  refine ⟨c, e1, ?_⟩
  rw [upd_ne]
  · exact e2
  · intro z
    subst z
    rw [h] at e2
    exact nc _ (Option.some.inj e2)
theorem StOk.new {c : Cc} {d : Nat} {H : Hp} {p : Addr} {o : HO} (s : StOk c d H) (n : H p = none) : StOk c d (upd H p o) := by
  obtain ⟨cells, lefts, k, r, h1, h2, h3, h4, h5, h6, h7, h8, h9⟩ := s
  exact ⟨cells, lefts, k, r, by rw [upd_ne (ne_of_none h1 n)]; exact h1, by rw [upd_ne (ne_of_none h2 n)]; exact h2, by rw [upd_ne (ne_of_none h3 n)]; exact h3, h4, h5, h6, h7, h8, h9.ext fun b u e => by rw [upd_ne (ne_of_none e n)]; exact e⟩
theorem StOk.tab {c : Cc} {d : Nat} {H : Hp} (s : StOk c d H) : LamX.Tabs c.T H := by
  obtain ⟨_, _, _, _, _, _, _, _, _, _, _, _, h9⟩ := s
  exact h9
theorem StOk.S {c : Cc} {d : Nat} {H : Hp} (s : StOk c d H) : ∃ kvs, H c.S = some (.dK kvs) := by
  obtain ⟨_, _, _, _, h1, _⟩ := s
  exact ⟨_, h1⟩
theorem StOk.la {c : Cc} {d : Nat} {H : Hp} (s : StOk c d H) : ∃ xs, H c.la = some (.lst xs) := by
  obtain ⟨_, _, _, _, _, _, h3, _⟩ := s
  exact ⟨_, h3⟩
mutual
inductive Rep (K : PySem.W.Frag) (c : Cc) (H : Hp) : W → V → Prop
  | non : Rep K c H .non .non
  | bl (b : Bool) : Rep K c H (.bl b) (.bl b)
  | int (i : Int) : Rep K c H (.int i) (.int i)
  | str (x : Str) : Rep K c H (.str x) (.str x)
  | tup {a : Addr} {vs : List V} {ws : List W} : SqT K H a vs → RepL K c H ws vs → Rep K c H (.tup ws) (.ref a)
  | lst {a : Addr} {vs : List V} {ws : List W} : a ∉ c.A → H a = some (.lst vs) → RepL K c H ws vs → Rep K c H (.lst ws) (.ref a)
  | dct {a : Addr} {kvs : List (Key × V)} {ws : List W} : a ∉ c.A → H a = some (.dK kvs) → RepL K c H ws (kvs.map (·.2)) → Rep K c H (.dct (kvs.map (·.1)) ws) (.ref a)
  | scr {a : Addr} {ns : List Int} : (a ∉ c.A ∧ Rd H a (.lst (ns.map V.int))) ∨ SqL K (fun _ => none) a (ns.map V.int) → Rep K c H (.scr ns.length) (.ref a)
  | stt : Rep K c H .stt (.ref c.S)
inductive RepL (K : PySem.W.Frag) (c : Cc) (H : Hp) : List W → List V → Prop
  | nil : RepL K c H [] []
  | cons {w : W} {v : V} {ws : List W} {vs : List V} : Rep K c H w v → RepL K c H ws vs → RepL K c H (w :: ws) (v :: vs)
end
theorem Step.sqT {K : PySem.W.Frag} {c : Cc} {d : Nat} {H H' : Hp} {a : Addr} {vs : List V} (st : Step c H H') (s : StOk c d H) (h : SqT K H a vs) : SqT K H' a vs := by
  obtain ⟨kvs, hS⟩ := s.S
  obtain ⟨xs, hl⟩ := s.la
  rcases h with (h | ⟨o, h⟩) | h
  · exact .inl (.inl (st.keep _ _ h (ne_of h hS (by intro z; cases z)) (ne_of h hl (by intro z; cases z)) nofun))
  · exact .inl (.inr ⟨o, st.keep _ _ h (ne_of h hS (by intro z; cases z)) (ne_of h hl (by intro z; cases z)) nofun⟩)
  · exact .inr h
/-- what is fixed through a run -/
structure CcOk (c : Cc) : Prop where
  inS : c.S ∈ c.A
  inla : c.la ∈ c.A
  inca : c.ca ∈ c.A
theorem CcOk.neS {c : Cc} (h : CcOk c) {a : Addr} (n : a ∉ c.A) : a ≠ c.S := fun e => n (e ▸ h.inS)
theorem CcOk.nela {c : Cc} (h : CcOk c) {a : Addr} (n : a ∉ c.A) : a ≠ c.la := fun e => n (e ▸ h.inla)
theorem sqL_split {K : PySem.W.Frag} {H : Hp} {a : Addr} {vs : List V} (h : SqL K H a vs) : Rd H a (.lst vs) ∨ SqL K (fun _ => none) a vs := by
  rcases h with h | h
  · exact .inl h
  · exact .inr (.inr h)
theorem sqL_of_none {K : PySem.W.Frag} {H : Hp} {a : Addr} {vs : List V} (h : SqL K (fun _ => none) a vs) : SqL K H a vs := by
  rcases h with (h | ⟨_, h⟩) | h
  · cases h
  · cases h
  · exact .inr h
section
variable {K : PySem.W.Frag} {c : Cc} {d : Nat} {H H' : Hp}
theorem Step.lst {a : Addr} {o : HO} (st : Step c H H') (ok : CcOk c) (n : a ∉ c.A) (h : H a = some o) (nt : NoT o := by nofun) : H' a = some o := st.keep a o h (ok.neS n) (ok.nela n) nt
mutual
theorem Rep.step (st : Step c H H') (s : StOk c d H) (ok : CcOk c) : ∀ {w : W} {v : V}, Rep K c H w v → Rep K c H' w v
  | _, _, .non => .non
  | _, _, .bl b => .bl b
  | _, _, .int i => .int i
  | _, _, .str x => .str x
  | _, _, .tup h r => .tup (st.sqT s h) (RepL.step st s ok r)
  | _, _, .lst n h r => .lst n (st.lst ok n h) (RepL.step st s ok r)
  | _, _, .dct n h r => .dct n (st.lst ok n h) (RepL.step st s ok r)
  | _, _, .scr h => .scr (h.imp (fun ⟨n, r⟩ => ⟨n, r.imp (fun e => st.lst ok n e) fun ⟨o, e⟩ => ⟨o, st.lst ok n e⟩⟩) id)
  | _, _, .stt => .stt
theorem RepL.step (st : Step c H H') (s : StOk c d H) (ok : CcOk c) : ∀ {ws : List W} {vs : List V}, RepL K c H ws vs → RepL K c H' ws vs
  | _, _, .nil => .nil
  | _, _, .cons h r => .cons (Rep.step st s ok h) (RepL.step st s ok r)
end
theorem RepL.length : ∀ {ws : List W} {vs : List V}, RepL K c H ws vs → ws.length = vs.length
  | _, _, .nil => rfl
  | _, _, .cons _ r => congrArg (· + 1) (RepL.length r)
theorem RepL.get : ∀ {ws : List W} {vs : List V}, RepL K c H ws vs → ∀ {i : Nat} {w : W}, ws[i]? = some w → ∃ v, vs[i]? = some v ∧ Rep K c H w v
  | _, _, .nil, i, w, e => by simp at e
  | _, _, .cons h r, 0, w, e => by
    simp at e
    subst e
    exact ⟨_, rfl, h⟩
  | _, _, .cons h r, i + 1, w, e => by
    obtain ⟨v, e1, e2⟩ := RepL.get r (i := i) (w := w) (by simpa using e)
    exact ⟨v, by simpa using e1, e2⟩
theorem RepL.append : ∀ {ws ws' : List W} {vs vs' : List V}, RepL K c H ws vs → RepL K c H ws' vs' → RepL K c H (ws ++ ws') (vs ++ vs')
  | _, _, _, _, .nil, h => h
  | _, _, _, _, .cons h r, h' => .cons h (RepL.append r h')
theorem RepL.take : ∀ {ws : List W} {vs : List V} (n : Nat), RepL K c H ws vs → RepL K c H (ws.take n) (vs.take n)
  | _, _, 0, _ => .nil
  | _, _, _ + 1, .nil => .nil
  | _, _, n + 1, .cons h r => .cons h (RepL.take n r)
theorem RepL.drop : ∀ {ws : List W} {vs : List V} (n : Nat), RepL K c H ws vs → RepL K c H (ws.drop n) (vs.drop n)
  | _, _, 0, r => r
  | _, _, _ + 1, .nil => .nil
  | _, _, n + 1, .cons _ r => RepL.drop n r
theorem RepL.set : ∀ {ws : List W} {vs : List V} {w : W} {v : V} (n : Nat), RepL K c H ws vs → Rep K c H w v → RepL K c H (ws.set n w) (vs.set n v)
  | _, _, _, _, _, .nil, _ => .nil
  | _, _, _, _, 0, .cons _ r, h => .cons h r
  | _, _, _, _, n + 1, .cons q r, h => .cons q (RepL.set n r h)
theorem RepL.reverse : ∀ {ws : List W} {vs : List V}, RepL K c H ws vs → RepL K c H ws.reverse vs.reverse
  | _, _, .nil => .nil
  | _, _, .cons h r => by
    rw [List.reverse_cons, List.reverse_cons]
    exact (RepL.reverse r).append (.cons h .nil)
/-- a list of ints, of bools, of texts: the values are told -/
theorem RepL.ints : ∀ {ns : List Int} {vs : List V}, RepL K c H (ns.map W.int) vs → vs = ns.map V.int
  | [], _, .nil => rfl
  | n :: ns, _, .cons h r => by
    cases h
    rw [RepL.ints r]
    rfl
theorem RepL.bls : ∀ {ns : List Bool} {vs : List V}, RepL K c H (ns.map W.bl) vs → vs = ns.map V.bl
  | [], _, .nil => rfl
  | n :: ns, _, .cons h r => by
    cases h
    rw [RepL.bls r]
    rfl
theorem RepL.strs : ∀ {ns : List Str} {vs : List V}, RepL K c H (ns.map W.str) vs → vs = ns.map V.str
  | [], _, .nil => rfl
  | n :: ns, _, .cons h r => by
    cases h
    rw [RepL.strs r]
    rfl
theorem RepL.ofInts : ∀ (ns : List Int), RepL K c H (ns.map W.int) (ns.map V.int)
  | [] => .nil
  | n :: ns => .cons (.int n) (RepL.ofInts ns)
end
theorem Step.there {c : Cc} {H H' : Hp} {b : Addr} {o : HO} (st : Step c H H') (h : H b = some o) (h1 : b ≠ c.S) (h2 : b ≠ c.la) : ∃ o', H' b = some o' := by
  cases o with
  | tbl ps =>
    obtain ⟨m, e⟩ := st.tbl b ps h
    exact ⟨_, e⟩
  | _ => exact ⟨_, st.keep b _ h h1 h2 nofun⟩
/-- the world stands -/
structure Wd (c : Cc) (d : Nat) (H : Hp) : Prop where
  ok : CcOk c
  st : StOk c d H
  av : ∀ b ∈ c.A, ∃ o, H b = some o
theorem Wd.fresh {c : Cc} {d : Nat} {H : Hp} {p : Addr} (w : Wd c d H) (n : H p = none) : p ∉ c.A := fun h => by
  obtain ⟨o, e⟩ := w.av p h
  rw [n] at e
  cases e
theorem Wd.step {c : Cc} {d d' : Nat} {H H' : Hp} (w : Wd c d H) (st : Step c H H') (s' : StOk c d' H') : Wd c d' H' := ⟨w.ok, s', fun b hb => by
    obtain ⟨o, h⟩ := w.av b hb
    by_cases h1 : b = c.S
    · obtain ⟨kvs, h2⟩ := s'.S
      exact ⟨_, h1 ▸ h2⟩
    · by_cases h2 : b = c.la
      · obtain ⟨xs, h3⟩ := s'.la
        exact ⟨_, h2 ▸ h3⟩
      · exact st.there h h1 h2⟩
theorem Wd.new {c : Cc} {d : Nat} {H : Hp} {p : Addr} {o : HO} (w : Wd c d H) (n : H p = none) : Wd c d (upd H p o) := w.step (.new n) (w.st.new n)
/-- of each function of the written part: the table of its code, the name of its lambdas -/
def tabL (K : PySem.W.Frag) : List (Addr × Str) := K.filterMap fun x => match x.2.data with
  | .func fd => (match fd.code with
    | .ref c => some (He.tabOf K c, fd.qualname ++ ".<locals>." ++ "<lambda>")
    | _ => none)
  | _ => none
inductive Sl where
  | un | val (w : W) | own (ws : List W) | odc (kvs : List (Key × W))
abbrev En := List Sl
/-- pairs that stand for a dict's pairs -/
def RepD (K : PySem.W.Frag) (c : Cc) (H : Hp) (acc : List (Key × W)) (kvs : List (Key × V)) : Prop := acc.map (·.1) = kvs.map (·.1) ∧ RepL K c H (acc.map (·.2)) (kvs.map (·.2))
def OwnO (o : HO) : Prop := (∃ xs, o = .lst xs) ∨ ∃ xs, o = .dK xs
theorem OwnO.noT {o : HO} (h : OwnO o) : NoT o := by
  rcases h with ⟨xs, rfl⟩ | ⟨xs, rfl⟩
  · exact nofun
  · exact nofun
/-- the frame's own lists -/
structure MOk (c : Cc) (H : Hp) : Prop where
  inA : ∀ b ∈ c.M, b ∈ c.A
  nst : ∀ b ∈ c.M, b ∉ [c.S, c.ca, c.la]
  ls : ∀ b ∈ c.M, ∃ o, H b = some o ∧ OwnO o
theorem MOk.step {c : Cc} {H H' : Hp} (m : MOk c H) (st : Step c H H') : MOk c H' := ⟨m.inA, m.nst, fun b hb => by
  obtain ⟨o, h, w⟩ := m.ls b hb
  have n := m.nst b hb
  simp only [List.mem_cons, not_or] at n
  exact ⟨o, st.keep b _ h n.1 n.2.2.1 w.noT, w⟩⟩
/-- oa: the addresses of the lists that the frame's own slots hold -/
structure EnvOk (K : PySem.W.Frag) (c : Cc) (d : Nat) (oa : Nat → Addr) (ρ : En) (σ : St) (H : Hp) : Prop where
  ok : CcOk c
  st : StOk c d H
  av : ∀ b ∈ c.A, ∃ o, H b = some o
  len : ρ.length = σ.length
  val : ∀ (i : Nat) (w : W), ρ[i]? = some (.val w) → ∃ v, σ[i]? = some (some v) ∧ Rep K c H w v
  m : MOk c H
  own : ∀ (i : Nat) (ws : List W), ρ[i]? = some (.own ws) → oa i ∈ c.M ∧ σ[i]? = some (some (.ref (oa i))) ∧ ∃ vs, H (oa i) = some (.lst vs) ∧ RepL K c H ws vs
  inj : ∀ (i j : Nat) (ws us : List W), ρ[i]? = some (.own ws) → ρ[j]? = some (.own us) → oa i = oa j → i = j
  odc : ∀ (i : Nat) (kvs : List (Key × W)), ρ[i]? = some (.odc kvs) → oa i ∈ c.M ∧ σ[i]? = some (some (.ref (oa i))) ∧ ∃ vs, H (oa i) = some (.dK vs) ∧ RepD K c H kvs vs
  ido : ∀ (i j : Nat) (ks ls : List (Key × W)), ρ[i]? = some (.odc ks) → ρ[j]? = some (.odc ls) → oa i = oa j → i = j
  tT : c.T = tabL K
section
variable {K : PySem.W.Frag} {c : Cc} {d d' : Nat} {oa : Nat → Addr} {ρ : En} {σ : St} {H H' : Hp}
theorem EnvOk.wd (e : EnvOk K c d oa ρ σ H) : Wd c d H := ⟨e.ok, e.st, e.av⟩
theorem EnvOk.step (e : EnvOk K c d oa ρ σ H) (st : Step c H H') (s' : StOk c d' H') : EnvOk K c d' oa ρ σ H' where
  ok := e.ok
  st := s'
  av := (e.wd.step st s').av
  len := e.len
  val := fun i w h => by
    obtain ⟨v, h1, h2⟩ := e.val i w h
    exact ⟨v, h1, h2.step st e.st e.ok⟩
  m := e.m.step st
  own := fun i ws h => by
    obtain ⟨h1, h3, vs, h4, h5⟩ := e.own i ws h
    have h2 := e.m.nst _ h1
    refine ⟨h1, h3, vs, st.keep _ _ h4 ?_ ?_ nofun, h5.step st e.st e.ok⟩
    · intro z
      exact h2 (by rw [z]; simp)
    · intro z
      exact h2 (by rw [z]; simp)
  inj := e.inj
  odc := fun i ws h => by
    obtain ⟨h1, h3, vs, h4, h5⟩ := e.odc i ws h
    have h2 := e.m.nst _ h1
    refine ⟨h1, h3, vs, st.keep _ _ h4 ?_ ?_ nofun, h5.1, h5.2.step st e.st e.ok⟩
    · intro z
      exact h2 (by rw [z]; simp)
    · intro z
      exact h2 (by rw [z]; simp)
  ido := e.ido
  tT := e.tT
end
/-- the errors' names and fields -/
def xAll : List (Str × List Str) := [("BadPaper", ["part"]), ("BadCode", ["part"]), ("BadFraction", ["given"]), ("BadNumber", ["given"]), ("BadPrime", ["given"]), ("BadMessage", ["given"]), ("BadLaying", ["given"]), ("BadMail", ["given"]), ("BadLot", ["given"]), ("BadStair", ["given"]),
  ("BadPoints", ["given"]), ("Unsound", ["need"]), ("BadChances", ["given"]), ("BadLetter", ["given"]), ("BadLabel", ["given"]), ("BadChannel", ["path"]), ("BadWorths", ["given"]), ("BadCost", ["given"]), ("BadRoom", ["given"]), ("BadList", ["given"]),
  ("BadLength", ["given"]), ("BadWishes", ["given"]), ("BadText", ["line", "word"]), ("Missing", ["given"]), ("NothingLeft", ["many"]), ("TooMany", ["most"])]
def xName (n : Nat) : Str := (xAll.getD n ("", [])).1
def xFlds (n : Nat) : List Str := (xAll.getD n ("", [])).2
/-- an error's class is the module's n-th name; its dict holds the fields -/
def RepX (K : PySem.W.Frag) (c : Cc) (H : Hp) (n : Nat) (fs : List W) (cls : Value) (dx : Option Addr) : Prop :=
  cls = .ref (He.ga K (xName n)) ∧ ∃ (d : Addr) (vs : List V), dx = some d ∧ H d = some (.xd ((xFlds n).zip vs).reverse) ∧ vs.length = (xFlds n).length ∧ RepL K c H fs vs
/-- what is wanted of an expression's run -/
def PQ (K : PySem.W.Frag) (c : Cc) (H : Hp) (Q : VK) : Nat → W → Prop := fun d w => ∀ v H', Step c H H' → StOk c d H' → Rep K c H' w v → Q v H'
def PQL (K : PySem.W.Frag) (c : Cc) (H : Hp) (Q : List V → Hp → Prop) : Nat → List W → Prop := fun d ws => ∀ vs H', Step c H H' → StOk c d H' → RepL K c H' ws vs → Q vs H'
def PB (c : Cc) (H : Hp) (Q : Bool → Hp → Prop) : Nat → Bool → Prop := fun d b => ∀ H', Step c H H' → StOk c d H' → Q b H'
theorem PB.later {c : Cc} {H H1 : Hp} {Q : Bool → Hp → Prop} {d : Nat} {b : Bool} (s : Step c H H1) (h : PB c H Q d b) : PB c H1 Q d b := fun H' st so => h H' (s.trans st) so
def PX (K : PySem.W.Frag) (c : Cc) (H : Hp) (E : XK) : Nat → Nat → List W → Prop := fun d n fs => ∀ cls dx H', Step c H H' → StOk c d H' → RepX K c H' n fs cls dx → E cls dx H'
theorem PQ.later {K : PySem.W.Frag} {c : Cc} {H H1 : Hp} {Q : VK} {d : Nat} {w : W} (s : Step c H H1) (h : PQ K c H Q d w) : PQ K c H1 Q d w := fun v H' st so r => h v H' (s.trans st) so r
theorem PQL.later {K : PySem.W.Frag} {c : Cc} {H H1 : Hp} {Q : List V → Hp → Prop} {d : Nat} {w : List W} (s : Step c H H1) (h : PQL K c H Q d w) : PQL K c H1 Q d w := fun v H' st so r => h v H' (s.trans st) so r
theorem PX.later {K : PySem.W.Frag} {c : Cc} {H H1 : Hp} {E : XK} {d n : Nat} {fs : List W} (s : Step c H H1) (h : PX K c H E d n fs) : PX K c H1 E d n fs := fun v dx H' st so r => h v dx H' (s.trans st) so r
def liftE (K : PySem.W.Frag) (E : WX) (f : En → T W) : TE := fun σ H Q => ∃ c d oa ρ, EnvOk K c d oa ρ σ H ∧ (f ρ).AllB (PQ K c H Q) (PX K c H fun cls dx H' => E cls dx σ H') d
def liftA (K : PySem.W.Frag) (E : WX) (f : En → T (List W)) : TA := fun σ H Q => ∃ c d oa ρ, EnvOk K c d oa ρ σ H ∧ (f ρ).AllB (PQL K c H Q) (PX K c H fun cls dx H' => E cls dx σ H') d
def liftB (K : PySem.W.Frag) (E : WX) (f : En → T Bool) : TT := fun σ H Q => ∃ c d oa ρ, EnvOk K c d oa ρ σ H ∧ (f ρ).AllB (PB c H Q) (PX K c H fun cls dx H' => E cls dx σ H') d
def TrE (X : Cx) (E : WX) (e : Expr) (f : En → T W) : Prop := PE X e (liftE X.K E f)
def TrA (X : Cx) (E : WX) (es : List Expr) (f : En → T (List W)) : Prop := PA X es (liftA X.K E f)
def TrB (X : Cx) (E : WX) (e : Expr) (f : En → T Bool) : Prop := PT X e (liftB X.K E f)
theorem pe_imp {X : Cx} {e : Expr} {t t' : TE} (h : PE X e t) (i : ∀ σ H Q, t' σ H Q → t σ H Q) : PE X e t' := ⟨fun pins s σ H Q I q => h.run pins s σ H Q I (i σ H Q q)⟩
theorem pa_imp {X : Cx} {e : List Expr} {t t' : TA} (h : PA X e t) (i : ∀ σ H Q, t' σ H Q → t σ H Q) : PA X e t' := ⟨fun pos pins s σ H Q I q => h.run pos pins s σ H Q I (i σ H Q q)⟩
theorem pt_imp {X : Cx} {e : Expr} {t t' : TT} (h : PT X e t) (i : ∀ σ H Q, t' σ H Q → t σ H Q) : PT X e t' := ⟨fun pins s σ H Q I q => h.run pins s σ H Q I (i σ H Q q)⟩
theorem pw_imp {X : Cx} {e : Expr} {t t' : TT} (h : PW X e t) (i : ∀ σ H Q, t' σ H Q → t σ H Q) : PW X e t' := ⟨fun wh pins s σ H Q I q => h.run wh pins s σ H Q I (i σ H Q q)⟩
theorem ps_imp {X : Cx} {e : Stmt} {t t' : TS} (h : PS X e t) (i : ∀ D σ H, t' D σ H → t D σ H) : PS X e t' := ⟨fun pins s σ H D I q => h.run pins s σ H D I (i D σ H q)⟩
theorem pss_imp {X : Cx} {e : List Stmt} {t t' : TS} (h : PSs X e t) (i : ∀ D σ H, t' D σ H → t D σ H) : PSs X e t' := ⟨fun pins s σ H D I q => h.run pins s σ H D I (i D σ H q)⟩
section
variable {K : PySem.W.Frag} {E : WX} {f : En → T W} {g : W → T W} {c : Cc} {d : Nat} {oa : Nat → Addr} {ρ : En} {σ : St} {H : Hp} {Q : VK}
/-- a run, then something of its value -/
theorem lift_then {β : Type} {P : Cc → Hp → Nat → β → Prop} {G : W → T β} {R : V → Hp → Prop} (e : EnvOk K c d oa ρ σ H) (h : ((f ρ).bind G).AllB (P c H) (PX K c H fun cls dx H' => E cls dx σ H') d)
    (lt : ∀ {H1 d' b}, Step c H H1 → P c H d' b → P c H1 d' b)
    (go : ∀ w v H1 d1, Step c H H1 → Rep K c H1 w v → EnvOk K c d1 oa ρ σ H1 → (G w).AllB (P c H1) (PX K c H1 fun cls dx H' => E cls dx σ H') d1 → R v H1) : liftE K E f σ H R := by
  refine ⟨c, d, oa, ρ, e, T.AllB.imp (fun d1 w x => ?_) (fun _ _ _ x => x) (T.allB_bind.mp h)⟩
  intro v H1 st so r
  exact go w v H1 d1 st r (e.step st so) (T.AllB.imp (fun _ _ y => lt st y) (fun _ _ _ y => y.later st) x)
theorem liftB_then {β : Type} {fb : En → T Bool} {P : Cc → Hp → Nat → β → Prop} {G : Bool → T β} {R : Bool → Hp → Prop} (e : EnvOk K c d oa ρ σ H) (h : ((fb ρ).bind G).AllB (P c H) (PX K c H fun cls dx H' => E cls dx σ H') d)
    (lt : ∀ {H1 d' b}, Step c H H1 → P c H d' b → P c H1 d' b)
    (go : ∀ b H1 d1, Step c H H1 → EnvOk K c d1 oa ρ σ H1 → (G b).AllB (P c H1) (PX K c H1 fun cls dx H' => E cls dx σ H') d1 → R b H1) : liftB K E fb σ H R := by
  refine ⟨c, d, oa, ρ, e, T.AllB.imp (fun d1 w x => ?_) (fun _ _ _ x => x) (T.allB_bind.mp h)⟩
  intro H1 st so
  exact go w H1 d1 st (e.step st so) (T.AllB.imp (fun _ _ y => lt st y) (fun _ _ _ y => y.later st) x)
theorem liftA_then {β : Type} {fs : En → T (List W)} {P : Cc → Hp → Nat → β → Prop} {G : List W → T β} {R : List V → Hp → Prop} (e : EnvOk K c d oa ρ σ H) (h : ((fs ρ).bind G).AllB (P c H) (PX K c H fun cls dx H' => E cls dx σ H') d)
    (lt : ∀ {H1 d' b}, Step c H H1 → P c H d' b → P c H1 d' b)
    (go : ∀ w v H1 d1, Step c H H1 → RepL K c H1 w v → EnvOk K c d1 oa ρ σ H1 → (G w).AllB (P c H1) (PX K c H1 fun cls dx H' => E cls dx σ H') d1 → R v H1) : liftA K E fs σ H R := by
  refine ⟨c, d, oa, ρ, e, T.AllB.imp (fun d1 w x => ?_) (fun _ _ _ x => x) (T.allB_bind.mp h)⟩
  intro v H1 st so r
  exact go w v H1 d1 st r (e.step st so) (T.AllB.imp (fun _ _ y => lt st y) (fun _ _ _ y => y.later st) x)
end
end PF
namespace PF
open PySem PySem.Spec PyProof.Rows L2
section
variable {K : PySem.W.Frag} {c : Cc} {d : Nat} {H : Hp} {Q : VK} {E' : Nat → Nat → List W → Prop}
theorem PQ.now {w : W} {v : V} (wd : Wd c d H) (h : PQ K c H Q d w) (r : Rep K c H w v) : Q v H := h v H (.refl c H) wd.st r
theorem PQ.tup {ws : List W} {vs : List V} {p : Addr} (wd : Wd c d H) (h : PQ K c H Q d (.tup ws)) (r : RepL K c H ws vs) (n : H p = none) : Q (.ref p) (upd H p (.tup vs)) :=
  h _ _ (.new n) (wd.st.new n) (.tup (.of upd_same) (r.step (.new n) wd.st wd.ok))
theorem PQ.lst {ws : List W} {vs : List V} {p : Addr} (wd : Wd c d H) (h : PQ K c H Q d (.lst ws)) (r : RepL K c H ws vs) (n : H p = none) : Q (.ref p) (upd H p (.lst vs)) :=
  h _ _ (.new n) (wd.st.new n) (.lst (wd.fresh n) upd_same (r.step (.new n) wd.st wd.ok))
end
def gV (i : Nat) (ρ : En) : T W := match ρ[i]? with
  | some (.val w) => .ok w
  | _ => .bad
section
variable {X : Cx} {E : WX}
theorem gV_ok {K : PySem.W.Frag} {c : Cc} {d : Nat} {oa : Nat → Addr} {ρ : En} {σ : St} {H : Hp} {i : Nat} {P : Nat → W → Prop} {E' : Nat → Nat → List W → Prop} (e : EnvOk K c d oa ρ σ H) (h : (gV i ρ).AllB P E' d) :
    ∃ w v, σ[i]? = some (some v) ∧ Rep K c H w v ∧ P d w := by
  unfold gV at h
  split at h
  · rename_i w hw
    obtain ⟨v, h1, h2⟩ := e.val i w hw
    exact ⟨w, v, h1, h2, h⟩
  · exact h.elim
theorem tr_var (i : Nat) {x : Str} {pos : Pos} (hN : X.N[i]? = some x := by rfl) (hv : Vis X.env.scope x := by first | exact Or.inl rfl | exact Or.inr (Or.inl rfl) | exact Or.inr (Or.inr rfl)) (hd : (x == ("__debug__" : Str)) = false := by decide)
    (hcd : (x == ("__classdict__" : Str)) = false := by decide) : TrE X E (.Name x pos) (gV i) := pe_imp (pe_var hN hv hd hcd) fun σ H Q h => by
  obtain ⟨c, d, oa, ρ, e, h⟩ := h
  obtain ⟨w, v, h1, h2, h3⟩ := gV_ok e h
  exact ⟨v, h1, PQ.now e.wd h3 h2⟩
theorem tr_const {e : Expr} {v : V} {w : W} (h : PE X e (tC v)) (r : ∀ c H, Rep X.K c H w v) : TrE X E e (fun _ => .ok w) := pe_imp h fun σ H Q h => by
  obtain ⟨c, d, oa, ρ, e, h⟩ := h
  exact PQ.now e.wd h (r c H)
theorem tr_int {i j pos} : TrE X E (.Constant (.int i) j pos) (fun _ => .ok (.int i)) := tr_const pe_int fun _ _ => .int i
theorem tr_bl {b j pos} : TrE X E (.Constant (.bool b) j pos) (fun _ => .ok (.bl b)) := tr_const pe_bl fun _ _ => .bl b
theorem tr_non {j pos} : TrE X E (.Constant .none j pos) (fun _ => .ok .non) := tr_const pe_non fun _ _ => .non
theorem tr_str {x j pos} : TrE X E (.Constant (.str x) j pos) (fun _ => .ok (.str x)) := tr_const pe_str fun _ _ => .str x
theorem tr_glob {x : Str} {v : V} {u : Value} {w : W} {pos : Pos} (hg : Gl X x) (hm : X.mg x = some u) (r : RelV v u) (rw_ : ∀ c H, Rep X.K c H w v) (hd : (x == ("__debug__" : Str)) = false := by decide) : TrE X E (.Name x pos) (fun _ => .ok w) :=
  tr_const (pe_glob hg hm r hd) rw_
end
def f2 (g : W → W → T W) (fa fb : En → T W) : En → T W := fun ρ => (fa ρ).bind fun x => (fb ρ).bind fun y => g x y
def f1 (g : W → T W) (fa : En → T W) : En → T W := fun ρ => (fa ρ).bind g
def Sem2 (K : PySem.W.Frag) (r : R2) (g : W → W → T W) : Prop := ∀ (c : Cc) (d : Nat) (H : Hp) (x y : W) (v u : V) (Q : VK) (E' : Nat → Nat → List W → Prop), Wd c d H → Rep K c H x v → Rep K c H y u → (g x y).AllB (PQ K c H Q) E' d → r v u H Q
def Sem1 (K : PySem.W.Frag) (r : V → Hp → VK → Prop) (g : W → T W) : Prop := ∀ (c : Cc) (d : Nat) (H : Hp) (x : W) (v : V) (Q : VK) (E' : Nat → Nat → List W → Prop), Wd c d H → Rep K c H x v → (g x).AllB (PQ K c H Q) E' d → r v H Q
def SemL (K : PySem.W.Frag) (r : List V → Hp → VK → Prop) (g : List W → T W) : Prop := ∀ (c : Cc) (d : Nat) (H : Hp) (x : List W) (v : List V) (Q : VK) (E' : Nat → Nat → List W → Prop), Wd c d H → RepL K c H x v → (g x).AllB (PQ K c H Q) E' d → r v H Q
section
variable {X : Cx} {E : WX} {a b cc : Expr} {fa fb fc : En → T W} {g : W → W → T W} {g1 : W → T W} {r r' : R2} {pos : Pos}
theorem two (hs : Sem2 X.K r g) : ∀ σ H Q, liftE X.K E (f2 g fa fb) σ H Q → tOp r (liftE X.K E fa) (liftE X.K E fb) σ H Q := fun σ H Q h => by
  obtain ⟨c, d, oa, ρ, e, h⟩ := h
  refine lift_then (P := fun c H => PQ X.K c H Q) e h (fun st p => p.later st) fun w v H1 d1 _ r1 e1 h1 => ?_
  refine lift_then (P := fun c H => PQ X.K c H Q) e1 h1 (fun st p => p.later st) fun w2 v2 H2 d2 st2 r2 e2 h2 => ?_
  exact hs c d2 H2 w w2 v v2 Q _ e2.wd (r1.step st2 e1.st e1.ok) r2 h2
theorem one {r1 : V → Hp → VK → Prop} (hs : Sem1 X.K r1 g1) : ∀ σ H Q, liftE X.K E (f1 g1 fa) σ H Q → tUn r1 (liftE X.K E fa) σ H Q := fun σ H Q h => by
  obtain ⟨c, d, oa, ρ, e, h⟩ := h
  refine lift_then (P := fun c H => PQ X.K c H Q) e h (fun st p => p.later st) fun w v H1 d1 _ r1 e1 h1 => ?_
  exact hs c d1 H1 w v Q _ e1.wd r1 h1
theorem tr_op {op : Operator} (ho : OpR X (binaryOp op) r) (hs : Sem2 X.K r g) (ha : TrE X E a fa) (hb : TrE X E b fb) : TrE X E (.BinOp a op b pos) (f2 g fa fb) := pe_imp (pe_op ho ha hb) (two hs)
theorem tr_un {op : UnaryOp} {r1 : V → Hp → VK → Prop} (ho : UnR X (unaryOp op) r1) (hs : Sem1 X.K r1 g1) (ha : TrE X E a fa) : TrE X E (.UnaryOp op a pos) (f1 g1 fa) := pe_imp (pe_un ho ha) (one hs)
theorem tr_cmp {op : CmpOp} (ho : OpR X (compareOp op) r) (hs : Sem2 X.K r g) (ha : TrE X E a fa) (hb : TrE X E b fb) (hm : behindInMarks op b = false) : TrE X E (.Compare a [op] [b] pos) (f2 g fa fb) := pe_imp (pe_cmpR ho ha hb hm) (two hs)
theorem tr_ix (ho : IxR X r) (hs : Sem2 X.K r g) (ha : TrE X E a fa) (hb : TrE X E b fb) (hp : PlainIx b := by exact fun _ _ => rfl) : TrE X E (.Subscript a b pos) (f2 g fa fb) := pe_imp (pe_ix ho ha hb hp) (two hs)
/-- a op b op' c -/
def fCh (g g' : W → W → T W) (fa fb fc : En → T W) : En → T W := fun ρ => (fa ρ).bind fun x => (fb ρ).bind fun y => (g x y).bind fun z => match z with
  | .bl true => (fc ρ).bind fun w => g' y w
  | .bl false => .ok (.bl false)
  | _ => .bad
theorem tr_chain {op op' : CmpOp} {g' : W → W → T W} (ho : OpR X (compareOp op) r) (ho' : OpR X (compareOp op') r') (hs : Sem2 X.K r g) (hs' : Sem2 X.K r' g') (ha : TrE X E a fa) (hb : TrE X E b fb) (hc : TrE X E cc fc)
    (hm : lastMarks [op, op'] [b, cc] = false := by with_unfolding_all rfl) : TrE X E (.Compare a [op, op'] [b, cc] pos) (fCh g g' fa fb fc) := pe_imp (pe_chain ho ho' ha hb hc hm) fun σ H Q h => by
  obtain ⟨c, d, oa, ρ, e, h⟩ := h
  refine lift_then (P := fun c H => PQ X.K c H Q) e h (fun st p => p.later st) fun w v H1 d1 _ r1 e1 h1 => ?_
  refine lift_then (P := fun c H => PQ X.K c H Q) e1 h1 (fun st p => p.later st) fun w2 v2 H2 d2 st2 r2 e2 h2 => ?_
  refine hs c d2 H2 w w2 v v2 _ _ e2.wd (r1.step st2 e1.st e1.ok) r2 (T.AllB.imp (fun d3 z hz => ?_) (fun _ _ _ y => y) (T.allB_bind.mp h2))
  intro vz H3 st3 so3 rz
  have e3 := e2.step st3 so3
  cases z with
  | bl k =>
    cases rz
    refine ⟨k, rfl, ?_⟩
    cases k with
    | false => exact iteF (PQ.now e3.wd (PQ.later st3 hz) (.bl false))
    | true =>
      refine iteT (lift_then (P := fun c H => PQ X.K c H Q) e3 (T.AllB.imp (fun _ _ y => y.later st3) (fun _ _ _ y => y.later st3) hz) (fun st p => p.later st) fun w4 v4 H4 d4 st4 r4 e4 h4 => ?_)
      exact hs' c d4 H4 w2 w4 v2 v4 Q _ e4.wd ((r2.step st3 e2.st e2.ok).step st4 e3.st e3.ok) r4 h4
  | _ => exact hz.elim
end
theorem T.AllB.ite {α : Type} {P : Nat → α → Prop} {E : Nat → Nat → List W → Prop} {d : Nat} {b : Bool} {t : T α} (h : (if b then t else .bad).AllB P E d) : b = true ∧ t.AllB P E d := by
  cases b with
  | true => exact ⟨rfl, h⟩
  | false => exact h.elim
@[irreducible] def strOk (x : Str) : Bool := decide (x.length ≤ 16777216)
theorem strOk_of {x : Str} (h : strOk x = true) : x.length ≤ sizeLine := by
  rw [sizeLine_eq]
  unfold strOk at h
  exact of_decide_eq_true h
def truW : W → T Bool
  | .non => .ok false
  | .bl b => .ok b
  | .int i => .ok (i != 0)
  | .str y => if strOk y then .ok ((y.length : Int) != 0) else .bad
  | .tup ws => .ok !ws.isEmpty
  | .lst ws => .ok !ws.isEmpty
  | .dct ks _ => .ok !ks.isEmpty
  | _ => .bad
/-- a bool alone -/
def blW : W → T Bool
  | .bl b => .ok b
  | _ => .bad
def fTru (fa : En → T W) : En → T Bool := fun ρ => (fa ρ).bind truW
def fBl (fa : En → T W) : En → T Bool := fun ρ => (fa ρ).bind blW
theorem RepL.empty {K : PySem.W.Frag} {c : Cc} {H : Hp} {ws : List W} {vs : List V} (r : RepL K c H ws vs) : (!ws.isEmpty) = !vs.isEmpty := by
  cases r <;> rfl
section
variable {X : Cx} {E : WX} {a b cc : Expr} {fa fb fc : En → T W} {ta tb : En → T Bool} {g g' : W → W → T W} {r r' : R2} {pos : Pos} {rest : List Expr}
theorem trb_tru (ha : TrE X E a fa) (he : ∀ whole, isTrue a X.env whole = (do let v ← whole; standAt a.pos; holding [v] (truthy v)) := by intro _; rfl) : TrB X E a (fTru fa) := pt_imp (pt_truth ha he) fun σ H Q h => by
  obtain ⟨c, d, oa, ρ, e, h⟩ := h
  refine lift_then (P := fun c H => PB c H Q) e h (fun st p => p.later st) fun w v H1 d1 _ r1 e1 h1 => ?_
  have now : ∀ {b : Bool}, PB c H1 Q d1 b → Q b H1 := fun h => h H1 (.refl c H1) e1.st
  cases r1 with
  | non => exact ⟨false, rfl, now h1⟩
  | bl b => exact ⟨b, rfl, now h1⟩
  | int i => exact ⟨i != 0, rfl, now h1⟩
  | str x =>
    obtain ⟨hz, h1⟩ := T.AllB.ite h1
    exact ⟨_, ⟨strOk_of hz, rfl⟩, now h1⟩
  | tup h rl => exact ⟨_, .inr (.inl ⟨_, h, rl.empty⟩), now h1⟩
  | lst n h rl => exact ⟨_, .inl ⟨_, SqL.of h, rl.empty⟩, now h1⟩
  | dct n h rl => exact ⟨_, .inr (.inr ⟨_, h, by simp⟩), now h1⟩
  | scr h => exact h1.elim
  | stt => exact h1.elim
theorem bl_then {Q : Bool → Hp → Prop} : ∀ σ H, liftB X.K E (fBl fa) σ H Q → liftE X.K E fa σ H fun x H' => ∃ k, x = .bl k ∧ Q k H' := fun σ H h => by
  obtain ⟨c, d, oa, ρ, e, h⟩ := h
  refine lift_then (P := fun c H => PB c H Q) e h (fun st p => p.later st) fun w v H1 d1 _ r1 e1 h1 => ?_
  cases r1 with
  | bl b => exact ⟨b, rfl, h1 H1 (.refl c H1) e1.st⟩
  | _ => exact h1.elim
/-- a comparison's test, by the test's own form of the reading -/
theorem trb_of {t : TE} (hp : PT X a (tTest t)) (i : ∀ σ H Q, liftE X.K E fa σ H Q → t σ H Q) : TrB X E a (fBl fa) := pt_imp hp fun σ H Q h => i σ H _ (bl_then σ H h)
theorem trb_cmp {op : CmpOp} (ho : OpR X (compareOp op) r) (hs : Sem2 X.K r g) (ha : TrE X E a fa) (hb : TrE X E b fb) (hm : behindInMarks op b = false) : TrB X E (.Compare a [op] [b] pos) (fBl (f2 g fa fb)) := trb_of (pt_cmpR ho ha hb hm) (two hs)
def fNot (ta : En → T Bool) : En → T Bool := fun ρ => (ta ρ).bind fun b => .ok !b
def fAnd (ta tb : En → T Bool) : En → T Bool := fun ρ => (ta ρ).bind fun b => if b then tb ρ else .ok false
def fOr (ta tb : En → T Bool) : En → T Bool := fun ρ => (ta ρ).bind fun b => if b then .ok true else tb ρ
theorem PB.now {c : Cc} {d : Nat} {H : Hp} {Q : Bool → Hp → Prop} {b : Bool} (wd : Wd c d H) (h : PB c H Q d b) : Q b H := h H (.refl c H) wd.st
theorem trb_not (ha : TrB X E a ta) : TrB X E (.UnaryOp .Not a pos) (fNot ta) := pt_imp (pt_not ha) fun σ H Q h => by
  obtain ⟨c, d, oa, ρ, e, h⟩ := h
  exact liftB_then (P := fun c H => PB c H Q) e h (fun st p => p.later st) fun b H1 d1 _ e1 h1 => PB.now e1.wd h1
def TrW (X : Cx) (E : WX) (e : Expr) (f : En → T Bool) : Prop := PW X e (liftB X.K E f)
theorem TrW.toB (h : TrW X E a ta) : TrB X E a ta := PW.pt h
theorem trw_and1 (ha : TrB X E a ta) : TrW X E (.BoolOp .And [a] pos) ta := pw_and1 ha
theorem trw_or1 (ha : TrB X E a ta) : TrW X E (.BoolOp .Or [a] pos) ta := pw_or1 ha
theorem trw_and (ha : TrB X E a ta) (hb : TrW X E (.BoolOp .And (b :: rest) pos) tb) : TrW X E (.BoolOp .And (a :: b :: rest) pos) (fAnd ta tb) := pw_imp (pw_and ha hb) fun σ H Q h => by
  obtain ⟨c, d, oa, ρ, e, h⟩ := h
  refine liftB_then (P := fun c H => PB c H Q) e h (fun st p => p.later st) fun b H1 d1 _ e1 h1 => ?_
  cases b with
  | true => exact iteT ⟨c, d1, oa, ρ, e1, h1⟩
  | false => exact iteF (PB.now e1.wd h1)
theorem trw_or (ha : TrB X E a ta) (hb : TrW X E (.BoolOp .Or (b :: rest) pos) tb) : TrW X E (.BoolOp .Or (a :: b :: rest) pos) (fOr ta tb) := pw_imp (pw_or ha hb) fun σ H Q h => by
  obtain ⟨c, d, oa, ρ, e, h⟩ := h
  refine liftB_then (P := fun c H => PB c H Q) e h (fun st p => p.later st) fun b H1 d1 _ e1 h1 => ?_
  cases b with
  | false => exact iteF ⟨c, d1, oa, ρ, e1, h1⟩
  | true => exact iteT (PB.now e1.wd h1)
def fAndV (fa fb : En → T W) : En → T W := fun ρ => (fa ρ).bind fun x => match x with
  | .bl true => fb ρ
  | .bl false => .ok (.bl false)
  | _ => .bad
def fOrV (fa fb : En → T W) : En → T W := fun ρ => (fa ρ).bind fun x => match x with
  | .bl false => fb ρ
  | .bl true => .ok (.bl true)
  | _ => .bad
def fNotV (fa : En → T W) : En → T W := fun ρ => (fa ρ).bind fun x => match x with
  | .bl b => .ok (.bl !b)
  | _ => .bad
def fIf (t : En → T Bool) (fa fb : En → T W) : En → T W := fun ρ => (t ρ).bind fun b => if b then fa ρ else fb ρ
theorem tr_one {op} (h : TrE X E a fa) : TrE X E (.BoolOp op [a] pos) fa := pe_one h
theorem tr_and (ha : TrE X E a fa) (hb : TrE X E (.BoolOp .And (b :: rest) pos) fb) : TrE X E (.BoolOp .And (a :: b :: rest) pos) (fAndV fa fb) := pe_imp (pe_and ha hb) fun σ H Q h => by
  obtain ⟨c, d, oa, ρ, e, h⟩ := h
  refine lift_then (P := fun c H => PQ X.K c H Q) e h (fun st p => p.later st) fun w v H1 d1 _ r1 e1 h1 => ?_
  cases r1 with
  | bl b =>
    refine ⟨b, rfl, ?_⟩
    cases b with
    | true => exact iteT ⟨c, d1, oa, ρ, e1, h1⟩
    | false => exact iteF (PQ.now e1.wd h1 (.bl false))
  | _ => exact h1.elim
theorem tr_or (ha : TrE X E a fa) (hb : TrE X E (.BoolOp .Or (b :: rest) pos) fb) : TrE X E (.BoolOp .Or (a :: b :: rest) pos) (fOrV fa fb) := pe_imp (pe_or ha hb) fun σ H Q h => by
  obtain ⟨c, d, oa, ρ, e, h⟩ := h
  refine lift_then (P := fun c H => PQ X.K c H Q) e h (fun st p => p.later st) fun w v H1 d1 _ r1 e1 h1 => ?_
  cases r1 with
  | bl b =>
    refine ⟨b, rfl, ?_⟩
    cases b with
    | false => exact iteF ⟨c, d1, oa, ρ, e1, h1⟩
    | true => exact iteT (PQ.now e1.wd h1 (.bl true))
  | _ => exact h1.elim
theorem tr_not (ha : TrE X E a fa) : TrE X E (.UnaryOp .Not a pos) (fNotV fa) := pe_imp (pe_not ha) fun σ H Q h => by
  obtain ⟨c, d, oa, ρ, e, h⟩ := h
  refine lift_then (P := fun c H => PQ X.K c H Q) e h (fun st p => p.later st) fun w v H1 d1 _ r1 e1 h1 => ?_
  cases r1 with
  | bl b => exact ⟨b, rfl, PQ.now e1.wd h1 (.bl _)⟩
  | _ => exact h1.elim
theorem tr_if (ht : TrB X E cc ta) (ha : TrE X E a fa) (hb : TrE X E b fb) : TrE X E (.IfExp cc a b pos) (fIf ta fa fb) := pe_imp (pe_ifExp ht ha hb) fun σ H Q h => by
  obtain ⟨c, d, oa, ρ, e, h⟩ := h
  refine liftB_then (P := fun c H => PQ X.K c H Q) e h (fun st p => p.later st) fun b H1 d1 _ e1 h1 => ?_
  cases b with
  | true => exact iteT ⟨c, d1, oa, ρ, e1, h1⟩
  | false => exact iteF ⟨c, d1, oa, ρ, e1, h1⟩
end
def fNil : En → T (List W) := fun _ => .ok []
def fCons (fa : En → T W) (fs : En → T (List W)) : En → T (List W) := fun ρ => (fa ρ).bind fun x => (fs ρ).bind fun xs => .ok (x :: xs)
@[irreducible] def sizeOk (ws : List W) : Bool := decide (ws.length ≤ 16777216)
theorem sizeOk_of {ws : List W} (h : sizeOk ws = true) : ws.length ≤ sizeLine := by
  rw [sizeLine_eq]
  unfold sizeOk at h
  exact of_decide_eq_true h
def mkTup (ws : List W) : T W := if sizeOk ws then .ok (.tup ws) else .bad
def mkLst (ws : List W) : T W := if sizeOk ws then .ok (.lst ws) else .bad
def fL (fs : En → T (List W)) (g : List W → T W) : En → T W := fun ρ => (fs ρ).bind g
section
variable {X : Cx} {E : WX} {e : Expr} {es : List Expr} {fa : En → T W} {fs : En → T (List W)} {pos : Pos}
theorem tra_nil : TrA X E [] fNil := pa_imp pa_nil fun σ H Q h => by
  obtain ⟨c, d, oa, ρ, e, h⟩ := h
  exact h [] H (.refl c H) e.st .nil
theorem tra_cons (ha : TrE X E e fa) (hr : TrA X E es fs) (hs : starEach (e :: es) X.env = (false, eval e X.env) :: starEach es X.env := by rfl) : TrA X E (e :: es) (fCons fa fs) := pa_imp (pa_cons ha hr hs) fun σ H Q h => by
  obtain ⟨c, d, oa, ρ, e, h⟩ := h
  refine lift_then (P := fun c H => PQL X.K c H Q) e h (fun st p => p.later st) fun w v H1 d1 _ r1 e1 h1 => ?_
  refine liftA_then (P := fun c H => PQL X.K c H Q) e1 h1 (fun st p => p.later st) fun w2 v2 H2 d2 st2 r2 e2 h2 => ?_
  exact h2 _ H2 (.refl c H2) e2.st (.cons (r1.step st2 e1.st e1.ok) r2)
theorem tr_tup {x1} (h : TrA X E es fs) : TrE X E (.Tuple es x1 pos) (fL fs mkTup) := pe_imp (pe_tup h) fun σ H Q h => by
  obtain ⟨c, d, oa, ρ, e, h⟩ := h
  refine liftA_then (P := fun c H => PQ X.K c H Q) e h (fun st p => p.later st) fun w v H1 d1 _ r1 e1 h1 => ?_
  obtain ⟨h2, h1⟩ := T.AllB.ite h1
  exact ⟨by rw [← r1.length]; exact sizeOk_of h2, fun p n => PQ.tup e1.wd h1 r1 n⟩
theorem tr_lst (h : TrA X E es fs) : TrE X E (.List es pos) (fL fs mkLst) := pe_imp (pe_lst h) fun σ H Q h => by
  obtain ⟨c, d, oa, ρ, e, h⟩ := h
  refine liftA_then (P := fun c H => PQ X.K c H Q) e h (fun st p => p.later st) fun w v H1 d1 _ r1 e1 h1 => ?_
  obtain ⟨h2, h1⟩ := T.AllB.ite h1
  exact ⟨by rw [← r1.length]; exact sizeOk_of h2, fun p n => PQ.lst e1.wd h1 r1 n⟩
theorem callL {r : List V → Hp → VK → Prop} {g : List W → T W} (hs : SemL X.K r g) : ∀ σ H Q, liftE X.K E (fL fs g) σ H Q → tCB r (liftA X.K E fs) σ H Q := fun σ H Q h => by
  obtain ⟨c, d, oa, ρ, e, h⟩ := h
  refine liftA_then (P := fun c H => PQ X.K c H Q) e h (fun st p => p.later st) fun w v H1 d1 _ r1 e1 h1 => ?_
  exact hs c d1 H1 w v Q _ e1.wd r1 h1
/-- a built-in function, a built-in type, called -/
theorem tr_callB {r : List V → Hp → VK → Prop} {g : List W → T W} {x : Str} {p : Pos} {id : String} (hc : CallR X (.builtin id) r) (hs : SemL X.K r g) (hg : Gl X x) (hm : X.mg x = none) (hv : bootBuiltins x = some (.builtin id)) (ha : TrA X E (e :: es) fs) (hn : x ≠ "__name__" := by decide) (hdb : (x == ("__debug__" : Str)) = false := by decide)
    (he : starEach (e :: es) X.env = (false, eval e X.env) :: starEach es X.env := by rfl) (hpl : (backTo pos (starEach es X.env)).any (·.1) = false := by rfl) : TrE X E (.Call (.Name x p) (e :: es) [] pos) (fL fs g) :=
  pe_imp (pe_callB hc hg hm hv ha hn hdb he hpl) (callL hs)
theorem tr_callTy {r : List V → Hp → VK → Prop} {g : List W → T W} {x : Str} {p : Pos} {id : String} (hc : CallR X (.type id) r) (hs : SemL X.K r g) (hg : Gl X x) (hm : X.mg x = none) (hv : bootBuiltins x = some (.type id)) (ha : TrA X E (e :: es) fs) (hn : x ≠ "__name__" := by decide) (hdb : (x == ("__debug__" : Str)) = false := by decide)
    (he : starEach (e :: es) X.env = (false, eval e X.env) :: starEach es X.env := by rfl) (hpl : (backTo pos (starEach es X.env)).any (·.1) = false := by rfl) : TrE X E (.Call (.Name x p) (e :: es) [] pos) (fL fs g) :=
  pe_imp (pe_callTy hc hg hm hv ha hn hdb he hpl) (callL hs)
end
def SpF (K : PySem.W.Frag) (F : List W → T W) : Sp := fun vs H Q E => ∃ c d ws, c.T = tabL K ∧ Wd c d H ∧ RepL K c H ws vs ∧ (F ws).AllB (PQ K c H Q) (PX K c H E) d
section
variable {X : Cx} {E : WX} {e : Expr} {es : List Expr} {fs : En → T (List W)} {pos p : Pos} {F : List W → T W} {k : Nat} {f : Addr} {fd : FuncData} {ps : List Str} {x : Str}
theorem tr_call (G : FnOk X.prog X.w X.K X.mg X.base (L2.CX X.prog X.w) k f fd ps (SpF X.K F)) (hr : Room k X.A) (tk : Takes X E) (hg : Gl X x) (hm : X.mg x = some (.ref f)) (hk : PySem.W.keepIn X.K (.ref f) = true) (hb : Binds X.K fd ps []) (ha : TrA X E (e :: es) fs)
    (hdb : (x == ("__debug__" : Str)) = false := by decide) (he : starEach (e :: es) X.env = (false, eval e X.env) :: starEach es X.env := by rfl) (hpl : (backTo pos (starEach es X.env)).any (·.1) = false := by rfl) :
    TrE X E (.Call (.Name x p) (e :: es) [] pos) (fL fs F) := pe_imp (pe_callSD (E := fun σ => WE E σ) G hr hg hm hk hb .nil (fun σ => passAt tk σ) ha hdb he hpl) fun σ H Q h => by
  obtain ⟨c, d, oa, ρ, e, h⟩ := h
  refine liftA_then (P := fun c H => PQ X.K c H Q) e h (fun st p => p.later st) fun w v H1 d1 _ r1 e1 h1 => ?_
  exact ⟨c, d1, w, e1.tT, e1.wd, by rw [List.append_nil]; exact r1, h1⟩
end
end PF
namespace PF
open PySem PySem.Spec PyProof.Rows L2
structure Fwd (K : PySem.W.Frag) (c : Cc) (H : Hp) (c' : Cc) (H' : Hp) : Prop where
  S : c'.S = c.S
  ca : c'.ca = c.ca
  la : c'.la = c.la
  T : c'.T = c.T
  sub : ∀ b ∈ c.A, b ∉ c.M → b ∈ c'.A
  fr : ∀ b ∈ c'.M, b ∈ c.M ∨ (b ∉ c.A ∧ b ≠ c.S ∧ b ≠ c.la ∧ H b = none)
  step : ∀ b o, H b = some o → b ≠ c.S → b ≠ c.la → b ∉ c.M → NoT o → H' b = some o
  tbl : ∀ b ps, H b = some (.tbl ps) → b ∉ c.M → ∃ more, H' b = some (.tbl (ps ++ more))
  rep : ∀ w v, Rep K c H w v → Rep K c' H' w v
  sq : ∀ a vs, SqT K H a vs → SqT K H' a vs
section
variable {K : PySem.W.Frag} {c c1 c2 : Cc} {d : Nat} {H H1 H2 : Hp}
theorem Fwd.refl : Fwd K c H c H := ⟨rfl, rfl, rfl, rfl, fun _ h _ => h, fun _ h => .inl h, fun _ _ h _ _ _ _ => h, fun _ ps h _ => ⟨#[], by rw [h]; simp⟩, fun _ _ h => h, fun _ _ h => h⟩
theorem Step.to (st : Step c1 H1 H2) (hS : c1.S = c.S) (hl : c1.la = c.la) : Step c H1 H2 := ⟨fun b o e h1 h2 h3 => st.keep b o e (by rw [hS]; exact h1) (by rw [hl]; exact h2) h3, st.tbl⟩
theorem Fwd.there {b : Addr} {o : HO} (f : Fwd K c H c1 H1) (h : H b = some o) (h1 : b ≠ c.S) (h2 : b ≠ c.la) (n : b ∉ c.M) : ∃ o', H1 b = some o' := by
  cases o with
  | tbl ps =>
    obtain ⟨m, e⟩ := f.tbl b ps h n
    exact ⟨_, e⟩
  | _ => exact ⟨_, f.step b _ h h1 h2 n nofun⟩
theorem Fwd.trans (a : Fwd K c H c1 H1) (b : Fwd K c1 H1 c2 H2) : Fwd K c H c2 H2 where
  S := b.S.trans a.S
  ca := b.ca.trans a.ca
  la := b.la.trans a.la
  T := b.T.trans a.T
  sub := fun x h n => b.sub x (a.sub x h n) fun z => by
    rcases a.fr x z with z | z
    · exact n z
    · exact z.1 h
  fr := fun x h => by
    rcases b.fr x h with z | ⟨z1, z2, z3, z4⟩
    · exact a.fr x z
    · rw [a.S] at z2
      rw [a.la] at z3
      by_cases hm : x ∈ c.M
      · exact .inl hm
      · refine .inr ⟨fun hA => z1 (a.sub x hA hm), z2, z3, ?_⟩
        cases hx : H x with
        | none => rfl
        | some o =>
          obtain ⟨o', e⟩ := a.there hx z2 z3 hm
          rw [e] at z4
          cases z4
  step := fun x o h h1 h2 n nt => b.step x o (a.step x o h h1 h2 n nt) (by rw [a.S]; exact h1) (by rw [a.la]; exact h2) (fun z => by
    rcases a.fr x z with z | z
    · exact n z
    · rw [h] at z
      cases z.2.2.2) nt
  tbl := fun x ps h n => by
    obtain ⟨m, e1⟩ := a.tbl x ps h n
    obtain ⟨m', e2⟩ := b.tbl x _ e1 (fun z => by
      rcases a.fr x z with z | z
      · exact n z
      · rw [h] at z
        cases z.2.2.2)
    exact ⟨m ++ m', by rw [e2, Array.append_assoc]⟩
  rep := fun w v h => b.rep w v (a.rep w v h)
  sq := fun x vs h => b.sq x vs (a.sq x vs h)
theorem Fwd.of (st : Step c H H1) (wd : Wd c d H) : Fwd K c H c H1 := ⟨rfl, rfl, rfl, rfl, fun _ h _ => h, fun _ h => .inl h, fun b o h h1 h2 _ nt => st.keep b o h h1 h2 nt, fun b ps h _ => st.tbl b ps h, fun _ _ h => h.step st wd.st wd.ok, fun _ _ h => st.sqT wd.st h⟩
mutual
theorem Rep.weak (hS : c1.S = c.S) (sub : ∀ b ∈ c.A, b ∈ c1.A) : ∀ {w : W} {v : V}, Rep K c1 H w v → Rep K c H w v
  | _, _, .non => .non
  | _, _, .bl b => .bl b
  | _, _, .int i => .int i
  | _, _, .str x => .str x
  | _, _, .tup h r => .tup h (RepL.weak hS sub r)
  | _, _, .lst n h r => .lst (fun z => n (sub _ z)) h (RepL.weak hS sub r)
  | _, _, .dct n h r => .dct (fun z => n (sub _ z)) h (RepL.weak hS sub r)
  | _, _, .scr h => .scr (h.imp (fun ⟨n, r⟩ => ⟨fun z => n (sub _ z), r⟩) id)
  | _, _, .stt => by rw [hS]; exact .stt
theorem RepL.weak (hS : c1.S = c.S) (sub : ∀ b ∈ c.A, b ∈ c1.A) : ∀ {ws : List W} {vs : List V}, RepL K c1 H ws vs → RepL K c H ws vs
  | _, _, .nil => .nil
  | _, _, .cons h r => .cons (Rep.weak hS sub h) (RepL.weak hS sub r)
end
theorem RepL.fwd (f : Fwd K c H c1 H1) : ∀ {ws : List W} {vs : List V}, RepL K c H ws vs → RepL K c1 H1 ws vs
  | _, _, .nil => .nil
  | _, _, .cons h r => .cons (f.rep _ _ h) (RepL.fwd f r)
theorem Fwd.sqT {a : Addr} {vs : List V} (f : Fwd K c H c1 H1) (wd : Wd c d H) (h : SqT K H a vs) : SqT K H1 a vs := f.sq a vs h
end
inductive Fl where
  | nx | rt (w : W) | bk | ct
def PSq (K : PySem.W.Frag) (c : Cc) (H : Hp) (D : Ends) : Nat → Fl × En → Prop := fun d x => ∀ c' oa' σ' H', Fwd K c H c' H' → EnvOk K c' d oa' x.2 σ' H' → match x.1 with
  | .nx => D.nx σ' H'
  | .bk => D.bk σ' H'
  | .ct => D.ct σ' H'
  | .rt w => ∀ v, Rep K c' H' w v → D.rt v H'
theorem PSq.later {K : PySem.W.Frag} {c c1 : Cc} {H H1 : Hp} {D : Ends} {d : Nat} {x : Fl × En} (f : Fwd K c H c1 H1) (h : PSq K c H D d x) : PSq K c1 H1 D d x := fun c' oa' σ' H' g e => h c' oa' σ' H' (f.trans g) e
/-- what is wanted of an error that leaves a statement -/
def PXs (K : PySem.W.Frag) (c : Cc) (H : Hp) (E : XK) : Nat → Nat → List W → Prop := fun d n fs => ∀ c' cls dx H', Fwd K c H c' H' → StOk c' d H' → RepX K c' H' n fs cls dx → E cls dx H'
theorem PXs.fwd {K : PySem.W.Frag} {c c1 : Cc} {H H1 : Hp} {E : XK} {d n : Nat} {fs : List W} (f : Fwd K c H c1 H1) (h : PXs K c H E d n fs) : PXs K c1 H1 E d n fs := fun c' cls dx H' g so r => h c' cls dx H' (f.trans g) so r
theorem PXs.later {K : PySem.W.Frag} {c : Cc} {d0 : Nat} {H H1 : Hp} {E : XK} {d n : Nat} {fs : List W} (wd : Wd c d0 H) (st : Step c H H1) (h : PXs K c H E d n fs) : PXs K c H1 E d n fs := h.fwd (.of st wd)
theorem PXs.toX {K : PySem.W.Frag} {c : Cc} {d0 : Nat} {H : Hp} {E : XK} {d n : Nat} {fs : List W} (wd : Wd c d0 H) (h : PXs K c H E d n fs) : PX K c H E d n fs := fun cls dx H' st so r => h c cls dx H' (.of st wd) so r
section
variable {K : PySem.W.Frag} {E : XK} {f : En → T W} {c : Cc} {d : Nat} {oa : Nat → Addr} {ρ : En} {σ : St} {H : Hp}
abbrev wOf (E : XK) : WX := fun cls dx _ H => E cls dx H
theorem lift_thenS {β : Type} {P : Cc → Hp → Nat → β → Prop} {G : W → T β} {R : V → Hp → Prop} (e : EnvOk K c d oa ρ σ H) (h : ((f ρ).bind G).AllB (P c H) (PXs K c H E) d)
    (lt : ∀ {H1 d' b}, Step c H H1 → P c H d' b → P c H1 d' b)
    (go : ∀ w v H1 d1, Step c H H1 → Rep K c H1 w v → EnvOk K c d1 oa ρ σ H1 → (G w).AllB (P c H1) (PXs K c H1 E) d1 → R v H1) : liftE K (wOf E) f σ H R := by
  refine ⟨c, d, oa, ρ, e, T.AllB.imp (fun d1 w x => ?_) (fun _ _ _ x => x.toX e.wd) (T.allB_bind.mp h)⟩
  intro v H1 st so r
  exact go w v H1 d1 st r (e.step st so) (T.AllB.imp (fun _ _ y => lt st y) (fun _ _ _ y => y.later e.wd st) x)
theorem liftB_thenS {β : Type} {fb : En → T Bool} {P : Cc → Hp → Nat → β → Prop} {G : Bool → T β} {R : Bool → Hp → Prop} (e : EnvOk K c d oa ρ σ H) (h : ((fb ρ).bind G).AllB (P c H) (PXs K c H E) d)
    (lt : ∀ {H1 d' b}, Step c H H1 → P c H d' b → P c H1 d' b)
    (go : ∀ b H1 d1, Step c H H1 → EnvOk K c d1 oa ρ σ H1 → (G b).AllB (P c H1) (PXs K c H1 E) d1 → R b H1) : liftB K (wOf E) fb σ H R := by
  refine ⟨c, d, oa, ρ, e, T.AllB.imp (fun d1 w x => ?_) (fun _ _ _ x => x.toX e.wd) (T.allB_bind.mp h)⟩
  intro H1 st so
  exact go w H1 d1 st (e.step st so) (T.AllB.imp (fun _ _ y => lt st y) (fun _ _ _ y => y.later e.wd st) x)
theorem liftA_thenS {β : Type} {fs : En → T (List W)} {P : Cc → Hp → Nat → β → Prop} {G : List W → T β} {R : List V → Hp → Prop} (e : EnvOk K c d oa ρ σ H) (h : ((fs ρ).bind G).AllB (P c H) (PXs K c H E) d)
    (lt : ∀ {H1 d' b}, Step c H H1 → P c H d' b → P c H1 d' b)
    (go : ∀ w v H1 d1, Step c H H1 → RepL K c H1 w v → EnvOk K c d1 oa ρ σ H1 → (G w).AllB (P c H1) (PXs K c H1 E) d1 → R v H1) : liftA K (wOf E) fs σ H R := by
  refine ⟨c, d, oa, ρ, e, T.AllB.imp (fun d1 w x => ?_) (fun _ _ _ x => x.toX e.wd) (T.allB_bind.mp h)⟩
  intro v H1 st so r
  exact go w v H1 d1 st r (e.step st so) (T.AllB.imp (fun _ _ y => lt st y) (fun _ _ _ y => y.later e.wd st) x)
end
/-- E is wanted of what is raised, at any slots -/
def liftS (K : PySem.W.Frag) (E : XK) (g : En → T (Fl × En)) : TS := fun D σ H => ∃ c d oa ρ, EnvOk K c d oa ρ σ H ∧ (g ρ).AllB (PSq K c H D) (PXs K c H E) d
def TrS (X : Cx) (E : XK) (st : Stmt) (g : En → T (Fl × En)) : Prop := PS X st (liftS X.K E g)
def TrSs (X : Cx) (E : XK) (sts : List Stmt) (g : En → T (Fl × En)) : Prop := PSs X sts (liftS X.K E g)
section
variable {K : PySem.W.Frag} {c : Cc} {d : Nat} {oa : Nat → Addr} {ρ : En} {σ : St} {H : Hp}
theorem getElem?_set_or {α : Type} {l : List α} {i j : Nat} {a x : α} (h : (l.set i a)[j]? = some x) : (j = i ∧ x = a) ∨ (j ≠ i ∧ l[j]? = some x) := by
  by_cases e : i = j
  · subst e
    by_cases hl : i < l.length
    · rw [List.getElem?_set_self hl] at h
      exact .inl ⟨rfl, (Option.some.inj h).symm⟩
    · rw [List.getElem?_eq_none (by simpa using hl)] at h
      cases h
  · rw [List.getElem?_set_ne e] at h
    exact .inr ⟨fun z => e z.symm, h⟩
theorem EnvOk.set {i : Nat} {w : W} {v : V} (e : EnvOk K c d oa ρ σ H) (r : Rep K c H w v) : EnvOk K c d oa (ρ.set i (.val w)) (σ.set i (some v)) H where
  ok := e.ok
  st := e.st
  av := e.av
  len := by rw [List.length_set, List.length_set]; exact e.len
  val := fun j x h => by
    rcases getElem?_set_or h with ⟨ej, ex⟩ | ⟨n, h'⟩
    · cases ex
      subst ej
      refine ⟨v, ?_, r⟩
      have hl : j < ρ.length := by
        by_cases hl : j < ρ.length
        · exact hl
        · rw [List.getElem?_eq_none (by simpa using hl)] at h
          cases h
      rw [List.getElem?_set_self (by rw [← e.len]; exact hl)]
    · obtain ⟨u, h1, h2⟩ := e.val j x h'
      exact ⟨u, by rw [List.getElem?_set_ne (Ne.symm n)]; exact h1, h2⟩
  m := e.m
  own := fun j x h => by
    rcases getElem?_set_or h with ⟨ej, ex⟩ | ⟨n, h'⟩
    · cases ex
    · obtain ⟨h1, h3, h4⟩ := e.own j x h'
      exact ⟨h1, by rw [List.getElem?_set_ne (Ne.symm n)]; exact h3, h4⟩
  inj := fun a b x y h1 h2 => by
    rcases getElem?_set_or h1 with ⟨ej, ex⟩ | ⟨n1, h1'⟩
    · cases ex
    · rcases getElem?_set_or h2 with ⟨ej, ex⟩ | ⟨n2, h2'⟩
      · cases ex
      · exact e.inj a b x y h1' h2'
  odc := fun j x h => by
    rcases getElem?_set_or h with ⟨ej, ex⟩ | ⟨n, h'⟩
    · cases ex
    · obtain ⟨h1, h3, h4⟩ := e.odc j x h'
      exact ⟨h1, by rw [List.getElem?_set_ne (Ne.symm n)]; exact h3, h4⟩
  ido := fun a b x y h1 h2 => by
    rcases getElem?_set_or h1 with ⟨ej, ex⟩ | ⟨n1, h1'⟩
    · cases ex
    · rcases getElem?_set_or h2 with ⟨ej, ex⟩ | ⟨n2, h2'⟩
      · cases ex
      · exact e.ido a b x y h1' h2'
  tT := e.tT
end
def sNil : En → T (Fl × En) := fun ρ => .ok (.nx, ρ)
def sSeq (g h : En → T (Fl × En)) : En → T (Fl × En) := fun ρ => (g ρ).bind fun x => match x with
  | (.nx, ρ') => h ρ'
  | x => .ok x
def sRet (f : En → T W) : En → T (Fl × En) := fun ρ => (f ρ).bind fun w => .ok (.rt w, ρ)
def sRetN : En → T (Fl × En) := fun ρ => .ok (.rt .non, ρ)
def sExpr (f : En → T W) : En → T (Fl × En) := fun ρ => (f ρ).bind fun _ => .ok (.nx, ρ)
def sSet (i : Nat) (f : En → T W) : En → T (Fl × En) := fun ρ => (f ρ).bind fun w => .ok (.nx, ρ.set i (.val w))
def sIf (t : En → T Bool) (g h : En → T (Fl × En)) : En → T (Fl × En) := fun ρ => (t ρ).bind fun b => if b then g ρ else h ρ
def sNever : En → T (Fl × En) := fun _ => .bad
def sPar (i j : Nat) (fs : En → T (List W)) : En → T (Fl × En) := fun ρ => (fs ρ).bind fun xs => match xs with
  | [x, y] => .ok (.nx, (ρ.set i (.val x)).set j (.val y))
  | _ => .bad
section
variable {X : Cx} {E : XK} {st : Stmt} {sts : List Stmt} {g h : En → T (Fl × En)} {f : En → T W} {e a b : Expr} {fs : En → T (List W)} {t : En → T Bool} {pos : Pos}
theorem trs_nil : TrSs X E [] sNil := pss_imp pss_nil fun D σ H q => by
  obtain ⟨c, d, oa, ρ, e, q⟩ := q
  exact q c oa σ H .refl e
theorem trs_cons (h1 : TrS X E st g) (h2 : TrSs X E sts h) : TrSs X E (st :: sts) (sSeq g h) := pss_imp (pss_cons h1 h2) fun D σ H q => by
  obtain ⟨c, d, oa, ρ, e, q⟩ := q
  refine ⟨c, d, oa, ρ, e, T.AllB.imp (fun d1 x hx => ?_) (fun _ _ _ y => y) (T.allB_bind.mp q)⟩
  obtain ⟨fl, ρ'⟩ := x
  intro c' oa' σ' H' fw e'
  cases fl with
  | nx => exact ⟨c', d1, oa', ρ', e', T.AllB.imp (fun _ _ y => y.later fw) (fun _ _ _ y => y.fwd fw) hx⟩
  | rt w => exact hx c' oa' σ' H' fw e'
  | bk => exact hx c' oa' σ' H' fw e'
  | ct => exact hx c' oa' σ' H' fw e'
theorem trs_one (h1 : TrS X E st g) : TrSs X E [st] g := pss_one h1
theorem tr_ret (he : TrE X (wOf E) e f) : TrS X E (.Return (some e) pos) (sRet f) := ps_imp (ps_ret he) fun D σ H q => by
  obtain ⟨c, d, oa, ρ, e, q⟩ := q
  refine lift_thenS (P := fun c H => PSq X.K c H D) e q (fun st p => p.later (.of st e.wd)) fun w v H1 d1 _ r1 e1 h1 => ?_
  exact h1 c oa σ H1 .refl e1 v r1
theorem tr_retN : TrS X E (.Return none pos) sRetN := ps_imp ps_retN fun D σ H q => by
  obtain ⟨c, d, oa, ρ, e, q⟩ := q
  exact q c oa σ H .refl e _ .non
theorem tr_expr (he : TrE X (wOf E) e f) (hs : swapsWith e none pos.line X.env = pure false := by rfl) : TrS X E (.Expr e pos) (sExpr f) := ps_imp (ps_expr he hs) fun D σ H q => by
  obtain ⟨c, d, oa, ρ, e, q⟩ := q
  refine lift_thenS (P := fun c H => PSq X.K c H D) e q (fun st p => p.later (.of st e.wd)) fun w v H1 d1 _ r1 e1 h1 => ?_
  exact h1 c oa σ H1 .refl e1
theorem tr_set {i : Nat} {x : Str} {pos' : Pos} (hN : X.N.Nodup) (hi : X.N[i]? = some x) (hx : Loc X.env.scope x) (he : TrE X (wOf E) e f) (hs : swapsWith e (some (.Name x pos')) pos.line X.env = pure false := by rfl)
    (hf : X.fn x = true ∨ X.env.scope.names.lookup x = some .local := by first | exact .inl rfl | exact .inr rfl | assumption) : TrS X E (.Assign [.Name x pos'] e pos) (sSet i f) := ps_imp (ps_set hN hi hx he hs hf) fun D σ H q => by
  obtain ⟨c, d, oa, ρ, e, q⟩ := q
  refine lift_thenS (P := fun c H => PSq X.K c H D) e q (fun st p => p.later (.of st e.wd)) fun w v H1 d1 _ r1 e1 h1 => ?_
  exact h1 c oa _ H1 .refl (e1.set r1)
theorem tr_ifs {sa sb : List Stmt} (hc : TrB X (wOf E) e t) (ha : TrSs X E sa g) (hb : TrSs X E sb h) : TrS X E (.If e sa sb pos) (sIf t g h) := ps_imp (ps_if hc ha hb) fun D σ H q => by
  obtain ⟨c, d, oa, ρ, e, q⟩ := q
  refine liftB_thenS (P := fun c H => PSq X.K c H D) e q (fun st p => p.later (.of st e.wd)) fun b H1 d1 _ e1 h1 => ?_
  cases b with
  | true => exact iteT ⟨c, d1, oa, ρ, e1, h1⟩
  | false => exact iteF ⟨c, d1, oa, ρ, e1, h1⟩
theorem tr_never : TrS X E st sNever := ps_imp ps_never fun D σ H q => by
  obtain ⟨c, d, oa, ρ, e, q⟩ := q
  exact q
theorem tr_par {i j : Nat} (hp : PS X st (tPar i j (liftA X.K (wOf E) fs))) : TrS X E st (sPar i j fs) := ps_imp hp fun D σ H q => by
  obtain ⟨c, d, oa, ρ, e, q⟩ := q
  refine liftA_thenS (P := fun c H => PSq X.K c H D) e q (fun st p => p.later (.of st e.wd)) fun w v H1 d1 _ r1 e1 h1 => ?_
  cases r1 with
  | nil => exact h1.elim
  | cons r1 r2 =>
    cases r2 with
    | nil => exact h1.elim
    | cons r2 r3 =>
      cases r3 with
      | nil => exact ⟨_, _, rfl, h1 c oa _ H1 .refl ((e1.set r1).set r2)⟩
      | cons _ _ => exact h1.elim
end
end PF
namespace PF
open PySem PySem.Spec PyProof.Rows L2
/-- the slots at ns alone may have changed -/
def ButAt (ns : List Nat) (σ σ' : St) : Prop := σ'.length = σ.length ∧ ∀ j : Nat, j ∉ ns → σ'[j]? = σ[j]?
theorem ButAt.trans {ns ms : List Nat} {σ σ1 σ2 : St} (a : ButAt ns σ σ1) (b : ButAt ms σ1 σ2) : ButAt (ns ++ ms) σ σ2 := ⟨b.1.trans a.1, fun j h => by
  rw [List.mem_append, not_or] at h
  rw [b.2 j h.2, a.2 j h.1]⟩
def liftG (K : PySem.W.Frag) (ns : List Nat) (G : W → En → Option En) : TG := fun v σ H Q => ∃ c d oa ρ w ρ', EnvOk K c d oa ρ σ H ∧ Rep K c H w v ∧ G w ρ = some ρ' ∧ ∀ σ', ButAt ns σ σ' → EnvOk K c d oa ρ' σ' H → Q σ' H
def liftGs (K : PySem.W.Frag) (ns : List Nat) (G : List W → En → Option En) : TGs := fun vs σ H Q => ∃ c d oa ρ ws ρ', EnvOk K c d oa ρ σ H ∧ RepL K c H ws vs ∧ G ws ρ = some ρ' ∧ ∀ σ', ButAt ns σ σ' → EnvOk K c d oa ρ' σ' H → Q σ' H
def TrG (X : Cx) (e : Expr) (ns : List Nat) (G : W → En → Option En) : Prop := PG X e (liftG X.K ns G)
def TrGs (X : Cx) (es : List Expr) (ns : List Nat) (G : List W → En → Option En) : Prop := PGs X es (liftGs X.K ns G)
def goName (i : Nat) : W → En → Option En := fun w ρ => some (ρ.set i (.val w))
def goNil : List W → En → Option En := fun ws ρ => match ws with
  | [] => some ρ
  | _ => none
def goCons (G : W → En → Option En) (Gs : List W → En → Option En) : List W → En → Option En := fun ws ρ => match ws with
  | w :: ws => (G w ρ).bind (Gs ws)
  | [] => none
def goTup (n : Nat) (Gs : List W → En → Option En) : W → En → Option En := fun w ρ => match w with
  | .tup ws => if ws.length == n then Gs ws ρ else none
  | _ => none
theorem pg_imp {X : Cx} {e : Expr} {t t' : TG} (h : PG X e t) (i : ∀ v σ H Q, t' v σ H Q → t v σ H Q) : PG X e t' := ⟨fun pins s σ H v u Q I r q => h.run pins s σ H v u Q I r (i v σ H Q q)⟩
theorem pgs_imp {X : Cx} {e : List Expr} {t t' : TGs} (h : PGs X e t) (i : ∀ v σ H Q, t' v σ H Q → t v σ H Q) : PGs X e t' := ⟨fun pins s σ H v u Q I r q => h.run pins s σ H v u Q I r (i v σ H Q q)⟩
section
variable {X : Cx} {e : Expr} {es : List Expr} {ns ms : List Nat} {G : W → En → Option En} {Gs : List W → En → Option En} {pos : Pos}
theorem trg_name {i : Nat} {x : Str} (hN : X.N.Nodup) (hi : X.N[i]? = some x) (hx : Loc X.env.scope x) (hf : X.fn x = true ∨ X.env.scope.names.lookup x = some .local := by first | exact .inl rfl | exact .inr rfl | assumption) : TrG X (.Name x pos) [i] (goName i) := pg_imp (pg_name hN hi hx hf) fun v σ H Q h => by
  obtain ⟨c, d, oa, ρ, w, ρ', e, r, g, q⟩ := h
  cases g
  exact q _ ⟨by rw [List.length_set], fun j h => by rw [List.getElem?_set_ne (fun z => h (by simp [z]))]⟩ (e.set r)
theorem trgs_nil : TrGs X [] [] goNil := pgs_imp pgs_nil fun v σ H Q h => by
  obtain ⟨c, d, oa, ρ, w, ρ', e, r, g, q⟩ := h
  cases r with
  | nil =>
    cases g
    exact ⟨rfl, q σ ⟨rfl, fun _ _ => rfl⟩ e⟩
  | cons _ _ => cases g
theorem trgs_cons (h1 : TrG X e ns G) (h2 : TrGs X es ms Gs) (hs : (assignEach (e :: es) X.env).map (·.2) = assign e X.env :: (assignEach es X.env).map (·.2) := by rfl) : TrGs X (e :: es) (ns ++ ms) (goCons G Gs) := pgs_imp (pgs_cons h1 h2 hs) fun v σ H Q h => by
  obtain ⟨c, d, oa, ρ, w, ρ', e, r, g, q⟩ := h
  cases r with
  | nil => cases g
  | cons r rr =>
    rename_i w1 v1 ws1 vs1
    have g' : (G w1 ρ).bind (Gs ws1) = some ρ' := g
    cases g1 : G w1 ρ with
    | none =>
      rw [g1] at g'
      cases g'
    | some ρ1 =>
      rw [g1] at g'
      exact ⟨v1, vs1, rfl, c, d, oa, ρ, w1, ρ1, e, r, g1, fun σ1 b1 e1 => ⟨c, d, oa, ρ1, ws1, ρ', e1, rr, g', fun σ2 b2 e2 => q σ2 (b1.trans b2) e2⟩⟩
theorem trg_tup {k n : Nat} (hc : X.calm = true) (h : TrGs X es ns Gs) (hn : (assignEach es X.env).length = n := by rfl) (hst : (assignEach es X.env).findIdx? (·.1) = none := by rfl) : TrG X (.Tuple es k pos) ns (goTup n Gs) := pg_imp (pg_tup hc h hn hst) fun v σ H Q h => by
  obtain ⟨c, d, oa, ρ, w, ρ', e, r, g, q⟩ := h
  cases r with
  | tup hq rl =>
    rename_i a vs ws
    have g' : (if ws.length == n then Gs ws ρ else none) = some ρ' := g
    cases hl : (ws.length == n) with
    | false =>
      rw [hl] at g'
      cases g'
    | true =>
      rw [hl] at g'
      exact ⟨a, vs, rfl, hq, by rw [← rl.length]; exact eq_of_beq hl, c, d, oa, ρ, ws, ρ', e, rl, g', q⟩
  | _ => cases g
end
/-- target = value, for any target -/
def sAsg (f : En → T W) (G : W → En → Option En) : En → T (Fl × En) := fun ρ => (f ρ).bind fun w => match G w ρ with
  | some ρ' => .ok (.nx, ρ')
  | none => .bad
theorem tr_asg {X : Cx} {E : XK} {e tg : Expr} {f : En → T W} {ns : List Nat} {G : W → En → Option En} {pos : Pos} (he : TrE X (wOf E) e f) (hg : TrG X tg ns G) (hs : swapsWithSole [tg] e pos.line X.env = pure false := by rfl) (hw : swappedStores [tg] e X.env = pure none := by rfl)
    (h1 : (assignEach [tg] X.env).map (·.2) = [assign tg X.env] := by rfl) : TrS X E (.Assign [tg] e pos) (sAsg f G) := ps_imp (ps_asg he hg hs hw h1) fun D σ H q => by
  obtain ⟨c, d, oa, ρ, e, q⟩ := q
  refine lift_thenS (P := fun c H => PSq X.K c H D) e q (fun st p => p.later (.of st e.wd)) fun w v H1 d1 _ r1 e1 h1 => ?_
  cases g : G w ρ with
  | none =>
    rw [g] at h1
    exact h1.elim
  | some ρ' =>
    rw [g] at h1
    exact ⟨c, d1, oa, ρ, w, ρ', e1, r1, g, fun σ' _ e' => h1 c oa σ' H1 .refl e'⟩
def whileL (t : En → T Bool) (gb : En → T (Fl × En)) : Nat → En → T (Fl × En)
  | 0, _ => .bad
  | n + 1, ρ => (t ρ).bind fun b => if b then (gb ρ).bind fun x => match x with
      | (.nx, ρ') => whileL t gb n ρ'
      | (.ct, ρ') => whileL t gb n ρ'
      | (.bk, ρ') => .ok (.nx, ρ')
      | (.rt w, ρ') => .ok (.rt w, ρ') else .ok (.nx, ρ)
def sWhile (μ : En → Nat) (t : En → T Bool) (gb : En → T (Fl × En)) : En → T (Fl × En) := fun ρ => whileL t gb (μ ρ) ρ
theorem tr_while {X : Cx} {E : XK} {e : Expr} {body : List Stmt} {t : En → T Bool} {gb : En → T (Fl × En)} {pos : Pos} (μ : En → Nat) (hp : PassesOwn (model X.prog X.w) X.A X.env X.xe) (hc : TrB X (wOf E) e t) (hb : TrSs X E body gb) : TrS X E (.While e body [] pos) (sWhile μ t gb) :=
  ps_imp (ps_while hp hc hb) fun D σ H q => by
  obtain ⟨c, d, oa, ρ, e, q⟩ := q
  refine ⟨fun m σ H => ∃ c d oa ρ, EnvOk X.K c d oa ρ σ H ∧ (whileL t gb m ρ).AllB (PSq X.K c H D) (PXs X.K c H E) d, ⟨_, c, d, oa, ρ, e, q⟩, ?_⟩
  rintro m σ H ⟨c, d, oa, ρ, e, q⟩
  cases m with
  | zero => exact q.elim
  | succ m =>
    refine liftB_thenS (P := fun c H => PSq X.K c H D) e q (fun st p => p.later (.of st e.wd)) fun b H1 d1 _ e1 h1 => ?_
    cases b with
    | false => exact iteF (h1 c oa σ H1 .refl e1)
    | true =>
      refine iteT ⟨fun σ H => ∃ c d oa ρ, EnvOk X.K c d oa ρ σ H ∧ (whileL t gb m ρ).AllB (PSq X.K c H D) (PXs X.K c H E) d, fun σ' H' h => ⟨m, Nat.lt_succ_self m, h⟩, c, d1, oa, ρ, e1, ?_⟩
      refine T.AllB.imp (fun d2 x hx => ?_) (fun _ _ _ y => y) (T.allB_bind.mp h1)
      obtain ⟨fl, ρ2⟩ := x
      intro c2 oa2 σ2 H2 fw e2
      cases fl with
      | nx => exact ⟨c2, d2, oa2, ρ2, e2, T.AllB.imp (fun _ _ y => y.later fw) (fun _ _ _ y => y.fwd fw) hx⟩
      | ct => exact ⟨c2, d2, oa2, ρ2, e2, T.AllB.imp (fun _ _ y => y.later fw) (fun _ _ _ y => y.fwd fw) hx⟩
      | bk => exact hx c2 oa2 σ2 H2 fw e2
      | rt w => exact hx c2 oa2 σ2 H2 fw e2
/-- the iterator J yields ws, as long as the world goes on -/
def ItOk (K : PySem.W.Frag) (c : Cc) (H : Hp) (J : It) (ws : List W) : Prop := ∀ (c' : Cc) (H' : Hp) (d' : Nat) (i : Nat), Fwd K c H c' H' → Wd c' d' H' →
  (∀ w, ws[i]? = some w → J.go i H' ∧ ∀ x H2, J.yld i H' x H2 → Step c' H' H2 ∧ StOk c' d' H2 ∧ Rep K c' H2 w x) ∧ (ws.length ≤ i → J.stop i H')
def PJ (K : PySem.W.Frag) (c : Cc) (H : Hp) (R : It → Hp → Prop) : Nat → List W → Prop := fun d ws => ∀ J H1, Step c H H1 → StOk c d H1 → ItOk K c H1 J ws → R J H1
def liftI (K : PySem.W.Frag) (E : WX) (f : En → T (List W)) : TI := fun σ H R => ∃ c d oa ρ, EnvOk K c d oa ρ σ H ∧ (f ρ).AllB (PJ K c H R) (PX K c H fun cls dx H' => E cls dx σ H') d
theorem PJ.later {K : PySem.W.Frag} {c : Cc} {H H1 : Hp} {R : It → Hp → Prop} {d : Nat} {ws : List W} (s : Step c H H1) (h : PJ K c H R d ws) : PJ K c H1 R d ws := fun J H' st so r => h J H' (s.trans st) so r
def TrI (X : Cx) (E : WX) (tg iter : Expr) (f : En → T (List W)) : Prop := PI X tg iter (liftI X.K E f)
theorem pi_imp {X : Cx} {tg e : Expr} {t t' : TI} (h : PI X tg e t) (i : ∀ σ H Q, t' σ H Q → t σ H Q) : PI X tg e t' := ⟨fun pins s σ H Q I q => h.run pins s σ H Q I (i σ H Q q)⟩
def tupW : W → T (List W)
  | .tup ws => .ok ws
  | _ => .bad
def lstW : W → T (List W)
  | .lst ws => .ok ws
  | _ => .bad
def iOf (g : W → T (List W)) (f : En → T W) : En → T (List W) := fun ρ => (f ρ).bind g
def intsFrom (lo : Int) : Nat → List W
  | 0 => []
  | n + 1 => .int lo :: intsFrom (lo + 1) n
theorem intsFrom_get : ∀ (n : Nat) (lo : Int) (i : Nat), (intsFrom lo n)[i]? = if i < n then some (.int (lo + i)) else none
  | 0, lo, i => by simp [intsFrom]
  | n + 1, lo, 0 => by simp [intsFrom]
  | n + 1, lo, i + 1 => by
    simp only [intsFrom, List.getElem?_cons_succ]
    rw [intsFrom_get n (lo + 1) i]
    by_cases h : i < n
    · rw [if_pos h, if_pos (by omega)]
      have e : lo + 1 + (i : Int) = lo + ((i + 1 : Nat) : Int) := by omega
      rw [e]
    · rw [if_neg h, if_neg (by omega)]
theorem intsFrom_length : ∀ (n : Nat) (lo : Int), (intsFrom lo n).length = n
  | 0, _ => rfl
  | n + 1, lo => congrArg (· + 1) (intsFrom_length n (lo + 1))
@[irreducible] def rngOk (n : Int) : Bool := decide (n.natAbs.log2 < 61)
theorem rngOk_of {n : Int} (h : rngOk n = true) : -(2 ^ 62) ≤ n ∧ n < 2 ^ 62 := by
  unfold rngOk at h
  have h := of_decide_eq_true h
  by_cases h0 : n.natAbs = 0
  · omega
  · have := (Nat.log2_lt h0).mp h
    omega
theorem rngOk_is {n : Int} (h : -(2 ^ 60) ≤ n) (h1 : n ≤ 2 ^ 60) : rngOk n = true := by
  unfold rngOk
  refine decide_eq_true ?_
  by_cases h0 : n.natAbs = 0
  · rw [h0]
    decide
  · exact (Nat.log2_lt h0).mpr (by omega)
def rng1 : List W → T (List W)
  | [.int n] => if rngOk n then .ok (intsFrom 0 n.toNat) else .bad
  | _ => .bad
def rng2 : List W → T (List W)
  | [.int a, .int b] => if rngOk a && rngOk b then .ok (intsFrom a (b - a).toNat) else .bad
  | _ => .bad
def iL (g : List W → T (List W)) (f : En → T (List W)) : En → T (List W) := fun ρ => (f ρ).bind g
section
variable {X : Cx} {E : WX} {tg e a b : Expr} {f : En → T W} {fs : En → T (List W)} {p pos : Pos}
theorem PJ.now {K : PySem.W.Frag} {c : Cc} {H : Hp} {R : It → Hp → Prop} {d : Nat} {ws : List W} {J : It} (wd : Wd c d H) (h : PJ K c H R d ws) (j : ItOk K c H J ws) : R J H := h J H (.refl c H) wd.st j
theorem tri_tup (h : TrE X E e f) : TrI X E tg e (iOf tupW f) := pi_imp (pi_tup h) fun σ H R q => by
  obtain ⟨c, d, oa, ρ, e, q⟩ := q
  refine lift_then (P := fun c H => PJ X.K c H R) e q (fun st p => p.later st) fun w v H1 d1 _ r1 e1 h1 => ?_
  cases r1 with
  | tup hq rl =>
    rename_i a vs ws
    refine ⟨a, rfl, ⟨_, hq⟩, PJ.now e1.wd h1 fun c' H' d' i fw wd => ⟨fun w hw => ?_, fun hi => ?_⟩⟩
    · obtain ⟨v, hv, rv⟩ := rl.get hw
      have hq' := fw.sqT e1.wd hq
      refine ⟨⟨vs, v, hq', hv⟩, fun x H2 y => ?_⟩
      obtain ⟨rfl, y⟩ := y
      have ex := y vs hq'
      rw [hv] at ex
      cases ex
      exact ⟨.refl _ _, wd.st, fw.rep _ _ rv⟩
    · exact ⟨vs, fw.sqT e1.wd hq, by rw [← rl.length]; exact hi⟩
  | _ => exact h1.elim
theorem tri_lst (h : TrE X E e f) : TrI X E tg e (iOf lstW f) := pi_imp (pi_list h) fun σ H R q => by
  obtain ⟨c, d, oa, ρ, e, q⟩ := q
  refine lift_then (P := fun c H => PJ X.K c H R) e q (fun st p => p.later st) fun w v H1 d1 _ r1 e1 h1 => ?_
  cases r1 with
  | lst n hq rl =>
    rename_i a vs ws
    refine ⟨a, rfl, ⟨_, SqL.of hq⟩, PJ.now e1.wd h1 fun c' H' d' i fw wd => ?_⟩
    have hq' : H' a = some (.lst vs) := fw.step _ _ hq (e1.ok.neS n) (e1.ok.nela n) (fun z => n (e1.m.inA _ z)) nofun
    have uq : ∀ xs, SqL X.K H' a xs → Rd H' a (.lst xs) ∨ SqL X.K (fun _ => none) a xs := fun xs h => sqL_split h
    refine ⟨fun w hw => ?_, fun hi => ?_⟩
    · obtain ⟨v, hv, rv⟩ := rl.get hw
      refine ⟨⟨vs, v, SqL.of hq', hv⟩, fun x H2 y => ?_⟩
      obtain ⟨rfl, y⟩ := y
      have ex := y vs (SqL.of hq')
      rw [hv] at ex
      cases ex
      exact ⟨.refl _ _, wd.st, fw.rep _ _ rv⟩
    · exact ⟨vs, SqL.of hq', by rw [← rl.length]; exact hi⟩
  | _ => exact h1.elim
theorem itr_ok {K : PySem.W.Frag} {c : Cc} {H : Hp} (lo : Int) (n : Nat) : ItOk K c H (Itr lo n) (intsFrom lo n) := fun c' H' d' i fw wd => by
  refine ⟨fun w hw => ?_, fun hi => ?_⟩
  · rw [intsFrom_get] at hw
    by_cases hi : i < n
    · rw [if_pos hi] at hw
      cases hw
      refine ⟨hi, fun x H2 y => ?_⟩
      obtain ⟨rfl, rfl⟩ := y
      exact ⟨.refl _ _, wd.st, .int _⟩
    · rw [if_neg hi] at hw
      cases hw
  · rw [intsFrom_length] at hi
    exact hi
theorem tri_rng1 (hg : Gl X "range") (hm : X.mg "range" = none) (ha : TrA X E [a] fs) (hs : starEach [a] X.env = [(false, eval a X.env)] := by rfl) : TrI X E tg (.Call (.Name "range" p) [a] [] pos) (iL rng1 fs) := pi_imp (pi_range1 hg hm ha hs) fun σ H R q => by
  obtain ⟨c, d, oa, ρ, e, q⟩ := q
  refine liftA_then (P := fun c H => PJ X.K c H R) e q (fun st p => p.later st) fun w v H1 d1 _ r1 e1 h1 => ?_
  cases r1 with
  | nil => exact h1.elim
  | cons r rr =>
    cases rr with
    | cons _ _ =>
      cases r <;> exact h1.elim
    | nil =>
      cases r with
      | int n =>
        obtain ⟨hb, h1⟩ := T.AllB.ite h1
        obtain ⟨h2, h3⟩ := rngOk_of hb
        exact ⟨n, rfl, h2, h3, PJ.now e1.wd h1 (itr_ok 0 n.toNat)⟩
      | _ => exact h1.elim
theorem tri_rng2 (hg : Gl X "range") (hm : X.mg "range" = none) (ha : TrA X E [a, b] fs) (hs : starEach [a, b] X.env = [(false, eval a X.env), (false, eval b X.env)] := by rfl) (hs2 : starEach [b] X.env = [(false, eval b X.env)] := by rfl) : TrI X E tg (.Call (.Name "range" p) [a, b] [] pos) (iL rng2 fs) := pi_imp (pi_range2 hg hm ha hs hs2) fun σ H R q => by
  obtain ⟨c, d, oa, ρ, e, q⟩ := q
  refine liftA_then (P := fun c H => PJ X.K c H R) e q (fun st p => p.later st) fun w v H1 d1 _ r1 e1 h1 => ?_
  cases r1 with
  | nil => exact h1.elim
  | cons r rr =>
    cases rr with
    | nil => cases r <;> exact h1.elim
    | cons r2 rr =>
      cases rr with
      | cons _ _ => cases r <;> cases r2 <;> exact h1.elim
      | nil =>
        cases r with
        | int x =>
          cases r2 with
          | int y =>
            obtain ⟨hb, h1⟩ := T.AllB.ite h1
            obtain ⟨ha, hb⟩ := Bool.and_eq_true_iff.mp hb
            obtain ⟨a1, a2⟩ := rngOk_of ha
            obtain ⟨b1, b2⟩ := rngOk_of hb
            exact ⟨x, y, rfl, ⟨a1, a2, b1, b2⟩, PJ.now e1.wd h1 (itr_ok x (y - x).toNat)⟩
          | _ => exact h1.elim
        | _ => exact h1.elim
end
def forL (G : W → En → Option En) (gb : En → T (Fl × En)) : List W → En → T (Fl × En)
  | [], ρ => .ok (.nx, ρ)
  | w :: ws, ρ => match G w ρ with
    | none => .bad
    | some ρ1 => (gb ρ1).bind fun x => match x with
      | (.nx, ρ2) => forL G gb ws ρ2
      | (.ct, ρ2) => forL G gb ws ρ2
      | (.bk, ρ2) => .ok (.nx, ρ2)
      | (.rt w, ρ2) => .ok (.rt w, ρ2)
def sFor (fi : En → T (List W)) (G : W → En → Option En) (gb : En → T (Fl × En)) : En → T (Fl × En) := fun ρ => (fi ρ).bind fun ws => forL G gb ws ρ
theorem tr_for {X : Cx} {E : XK} {tg iter : Expr} {body : List Stmt} {fi : En → T (List W)} {ns : List Nat} {G : W → En → Option En} {gb : En → T (Fl × En)} {pos : Pos} (hp : PassesOwn (model X.prog X.w) X.A X.env X.xe) (hc : X.calm = true) (hi : TrI X (wOf E) tg iter fi) (hg : TrG X tg ns G) (hb : TrSs X E body gb)
    (hs : ∀ x, foldedSetIterable iter X.env x = pure x := by intro _; rfl) : TrS X E (.For tg iter body [] pos) (sFor fi G gb) := ps_imp (ps_for hp hc hi hg hb hs) fun D σ H q => by
  obtain ⟨c, d, oa, ρ, e, q⟩ := q
  refine ⟨c, d, oa, ρ, e, T.AllB.imp (fun d1 ws hx => ?_) (fun _ _ _ y => y.toX e.wd) (T.allB_bind.mp q)⟩
  intro J H1 st1 so1 jo
  have e1 := e.step st1 so1
  refine ⟨fun i m σ H' => m = ws.length - i ∧ ∃ c' d' oa' ρ', Fwd X.K c H1 c' H' ∧ EnvOk X.K c' d' oa' ρ' σ H' ∧ (forL G gb (ws.drop i) ρ').AllB (PSq X.K c' H' D) (PXs X.K c' H' E) d', ⟨_, rfl, c, d1, oa, ρ, .refl, e1, T.AllB.imp (fun _ _ y => y.later (.of st1 e.wd)) (fun _ _ _ y => y.later e.wd st1) hx⟩, ?_⟩
  rintro i m σ' H' ⟨rfl, c', d', oa', ρ', fw, e', h'⟩
  obtain ⟨ji, js⟩ := jo c' H' d' i fw e'.wd
  by_cases hi : i < ws.length
  · have hw : ws[i]? = some ws[i] := List.getElem?_eq_getElem hi
    have hd : ws.drop i = ws[i] :: ws.drop (i + 1) := List.drop_eq_getElem_cons hi
    rw [hd] at h'
    obtain ⟨jg, jy⟩ := ji _ hw
    refine .inr ⟨jg, fun σ2 H2 => ∃ c2 d2 oa2 ρ2, Fwd X.K c H1 c2 H2 ∧ EnvOk X.K c2 d2 oa2 ρ2 σ2 H2 ∧ (forL G gb (ws.drop (i + 1)) ρ2).AllB (PSq X.K c2 H2 D) (PXs X.K c2 H2 E) d2, fun σ2 H2 h2 => ⟨ws.length - (i + 1), by omega, rfl, h2⟩, fun x H2 y => ?_⟩
    obtain ⟨st2, so2, rx⟩ := jy x H2 y
    have fw2 : Fwd X.K c' H' c' H2 := .of st2 e'.wd
    have e2 := e'.step st2 so2
    unfold forL at h'
    cases g : G ws[i] ρ' with
    | none =>
      rw [g] at h'
      exact h'.elim
    | some ρ1 =>
      rw [g] at h'
      refine ⟨c', d', oa', ρ', ws[i], ρ1, e2, rx, g, fun σ3 _ e3 => ⟨c', d', oa', ρ1, e3, ?_⟩⟩
      refine T.AllB.imp (fun d4 x4 hx4 => ?_) (fun _ _ _ y => y.fwd fw2) (T.allB_bind.mp h')
      obtain ⟨fl, ρ4⟩ := x4
      intro c4 oa4 σ4 H4 fw4 e4
      have fw5 : Fwd X.K c' H' c4 H4 := fw2.trans fw4
      cases fl with
      | nx => exact ⟨c4, d4, oa4, ρ4, fw.trans fw5, e4, T.AllB.imp (fun _ _ y => y.later fw5) (fun _ _ _ y => y.fwd fw5) hx4⟩
      | ct => exact ⟨c4, d4, oa4, ρ4, fw.trans fw5, e4, T.AllB.imp (fun _ _ y => y.later fw5) (fun _ _ _ y => y.fwd fw5) hx4⟩
      | bk => exact hx4 c4 oa4 σ4 H4 fw5 e4
      | rt w => exact hx4 c4 oa4 σ4 H4 fw5 e4
  · rw [List.drop_eq_nil_of_le (by omega)] at h'
    exact .inl ⟨js (by omega), h' c' oa' σ' H' .refl e'⟩
end PF
namespace PF
open PySem PySem.Spec PyProof.Rows L2
abbrev Cc.more (c : Cc) (D : Addr) : Cc := { c with A := D :: c.A }
section
variable {K : PySem.W.Frag} {c : Cc} {d : Nat} {oa : Nat → Addr} {ρ : En} {σ : St} {H H' : Hp} {D : Addr}
mutual
theorem Rep.more (n : H D = none) (st : Step c H H') (s : StOk c d H) (ok : CcOk c) : ∀ {w : W} {v : V}, Rep K c H w v → Rep K (c.more D) H' w v
  | _, _, .non => .non
  | _, _, .bl b => .bl b
  | _, _, .int i => .int i
  | _, _, .str x => .str x
  | _, _, .tup h r => .tup (st.sqT s h) (RepL.more n st s ok r)
  | _, _, .lst m h r => .lst (by
      simp only [List.mem_cons, not_or]
      exact ⟨ne_of_none h n, m⟩) (st.lst ok m h) (RepL.more n st s ok r)
  | _, _, .dct m h r => .dct (by
      simp only [List.mem_cons, not_or]
      exact ⟨ne_of_none h n, m⟩) (st.lst ok m h) (RepL.more n st s ok r)
  | _, _, .scr h => .scr (by
      rcases h with ⟨m, r⟩ | h
      · refine .inl ⟨?_, r.imp (fun e => st.lst ok m e) fun ⟨o, e⟩ => ⟨o, st.lst ok m e⟩⟩
        simp only [List.mem_cons, not_or]
        refine ⟨?_, m⟩
        rcases r with r | ⟨o, r⟩
        · exact ne_of_none r n
        · exact ne_of_none r n
      · exact .inr h)
  | _, _, .stt => .stt
theorem RepL.more (n : H D = none) (st : Step c H H') (s : StOk c d H) (ok : CcOk c) : ∀ {ws : List W} {vs : List V}, RepL K c H ws vs → RepL K (c.more D) H' ws vs
  | _, _, .nil => .nil
  | _, _, .cons h r => .cons (Rep.more n st s ok h) (RepL.more n st s ok r)
end
theorem Fwd.more (n : H D = none) (st : Step c H H') (wd : Wd c d H) : Fwd K c H (c.more D) H' := ⟨rfl, rfl, rfl, rfl, fun b h _ => List.mem_cons_of_mem _ h, fun _ h => .inl h, fun b o h h1 h2 _ nt => st.keep b o h h1 h2 nt, fun b ps h _ => st.tbl b ps h, fun w v r => r.more n st wd.st wd.ok, fun _ _ h => st.sqT wd.st h⟩
/-- an object of the frame's own is laid -/
theorem EnvOk.more {o : HO} (e : EnvOk K c d oa ρ σ H) (n : H D = none) : EnvOk K (c.more D) d oa ρ σ (upd H D o) where
  ok := ⟨List.mem_cons_of_mem _ e.ok.inS, List.mem_cons_of_mem _ e.ok.inla, List.mem_cons_of_mem _ e.ok.inca⟩
  st := e.st.new n
  av := fun b hb => by
    rcases List.mem_cons.mp hb with rfl | hb
    · exact ⟨_, upd_same⟩
    · exact (e.wd.new n).av b hb
  len := e.len
  val := fun i w h => by
    obtain ⟨v, h1, h2⟩ := e.val i w h
    exact ⟨v, h1, h2.more n (.new n) e.st e.ok⟩
  m := ⟨fun b hb => List.mem_cons_of_mem _ (e.m.inA b hb), e.m.nst, fun b hb => by
    obtain ⟨o', h, w⟩ := e.m.ls b hb
    exact ⟨o', by rw [upd_ne (ne_of_none h n)]; exact h, w⟩⟩
  own := fun i ws h => by
    obtain ⟨h1, h3, vs, h4, h5⟩ := e.own i ws h
    exact ⟨h1, h3, vs, by rw [upd_ne (ne_of_none h4 n)]; exact h4, h5.more n (.new n) e.st e.ok⟩
  inj := e.inj
  odc := fun i ws h => by
    obtain ⟨h1, h3, vs, h4, h5⟩ := e.odc i ws h
    exact ⟨h1, h3, vs, by rw [upd_ne (ne_of_none h4 n)]; exact h4, h5.1, h5.2.more n (.new n) e.st e.ok⟩
  ido := e.ido
  tT := e.tT
theorem sqT_upd {a : Addr} {vs : List V} {o u : HO} (hl : H D = some o) (nt : ∀ xs, o ≠ .tup xs) (nf : ∀ b u, o ≠ .frz b u) (h : SqT K H a vs) : SqT K (upd H D u) a vs := by
  rcases h with (h | ⟨b, h⟩) | h
  · exact .inl (.inl (by rw [upd_ne (ne_of h hl (Ne.symm (nt _)))]; exact h))
  · exact .inl (.inr ⟨b, by rw [upd_ne (ne_of h hl (Ne.symm (nf _ _)))]; exact h⟩)
  · exact .inr h
mutual
theorem Rep.upd {o u : HO} (hA : D ∈ c.A) (hl : H D = some o) (nt : ∀ xs, o ≠ .tup xs) (nf : ∀ b u, o ≠ .frz b u) : ∀ {w : W} {v : V}, Rep K c H w v → Rep K c (L2.upd H D u) w v
  | _, _, .non => .non
  | _, _, .bl b => .bl b
  | _, _, .int i => .int i
  | _, _, .str x => .str x
  | _, _, .tup h r => .tup (sqT_upd hl nt nf h) (RepL.upd hA hl nt nf r)
  | _, _, .lst m h r => .lst m (by rw [upd_ne (fun z => m (by rw [z]; exact hA))]; exact h) (RepL.upd hA hl nt nf r)
  | _, _, .dct m h r => .dct m (by rw [upd_ne (fun z => m (by rw [z]; exact hA))]; exact h) (RepL.upd hA hl nt nf r)
  | _, _, .scr h => .scr (by
      rcases h with ⟨m, r⟩ | h
      · have ne : ∀ b, b ∉ c.A → b ≠ D := fun b hb z => hb (by rw [z]; exact hA)
        exact .inl ⟨m, r.imp (fun e => by rw [upd_ne (ne _ m)]; exact e) fun ⟨o, e⟩ => ⟨o, by rw [upd_ne (ne _ m)]; exact e⟩⟩
      · exact .inr h)
  | _, _, .stt => .stt
theorem RepL.upd {o u : HO} (hA : D ∈ c.A) (hl : H D = some o) (nt : ∀ xs, o ≠ .tup xs) (nf : ∀ b u, o ≠ .frz b u) : ∀ {ws : List W} {vs : List V}, RepL K c H ws vs → RepL K c (L2.upd H D u) ws vs
  | _, _, .nil => .nil
  | _, _, .cons h r => .cons (Rep.upd hA hl nt nf h) (RepL.upd hA hl nt nf r)
end
theorem lst_noC {xs : List V} {p : Addr} (q : Str) : HO.lst xs ≠ LamX.CodeO p q := fun z => by
  unfold LamX.CodeO at z
  cases z
theorem StOk.upd {u : HO} {xs : List V} (s : StOk c d H) (hn : D ∉ [c.S, c.ca, c.la]) (hl : H D = some (.lst xs)) : StOk c d (L2.upd H D u) := by
  obtain ⟨cells, lefts, k, r, h1, h2, h3, h4, h5, h6, h7, h8, h9⟩ := s
  simp only [List.mem_cons, not_or, List.not_mem_nil, not_false_eq_true, and_true] at hn
  exact ⟨cells, lefts, k, r, by rw [upd_ne (Ne.symm hn.1)]; exact h1, by rw [upd_ne (Ne.symm hn.2.1)]; exact h2, by rw [upd_ne (Ne.symm hn.2.2)]; exact h3, h4, h5, h6, h7, h8, Tabs.upd h9 hl nofun lst_noC⟩
theorem EnvOk.upd {xs ys : List V} (e : EnvOk K c d oa ρ σ H) (hA : D ∈ c.A) (hn : D ∉ [c.S, c.ca, c.la]) (hl : H D = some (.lst xs)) (ho : ∀ (i : Nat) (ws : List W), ρ[i]? = some (.own ws) → oa i ≠ D) : EnvOk K c d oa ρ σ (L2.upd H D (.lst ys)) where
  ok := e.ok
  st := e.st.upd hn hl
  av := fun b hb => by
    by_cases hb' : b = D
    · rw [hb']
      exact ⟨_, upd_same⟩
    · obtain ⟨o, h⟩ := e.av b hb
      exact ⟨o, by rw [upd_ne hb']; exact h⟩
  len := e.len
  val := fun i w h => by
    obtain ⟨v, h1, h2⟩ := e.val i w h
    exact ⟨v, h1, h2.upd hA hl (fun _ z => by cases z) (fun _ _ z => by cases z)⟩
  m := ⟨e.m.inA, e.m.nst, fun b hb => by
    by_cases hb' : b = D
    · rw [hb']
      exact ⟨_, upd_same, .inl ⟨_, rfl⟩⟩
    · obtain ⟨xs, h, w⟩ := e.m.ls b hb
      exact ⟨xs, by rw [upd_ne hb']; exact h, w⟩⟩
  own := fun i ws h => by
    obtain ⟨h1, h3, vs, h4, h5⟩ := e.own i ws h
    exact ⟨h1, h3, vs, by rw [upd_ne (ho i ws h)]; exact h4, h5.upd hA hl (fun _ z => by cases z) (fun _ _ z => by cases z)⟩
  inj := e.inj
  odc := fun i ws h => by
    obtain ⟨h1, h3, vs, h4, h5⟩ := e.odc i ws h
    have ne : oa i ≠ D := fun z => by
      rw [z, hl] at h4
      cases h4
    exact ⟨h1, h3, vs, by rw [upd_ne ne]; exact h4, h5.1, h5.2.upd hA hl (fun _ z => by cases z) (fun _ _ z => by cases z)⟩
  ido := e.ido
  tT := e.tT
end
/-- a step, then an object that is new since then is changed -/
theorem Step.past {c : Cc} {H H' : Hp} {D : Addr} {u : HO} (st : Step c H H') (n : H D = none) : Step c H (L2.upd H' D u) := ⟨fun b o hb h1 h2 h3 => by
    rw [upd_ne (ne_of_none hb n)]
    exact st.keep b o hb h1 h2 h3, fun b ps hb => by
    rw [upd_ne (ne_of_none hb n)]
    exact st.tbl b ps hb⟩
def noX {α : Type} : T α → T α
  | .ok a => .ok a
  | .exc _ _ => .bad
  | .bad => .bad
  | .ask n k => .ask n fun i => noX (k i)
theorem noX_all {α : Type} {P : Nat → α → Prop} {E E' : Nat → Nat → List W → Prop} : ∀ {t : T α} {d : Nat}, (noX t).AllB P E d → t.AllB P E' d
  | .ok a, d, h => h
  | .exc _ _, d, h => h.elim
  | .bad, _, h => h
  | .ask n k, d, h => by
    obtain ⟨e, he, x⟩ := h
    exact ⟨e, he, fun i hi => noX_all (x i hi)⟩
def wipeE (ρ : En) : List Nat → En
  | [] => ρ
  | v :: vs => (wipeE ρ vs).set v .un
def compL (G : W → En → Option En) (tt : En → T Bool) (fe : En → T W) (ρ : En) : List W → T (List W)
  | [] => .ok []
  | w :: ws => match G w ρ with
    | none => .bad
    | some ρ1 => (noX (tt ρ1)).bind fun b => if b then (noX (fe ρ1)).bind fun x => (compL G tt fe ρ ws).bind fun xs => .ok (x :: xs) else compL G tt fe ρ ws
def fComp (vs : List Nat) (fi : En → T (List W)) (G : W → En → Option En) (tt : En → T Bool) (fe : En → T W) : En → T W := fun ρ => (fi ρ).bind fun ws => if sizeOk ws then (compL G tt fe (wipeE ρ vs) ws).bind fun xs => .ok (.lst xs) else .bad
abbrev noW : WX := fun _ _ _ _ => False
section
variable {K : PySem.W.Frag} {c : Cc} {d : Nat} {oa : Nat → Addr} {ρ : En} {σ : St} {H : Hp}
theorem EnvOk.un {v : Nat} (e : EnvOk K c d oa ρ σ H) : EnvOk K c d oa (ρ.set v .un) (σ.set v none) H where
  ok := e.ok
  st := e.st
  av := e.av
  len := by rw [List.length_set, List.length_set]; exact e.len
  val := fun j x h => by
    rcases getElem?_set_or h with ⟨ej, ex⟩ | ⟨n, h'⟩
    · cases ex
    · obtain ⟨u, h1, h2⟩ := e.val j x h'
      exact ⟨u, by rw [List.getElem?_set_ne (Ne.symm n)]; exact h1, h2⟩
  m := e.m
  own := fun j x h => by
    rcases getElem?_set_or h with ⟨ej, ex⟩ | ⟨n, h'⟩
    · cases ex
    · obtain ⟨h1, h3, h4⟩ := e.own j x h'
      exact ⟨h1, by rw [List.getElem?_set_ne (Ne.symm n)]; exact h3, h4⟩
  inj := fun a b x y h1 h2 => by
    rcases getElem?_set_or h1 with ⟨ej, ex⟩ | ⟨n1, h1'⟩
    · cases ex
    · rcases getElem?_set_or h2 with ⟨ej, ex⟩ | ⟨n2, h2'⟩
      · cases ex
      · exact e.inj a b x y h1' h2'
  odc := fun j x h => by
    rcases getElem?_set_or h with ⟨ej, ex⟩ | ⟨n, h'⟩
    · cases ex
    · obtain ⟨h1, h3, h4⟩ := e.odc j x h'
      exact ⟨h1, by rw [List.getElem?_set_ne (Ne.symm n)]; exact h3, h4⟩
  ido := fun a b x y h1 h2 => by
    rcases getElem?_set_or h1 with ⟨ej, ex⟩ | ⟨n1, h1'⟩
    · cases ex
    · rcases getElem?_set_or h2 with ⟨ej, ex⟩ | ⟨n2, h2'⟩
      · cases ex
      · exact e.ido a b x y h1' h2'
  tT := e.tT
theorem EnvOk.wipe (e : EnvOk K c d oa ρ σ H) : ∀ vs : List Nat, EnvOk K c d oa (wipeE ρ vs) (L2.wipe σ vs) H
  | [] => e
  | v :: vs => (EnvOk.wipe e vs).un
theorem wipeE_own {j : Nat} {xs : List W} : ∀ {vs : List Nat}, (wipeE ρ vs)[j]? = some (.own xs) → ρ[j]? = some (.own xs)
  | [], h => h
  | v :: vs, h => by
    rcases getElem?_set_or h with ⟨_, ex⟩ | ⟨_, h⟩
    · cases ex
    · exact wipeE_own h
theorem wipe_len (σ : St) : ∀ vs : List Nat, (L2.wipe σ vs).length = σ.length
  | [] => rfl
  | v :: vs => by
    unfold L2.wipe
    rw [List.length_set, wipe_len σ vs]
theorem wipe_at (σ : St) : ∀ (vs : List Nat) (j : Nat), (L2.wipe σ vs)[j]? = if j ∈ vs then (if j < σ.length then some none else none) else σ[j]?
  | [], j => by
    rw [if_neg (by simp)]
    rfl
  | v :: vs, j => by
    unfold L2.wipe
    by_cases e : v = j
    · subst e
      rw [if_pos (List.mem_cons_self ..), List.getElem?_set]
      simp only [if_true, wipe_len]
    · rw [List.getElem?_set_ne e, wipe_at σ vs j]
      have e' : (j ∈ v :: vs) ↔ j ∈ vs := by
        simp only [List.mem_cons]
        exact ⟨fun h => h.elim (fun z => absurd z.symm e) id, .inr⟩
      simp only [e']
theorem wipe_but {ns vs : List Nat} {σ2 : St} (h : ButAt ns (L2.wipe σ vs) σ2) (hs : ∀ i ∈ ns, i ∈ vs) : L2.wipe σ2 vs = L2.wipe σ vs := by
  refine List.ext_getElem? fun j => ?_
  rw [wipe_at, wipe_at]
  have hl : σ2.length = σ.length := by rw [h.1, wipe_len]
  by_cases hj : j ∈ vs
  · rw [if_pos hj, if_pos hj, hl]
  · rw [if_neg hj, if_neg hj, h.2 j (fun z => hj (hs j z)), wipe_at, if_neg hj]
end
section
variable {X : Cx} {E : WX} {elt tg iter : Expr} {ifs : List Expr} {scope : Scope} {own : List (Str × Nat)} {pos : Pos} {fi : En → T (List W)} {ns : List Nat} {G : W → En → Option En} {tt : En → T Bool} {fe : En → T W}
theorem comp_ok (hs : ∀ i ∈ ns, i ∈ own.map (·.2)) : ∀ σ H Q, liftE X.K E (fComp (own.map (·.2)) fi G tt fe) σ H Q → tLc (liftI X.K E fi) (liftG X.K ns G) (liftB X.K noW tt) (liftE X.K noW fe) (own.map (·.2)) σ H Q := fun σ H Q h => by
  obtain ⟨c, d, oa, ρ, e, h⟩ := h
  refine ⟨c, d, oa, ρ, e, T.AllB.imp (fun d1 ws hx => ?_) (fun _ _ _ y => y) (T.allB_bind.mp h)⟩
  intro J H1 st1 so1 jo D nD
  have e1 := e.step st1 so1
  obtain ⟨hz, hx⟩ := T.AllB.ite hx
  have hz := sizeOk_of hz
  generalize hvs : own.map (·.2) = vs at hs hx
  have hx : ((compL G tt fe (wipeE ρ vs) ws).bind fun xs => T.ok (W.lst xs)).AllB (PQ X.K c H1 Q) (PX X.K c H1 fun cls dx H' => E cls dx σ H') d1 := T.AllB.imp (fun _ _ y => y.later st1) (fun _ _ _ y => y.later st1) hx
  -- the turn's word
  refine ⟨fun i m H' => m = ws.length - i ∧ ∃ d' acc us, Step c H1 H' ∧ EnvOk X.K (c.more D) d' oa (wipeE ρ vs) (wipe σ vs) H' ∧ H' D = some (.lst us) ∧ RepL X.K (c.more D) H' acc us ∧ us.length ≤ i ∧
    ((compL G tt fe (wipeE ρ vs) (ws.drop i)).bind fun xs => T.ok (W.lst (acc ++ xs))).AllB (PQ X.K c H1 Q) (PX X.K c H1 fun cls dx H' => E cls dx σ H') d',
    ⟨_, rfl, d1, [], [], .new nD, (e1.more nD).wipe vs, upd_same, .nil, Nat.le_refl _, hx⟩, ?_⟩
  rintro i m H' ⟨rfl, d', acc, us, st', e', hD, ra, hl, h'⟩
  have fw : Fwd X.K c H1 (c.more D) H' := .more nD st' e1.wd
  obtain ⟨ji, js⟩ := jo (c.more D) H' d' i fw e'.wd
  have nst : D ∉ [(c.more D).S, (c.more D).ca, (c.more D).la] := by
    obtain ⟨cells, lefts, k, r, h1, h2, h3, _⟩ := so1
    simp only [List.mem_cons, not_or, List.not_mem_nil, not_false_eq_true, and_true]
    exact ⟨Ne.symm (ne_of_none h1 nD), Ne.symm (ne_of_none h2 nD), Ne.symm (ne_of_none h3 nD)⟩
  have ho : ∀ (j : Nat) (xs : List W), (wipeE ρ vs)[j]? = some (.own xs) → oa j ≠ D := fun j xs hj => by
    obtain ⟨_, _, zs, h4, _⟩ := e1.own j xs (wipeE_own hj)
    exact ne_of_none h4 nD
  by_cases hi : i < ws.length
  · have hw : ws[i]? = some ws[i] := List.getElem?_eq_getElem hi
    rw [List.drop_eq_getElem_cons hi] at h'
    obtain ⟨jg, jy⟩ := ji _ hw
    refine .inr ⟨jg, fun H2 => ∃ d' acc us, Step c H1 H2 ∧ EnvOk X.K (c.more D) d' oa (wipeE ρ vs) (wipe σ vs) H2 ∧ H2 D = some (.lst us) ∧ RepL X.K (c.more D) H2 acc us ∧ us.length ≤ i + 1 ∧
      ((compL G tt fe (wipeE ρ vs) (ws.drop (i + 1))).bind fun xs => T.ok (W.lst (acc ++ xs))).AllB (PQ X.K c H1 Q) (PX X.K c H1 fun cls dx H' => E cls dx σ H') d', fun H2 h2 => ⟨ws.length - (i + 1), by omega, rfl, h2⟩, fun x H2 y => ?_⟩
    obtain ⟨st2, so2, rx⟩ := jy x H2 y
    have e2 := e'.step st2 so2
    have keep : ∀ {Ha Hb : Hp}, Step (c.more D) Ha Hb → ∀ {us}, Ha D = some (.lst us) → Hb D = some (.lst us) := fun st us h => st.keep _ _ h (by
      intro z
      exact nst (by rw [z]; simp)) (by
      intro z
      exact nst (by rw [z]; simp)) nofun
    unfold compL at h'
    cases g : G ws[i] (wipeE ρ vs) with
    | none =>
      rw [g] at h'
      exact h'.elim
    | some ρ1 =>
      rw [g] at h'
      refine ⟨c.more D, d', oa, wipeE ρ vs, ws[i], ρ1, e2, rx, g, fun σ3 b3 e3 => ⟨wipe_but b3 hs, c.more D, d', oa, ρ1, e3, ?_⟩⟩
      refine noX_all (T.AllB.imp (fun d4 b hb => ?_) (fun _ _ _ y => y) (T.allB_bind.mp (T.allB_bind.mp h')))
      intro H4 st4 so4
      have e4 := e3.step st4 so4
      have e4' := e2.step st4 so4
      cases b with
      | false => exact iteF ⟨d4, acc, us, st'.trans (Step.to (c := c) (st2.trans st4) rfl rfl), e4', keep st4 (keep st2 hD), (ra.step st2 e'.st e'.ok).step st4 e2.st e2.ok, Nat.le_succ_of_le hl, T.allB_bind.mpr (show (compL G tt fe (wipeE ρ vs) (ws.drop (i + 1))).AllB _ _ d4 from hb)⟩
      | true =>
        refine iteT ⟨c.more D, d4, oa, ρ1, e4, ?_⟩
        refine noX_all (T.AllB.imp (fun d5 w5 h5 => ?_) (fun _ _ _ y => y) (T.allB_bind.mp (show ((noX (fe ρ1)).bind fun x => (compL G tt fe (wipeE ρ vs) (ws.drop (i + 1))).bind fun xs => .ok (x :: xs)).AllB _ _ d4 from hb)))
        intro v5 H5 st5 so5 r5
        have e5 := e4'.step st5 so5
        have hD5 := keep st5 (keep st4 (keep st2 hD))
        have ra5 := ((ra.step st2 e'.st e'.ok).step st4 e2.st e2.ok).step st5 e4'.st e4'.ok
        refine ⟨us, hD5, by omega, d5, acc ++ [w5], us ++ [v5], (st'.trans (Step.to (c := c) (st2.trans (st4.trans st5)) rfl rfl)).past nD, e5.upd (List.mem_cons_self ..) nst hD5 ho, upd_same, ?_, by rw [List.length_append]; exact Nat.succ_le_succ hl, ?_⟩
        · exact (ra5.append (.cons r5 .nil)).upd (List.mem_cons_self ..) hD5 (fun _ z => by cases z) (fun _ _ z => by cases z)
        · have h6 := T.allB_bind.mp h5
          refine T.allB_bind.mpr (T.AllB.imp (fun d6 xs h7 => ?_) (fun _ _ _ y => y) h6)
          have e7 : acc ++ [w5] ++ xs = acc ++ w5 :: xs := by simp
          rw [e7]
          exact h7
  · rw [List.drop_eq_nil_of_le (by omega)] at h'
    refine .inl ⟨js (by omega), ?_⟩
    have h8 : PQ X.K c H1 Q d' (.lst (acc ++ [])) := h'
    rw [List.append_nil] at h8
    refine h8 _ H' st' e'.st (.lst (e1.wd.fresh nD) hD ?_)
    exact RepL.weak (c := c) (c1 := c.more D) rfl (fun b hb => List.mem_cons_of_mem _ hb) ra
/-- the clause's tests -/
def TrTs (X : Cx) (ifs : List Expr) (t : En → T Bool) : Prop := PTs X ifs (liftB X.K noW t)
def fYes : En → T Bool := fun _ => .ok true
theorem trt_nil {X : Cx} : TrTs X [] fYes := ⟨fun pins s σ H Q I h => pts_nil.run pins s σ H Q I (by
  obtain ⟨c, d, oa, ρ, e, h⟩ := h
  exact h H (.refl c H) e.st)⟩
theorem trt_one {X : Cx} {e : Expr} {t : En → T Bool} (h : TrB X noW e t) : TrTs X [e] t := pts_one h
theorem tr_lc (hc : X.calm = true) (hN : X.N.Nodup) (hi : TrI X E tg iter fi) (ok : BlkOk X.N X.env.scope scope own) (hs : ∀ i ∈ ns, i ∈ own.map (·.2))
    (hg : ∀ (s : Shared) (H : Hp) (C : Addr) (cl : List (Str × Addr)) (fp : List Addr), TrG (X.blk s H scope (compEnvC scope cl C X.env) fp) tg ns G) (ht : ∀ (s : Shared) (H : Hp) (C : Addr) (cl : List (Str × Addr)) (fp : List Addr), TrTs (X.blk s H scope (compEnvC scope cl C X.env) fp) ifs tt)
    (he : ∀ (s : Shared) (H : Hp) (C : Addr) (cl : List (Str × Addr)) (fp : List Addr), TrE (X.blk s H scope (compEnvC scope cl C X.env) fp) noW elt fe) (hf : ∀ x, foldedSetIterable iter X.env x = pure x := by intro _; rfl) :
    TrE X E (.ListComp elt [⟨tg, iter, ifs, 0⟩] scope pos) (fComp (own.map (·.2)) fi G tt fe) := pe_imp (pe_lc (g := liftG X.K ns G) (tt := liftB X.K noW tt) (te := liftE X.K noW fe) hc hN hi ok hg ht he hf) (comp_ok hs)
end
def startE (n : Nat) (ws : List W) : En := ws.map Sl.val ++ List.replicate (n - ws.length) .un
def endOf : Fl × En → T W
  | (.rt w, _) => .ok w
  | (.nx, _) => .ok .non
  | _ => .bad
def defF (n np : Nat) (g : En → T (Fl × En)) : List W → T W := fun ws => if ws.length == np then (g (startE n ws)).bind endOf else .bad
/-- a frame begins with no list of its own -/
abbrev Cc.bare (c : Cc) : Cc := { c with M := [] }
theorem start_ok {K : PySem.W.Frag} {c : Cc} {d : Nat} {H : Hp} {ws : List W} {vs : List V} {N : List Str} (wd : Wd c d H) (hT : c.T = tabL K) (hM : c.M = []) (r : RepL K c H ws vs) : EnvOk K c d (fun _ => 0) (startE N.length ws) (L2.start N vs) H where
  ok := wd.ok
  st := wd.st
  av := wd.av
  len := by
    unfold startE L2.start
    rw [List.length_append, List.length_append, List.length_map, List.length_map, List.length_replicate, List.length_replicate, r.length]
  val := fun i w h => by
    unfold startE at h
    unfold L2.start
    rw [List.getElem?_append] at h
    split at h
    · rename_i hi
      rw [List.length_map] at hi
      rw [List.getElem?_map] at h
      cases hw : ws[i]? with
      | none =>
        rw [hw] at h
        cases h
      | some w' =>
        rw [hw] at h
        cases h
        obtain ⟨v, h1, h2⟩ := r.get hw
        refine ⟨v, ?_, h2⟩
        rw [List.getElem?_append_left (by rw [List.length_map, ← r.length]; exact hi), List.getElem?_map, h1]
        rfl
    · rw [List.getElem?_replicate] at h
      split at h <;> cases h
  m := ⟨fun b hb => (by rw [hM] at hb; cases hb), fun b hb => (by rw [hM] at hb; cases hb), fun b hb => (by rw [hM] at hb; cases hb)⟩
  own := fun i w h => by
    unfold startE at h
    rw [List.getElem?_append] at h
    split at h
    · rw [List.getElem?_map] at h
      cases hw : ws[i]? with
      | none =>
        rw [hw] at h
        cases h
      | some w' =>
        rw [hw] at h
        cases h
    · rw [List.getElem?_replicate] at h
      split at h <;> cases h
  inj := fun i j x y h _ => by
    unfold startE at h
    rw [List.getElem?_append] at h
    split at h
    · rw [List.getElem?_map] at h
      cases hw : ws[i]? with
      | none =>
        rw [hw] at h
        cases h
      | some w' =>
        rw [hw] at h
        cases h
    · rw [List.getElem?_replicate] at h
      split at h <;> cases h
  odc := fun i w h => by
    unfold startE at h
    rw [List.getElem?_append] at h
    split at h
    · rw [List.getElem?_map] at h
      cases hw : ws[i]? with
      | none =>
        rw [hw] at h
        cases h
      | some w' =>
        rw [hw] at h
        cases h
    · rw [List.getElem?_replicate] at h
      split at h <;> cases h
  ido := fun i j x y h _ => by
    unfold startE at h
    rw [List.getElem?_append] at h
    split at h
    · rw [List.getElem?_map] at h
      cases hw : ws[i]? with
      | none =>
        rw [hw] at h
        cases h
      | some w' =>
        rw [hw] at h
        cases h
    · rw [List.getElem?_replicate] at h
      split at h <;> cases h
  tT := hT
theorem StOk.to {K : PySem.W.Frag} {c c' : Cc} {d : Nat} {H H' : Hp} (so : StOk c' d H') (fw : Fwd K c.bare H c' H') : StOk c d H' := by
  obtain ⟨cells, lefts, k, r, h1, h2, h3, h4, h5, h6, h7, h8, h9⟩ := so
  rw [fw.S, fw.ca, fw.la] at h1
  rw [fw.ca] at h2
  rw [fw.la] at h3
  rw [fw.ca, fw.la] at h8
  rw [fw.T] at h9
  exact ⟨cells, lefts, k, r, h1, h2, h3, h4, h5, h6, h7, h8, h9⟩
/-- an error that leaves a def -/
theorem PX.ofBare {K : PySem.W.Frag} {c : Cc} {H : Hp} {E : XK} {d n : Nat} {fs : List W} (h : PX K c H E d n fs) : PXs K c.bare H E d n fs := fun c' cls dx H' fw so r => by
  obtain ⟨r1, dd, vs, r2, r3, r4, r5⟩ := r
  exact h cls dx H' ⟨fun b o hb h1 h2 h3 => fw.step b o hb h1 h2 (fun z => by cases z) h3, fun b ps hb => fw.tbl b ps hb fun z => by cases z⟩ (so.to fw)
    ⟨r1, dd, vs, r2, r3, r4, RepL.weak (c := c) (c1 := c') fw.S (fun b hb => fw.sub b hb fun z => by cases z) r5⟩
theorem SpF.len {K : PySem.W.Frag} {F : List W → T W} {np : Nat} (hF : ∀ ws, ws.length ≠ np → F ws = .bad) : ∀ vs H Q E, SpF K F vs H Q E → vs.length = np := fun vs H Q E h => by
  obtain ⟨c, d, ws, hT, wd, r, h⟩ := h
  by_cases e : ws.length = np
  · rw [← r.length]
    exact e
  · rw [hF ws e] at h
    exact h.elim
/-- THE RULE: a def of the text does what its body's run does -/
theorem fn_tr {P : Program} {w : World} {K : PySem.W.Frag} {mg : Str → Option Value} {base : Heap} {k : Nat} {f : Addr} {fd : FuncData} {x qual : Str} {params : Arguments} {body : List Stmt} {scope : Scope} {N ps : List Str} {g : En → T (Fl × En)}
    (F : FunD K x qual params body scope [] [] f fd) (S : FnScope N ps scope)
    (hb : ∀ (cdv : Value) (A : Around) (outer : List PySem.Env) (s : Shared) (H : Hp) (E : XK), Room k (A.deeper (envOfC qual scope s.heap.objs.size f cdv)) → TrSs (cxOf (L2.CX P w) P w K mg base N qual scope f cdv A outer s H E) E body g) :
    FnOk P w K mg base (L2.CX P w) (k + 1) f fd ps (SpF K (defF N.length ps.length g)) := by
  refine F.ok S (SpF.len fun ws h => ?_) fun cdv A outer s H vs Q E hr h => ⟨_, hb cdv A outer s H E hr, ?_⟩
  · unfold defF
    rw [if_neg]
    intro z
    exact h (eq_of_beq z)
  · obtain ⟨c, d, ws, hT, wd, r, h⟩ := h
    obtain ⟨_, h⟩ := T.AllB.ite h
    refine ⟨c.bare, d, fun _ => 0, startE N.length ws, start_ok ⟨⟨wd.ok.inS, wd.ok.inla, wd.ok.inca⟩, wd.st, wd.av⟩ hT rfl (RepL.weak (c := c.bare) (c1 := c) rfl (fun _ h => h) r), T.AllB.imp (fun d1 x hx => ?_) (fun _ _ _ y => y.ofBare) (T.allB_bind.mp h)⟩
    obtain ⟨fl, ρ'⟩ := x
    intro c' oa' σ' H' fw e'
    have so : StOk c d1 H' := e'.st.to fw
    have st : Step c H H' := ⟨fun b o hb h1 h2 h3 => fw.step b o hb h1 h2 (fun z => by cases z) h3, fun b ps hb => fw.tbl b ps hb fun z => by cases z⟩
    cases fl with
    | nx => exact hx _ H' st so .non
    | rt w => exact fun v rv => hx v H' st so (Rep.weak (c := c) (c1 := c') fw.S (fun b hb => fw.sub b hb fun z => by cases z) rv)
    | bk => exact hx.elim
    | ct => exact hx.elim
end PF
namespace PF
open PySem PySem.Spec PyProof.Rows L2
@[irreducible] def sz2 (a b : Nat) : Bool := decide (a + b ≤ 16777216)
theorem sz2_of {a b : Nat} (h : sz2 a b = true) : a + b ≤ 16777216 := by
  unfold sz2 at h
  exact of_decide_eq_true h
def addW : W → W → T W
  | .int i, .int j => .ok (.int (i + j))
  | .str x, .str y => if sz2 x.length y.length then .ok (.str (x ++ y)) else .bad
  | .tup xs, .tup ys => if sz2 xs.length ys.length then .ok (.tup (xs ++ ys)) else .bad
  | .lst xs, .lst ys => if sz2 xs.length ys.length then .ok (.lst (xs ++ ys)) else .bad
  | _, _ => .bad
def subW : W → W → T W
  | .int i, .int j => .ok (.int (i - j))
  | _, _ => .bad
@[irreducible] def mulOk (i j : Int) : Bool := decide (i.natAbs.log2 + j.natAbs.log2 < 1000000)
def mulW : W → W → T W
  | .int i, .int j => if mulOk i j then .ok (.int (i * j)) else .bad
  | _, _ => .bad
@[irreducible] def divOk (j : Int) : Bool := decide (0 < j) && decide (j.natAbs.log2 < 9000)
def fdivW : W → W → T W
  | .int i, .int j => if divOk j then .ok (.int (i / j)) else .bad
  | _, _ => .bad
def modW : W → W → T W
  | .int i, .int j => if decide (0 < j) then .ok (.int (i % j)) else .bad
  | _, _ => .bad
@[irreducible] def powOk (i j : Int) : Bool := decide (0 ≤ j ∧ j ≤ 1000000 ∧ i.natAbs < 2 ^ 64)
def powW : W → W → T W
  | .int i, .int j => if powOk i j then .ok (.int (i ^ j.toNat)) else .bad
  | _, _ => .bad
def ltW : W → W → T W
  | .int i, .int j => .ok (.bl (decide (i < j)))
  | _, _ => .bad
def leW : W → W → T W
  | .int i, .int j => .ok (.bl (decide (i ≤ j)))
  | _, _ => .bad
def gtW : W → W → T W
  | .int i, .int j => .ok (.bl (decide (j < i)))
  | _, _ => .bad
def geW : W → W → T W
  | .int i, .int j => .ok (.bl (decide (j ≤ i)))
  | _, _ => .bad
section
variable {K : PySem.W.Frag}
theorem RepL.sizes {c : Cc} {H : Hp} {xs ys : List W} {us vs : List V} (r : RepL K c H xs us) (q : RepL K c H ys vs) (h : sz2 xs.length ys.length = true) : us.length + vs.length ≤ sizeLine := by
  rw [sizeLine_eq, ← r.length, ← q.length]
  exact sz2_of h
theorem sem_int0 {g : W → W → T W} {f : Int → Int → V} {k : Int → Int → W} (hk : ∀ c H i j, Rep K c H (k i j) (f i j)) (h : ∀ x y, (∃ i j, x = .int i ∧ y = .int j ∧ g x y = .ok (k i j)) ∨ g x y = .bad) : Sem2 K (rI0 f) g := fun c d H x y v u Q E' wd rx ry q => by
  rcases h x y with ⟨i, j, rfl, rfl, e⟩ | e
  · rw [e] at q
    cases rx
    cases ry
    exact ⟨i, j, rfl, rfl, PQ.now wd q (hk c H i j)⟩
  · rw [e] at q
    exact q.elim
theorem sem_intC {g : W → W → T W} {C : Int → Int → Prop} {B : Int → Int → Bool} {f : Int → Int → V} {k : Int → Int → W} (hk : ∀ c H i j, Rep K c H (k i j) (f i j)) (hC : ∀ i j, B i j = true → C i j) (h : ∀ x y, (∃ i j, x = .int i ∧ y = .int j ∧ g x y = if B i j then .ok (k i j) else .bad) ∨ g x y = .bad) : Sem2 K (rI C f) g := fun c d H x y v u Q E' wd rx ry q => by
  rcases h x y with ⟨i, j, rfl, rfl, e⟩ | e
  · rw [e] at q
    cases rx
    cases ry
    obtain ⟨hb, q⟩ := T.AllB.ite q
    exact ⟨i, j, rfl, rfl, hC i j hb, PQ.now wd q (hk c H i j)⟩
  · rw [e] at q
    exact q.elim
theorem sem_or1 {r r' : R2} {g g1 g2 : W → W → T W} (h1 : Sem2 K r g1) (h2 : Sem2 K r' g2) (h : ∀ x y, g x y = g1 x y ∨ g x y = g2 x y) : Sem2 K (fun x y H Q => r x y H Q ∨ r' x y H Q) g := fun c d H x y v u Q E' wd rx ry q => by
  rcases h x y with e | e
  · rw [e] at q
    exact .inl (h1 c d H x y v u Q E' wd rx ry q)
  · rw [e] at q
    exact .inr (h2 c d H x y v u Q E' wd rx ry q)
def addI : W → W → T W
  | .int i, .int j => .ok (.int (i + j))
  | _, _ => .bad
def addS : W → W → T W
  | .str x, .str y => if sz2 x.length y.length then .ok (.str (x ++ y)) else .bad
  | _, _ => .bad
def addT : W → W → T W
  | .tup xs, .tup ys => if sz2 xs.length ys.length then .ok (.tup (xs ++ ys)) else .bad
  | _, _ => .bad
def addL : W → W → T W
  | .lst xs, .lst ys => if sz2 xs.length ys.length then .ok (.lst (xs ++ ys)) else .bad
  | _, _ => .bad
theorem sem_addI : Sem2 K (rI0 fun i j => .int (i + j)) addI := sem_int0 (k := fun i j => .int (i + j)) (fun _ _ _ _ => .int _) fun x y => by
  cases x <;> cases y <;> first | exact .inl ⟨_, _, rfl, rfl, rfl⟩ | exact .inr rfl
theorem sem_addS : Sem2 K (fun x y H Q => ∃ i j, x = .str i ∧ y = .str j ∧ i.length + j.length ≤ sizeLine ∧ Q (.str (i ++ j)) H) addS := fun c d H x y v u Q E' wd rx ry q => by
  cases rx <;> try exact q.elim
  cases ry <;> try exact q.elim
  obtain ⟨hz, q⟩ := T.AllB.ite q
  exact ⟨_, _, rfl, rfl, by rw [sizeLine_eq]; exact sz2_of hz, PQ.now wd q (.str _)⟩
theorem sem_addT : Sem2 K (rCatA K) addT := fun c d H x y v u Q E' wd rx ry q => by
  cases rx <;> try exact q.elim
  cases ry <;> try exact q.elim
  rename_i a xs ws h1 r1 b ys us h2 r2
  obtain ⟨hz, q⟩ := T.AllB.ite q
  refine ⟨_, _, _, _, rfl, rfl, h1, h2, r1.sizes r2 hz, fun e => ?_, fun _ e => ?_, fun _ _ p n => PQ.tup wd q (r1.append r2) n⟩
  · subst e
    cases r1
    exact PQ.now wd q (.tup h2 r2)
  · subst e
    cases r2
    rw [List.append_nil] at q
    exact PQ.now wd q (.tup h1 r1)
theorem sem_addL : Sem2 K rCat addL := fun c d H x y v u Q E' wd rx ry q => by
  cases rx <;> try exact q.elim
  cases ry <;> try exact q.elim
  rename_i a xs ws n1 h1 r1 b ys us n2 h2 r2
  obtain ⟨hz, q⟩ := T.AllB.ite q
  exact ⟨_, _, _, _, rfl, rfl, h1, h2, r1.sizes r2 hz, fun p n => PQ.lst wd q (r1.append r2) n⟩
/-- a + b of ints, texts, tuples, lists -/
abbrev rAddW (K : PySem.W.Frag) : R2 := fun x y H Q => rI0 (fun i j => .int (i + j)) x y H Q ∨ ((∃ i j, x = .str i ∧ y = .str j ∧ i.length + j.length ≤ sizeLine ∧ Q (.str (i ++ j)) H) ∨ (rCatA K x y H Q ∨ rCat x y H Q))
def addX : W → W → T W
  | .tup xs, y => addT (.tup xs) y
  | x, y => addL x y
def addY : W → W → T W
  | .str xs, y => addS (.str xs) y
  | x, y => addX x y
theorem addW_eq (x y : W) : addW x y = addI x y ∨ addW x y = addY x y := by
  cases x <;> cases y <;> first | exact .inl rfl | exact .inr rfl
theorem sem_add : Sem2 K (rAddW K) addW := sem_or1 sem_addI (sem_or1 (g := addY) sem_addS (sem_or1 (g := addX) sem_addT sem_addL fun x y => by
    cases x <;> first | exact .inr rfl | exact .inl rfl) fun x y => by
    cases x <;> first | exact .inr rfl | exact .inl rfl) addW_eq
theorem sem_sub : Sem2 K (rI0 fun i j => .int (i - j)) subW := sem_int0 (k := fun i j => .int (i - j)) (fun _ _ _ _ => .int _) fun x y => by
  cases x <;> cases y <;> first | exact .inl ⟨_, _, rfl, rfl, rfl⟩ | exact .inr rfl
theorem sem_mul : Sem2 K (rI CMulW fun i j => .int (i * j)) mulW := sem_intC (B := mulOk) (k := fun i j => .int (i * j)) (fun _ _ _ _ => .int _) (fun i j h => by
    unfold mulOk at h
    show i.natAbs.log2 + j.natAbs.log2 < 1000000
    exact of_decide_eq_true h) fun x y => by
  cases x <;> cases y <;> first | exact .inl ⟨_, _, rfl, rfl, rfl⟩ | exact .inr rfl
theorem sem_fdiv : Sem2 K (rI CDivW fun i j => .int (i / j)) fdivW := sem_intC (B := fun _ j => divOk j) (k := fun i j => .int (i / j)) (fun _ _ _ _ => .int _) (fun i j h => by
    unfold divOk at h
    obtain ⟨h1, h2⟩ := Bool.and_eq_true_iff.mp h
    exact ⟨of_decide_eq_true h1, of_decide_eq_true h2⟩) fun x y => by
  cases x <;> cases y <;> first | exact .inl ⟨_, _, rfl, rfl, rfl⟩ | exact .inr rfl
theorem sem_mod : Sem2 K (rI (fun _ j => 0 < j) fun i j => .int (i % j)) modW := sem_intC (B := fun _ j => decide (0 < j)) (k := fun i j => .int (i % j)) (fun _ _ _ _ => .int _) (fun i j h => of_decide_eq_true h) fun x y => by
  cases x <;> cases y <;> first | exact .inl ⟨_, _, rfl, rfl, rfl⟩ | exact .inr rfl
theorem sem_pow : Sem2 K (rI CPow fun i j => .int (i ^ j.toNat)) powW := sem_intC (B := powOk) (k := fun i j => .int (i ^ j.toNat)) (fun _ _ _ _ => .int _) (fun i j h => by
    unfold powOk at h
    show 0 ≤ j ∧ j ≤ 1000000 ∧ i.natAbs < 2 ^ 64
    exact of_decide_eq_true h) fun x y => by
  cases x <;> cases y <;> first | exact .inl ⟨_, _, rfl, rfl, rfl⟩ | exact .inr rfl
theorem sem_lt : Sem2 K (rI0 fun i j => .bl (decide (i < j))) ltW := sem_int0 (k := fun i j => .bl (decide (i < j))) (fun _ _ _ _ => .bl _) fun x y => by
  cases x <;> cases y <;> first | exact .inl ⟨_, _, rfl, rfl, rfl⟩ | exact .inr rfl
theorem sem_le : Sem2 K (rI0 fun i j => .bl (decide (i ≤ j))) leW := sem_int0 (k := fun i j => .bl (decide (i ≤ j))) (fun _ _ _ _ => .bl _) fun x y => by
  cases x <;> cases y <;> first | exact .inl ⟨_, _, rfl, rfl, rfl⟩ | exact .inr rfl
theorem sem_gt : Sem2 K (rI0 fun i j => .bl (decide (j < i))) gtW := sem_int0 (k := fun i j => .bl (decide (j < i))) (fun _ _ _ _ => .bl _) fun x y => by
  cases x <;> cases y <;> first | exact .inl ⟨_, _, rfl, rfl, rfl⟩ | exact .inr rfl
theorem sem_ge : Sem2 K (rI0 fun i j => .bl (decide (j ≤ i))) geW := sem_int0 (k := fun i j => .bl (decide (j ≤ i))) (fun _ _ _ _ => .bl _) fun x y => by
  cases x <;> cases y <;> first | exact .inl ⟨_, _, rfl, rfl, rfl⟩ | exact .inr rfl
def negW : W → T W
  | .int i => .ok (.int (-i))
  | _ => .bad
theorem sem_neg : Sem1 K (rU fun i => .int (-i)) negW := fun c d H x v Q E' wd rx q => by
  cases rx <;> try exact q.elim
  exact ⟨_, rfl, PQ.now wd q (.int _)⟩
end
section
variable {X : Cx}
theorem op_addW : OpR X (binaryOp .Add) (rAddW X.K) := op_add.or (op_add_str.or (op_catA.or op_cat))
end
mutual
def W.toD : W → Option PyData
  | .non => some .none
  | .bl b => some (.bool b)
  | .int i => some (.int i)
  | .str x => some (.str x)
  | .tup ws => (toDs ws).map .tuple
  | .lst ws => (toDs ws).map .list
  | _ => none
def toDs : List W → Option (List PyData)
  | [] => some []
  | w :: ws => match W.toD w, toDs ws with
    | some d, some ds => some (d :: ds)
    | _, _ => none
end
section
variable {K : PySem.W.Frag} {c : Cc} {H : Hp}
theorem toD_tup {ws : List W} {d : PyData} (e : (W.tup ws).toD = some d) : ∃ ds, toDs ws = some ds ∧ d = .tuple ds := by
  unfold W.toD at e
  cases q : toDs ws with
  | none =>
    rw [q] at e
    cases e
  | some ds =>
    rw [q] at e
    exact ⟨ds, rfl, (Option.some.inj e).symm⟩
theorem toD_lst {ws : List W} {d : PyData} (e : (W.lst ws).toD = some d) : ∃ ds, toDs ws = some ds ∧ d = .list ds := by
  unfold W.toD at e
  cases q : toDs ws with
  | none =>
    rw [q] at e
    cases e
  | some ds =>
    rw [q] at e
    exact ⟨ds, rfl, (Option.some.inj e).symm⟩
theorem toDs_cons {w : W} {ws : List W} {ds : List PyData} (e : toDs (w :: ws) = some ds) : ∃ d es, w.toD = some d ∧ toDs ws = some es ∧ ds = d :: es := by
  unfold toDs at e
  split at e
  · rename_i d es h1 h2
    exact ⟨d, es, h1, h2, (Option.some.inj e).symm⟩
  · cases e
theorem toD_non {d : PyData} (e : W.non.toD = some d) : d = .none := by
  unfold W.toD at e
  exact (Option.some.inj e).symm
theorem toD_bl {b : Bool} {d : PyData} (e : (W.bl b).toD = some d) : d = .bool b := by
  unfold W.toD at e
  exact (Option.some.inj e).symm
theorem toD_int {b : Int} {d : PyData} (e : (W.int b).toD = some d) : d = .int b := by
  unfold W.toD at e
  exact (Option.some.inj e).symm
theorem toD_str {b : Str} {d : PyData} (e : (W.str b).toD = some d) : d = .str b := by
  unfold W.toD at e
  exact (Option.some.inj e).symm
theorem toD_dct {ks : List Key} {ws : List W} {d : PyData} (e : (W.dct ks ws).toD = some d) : False := by
  unfold W.toD at e
  cases e
theorem toD_scr {n : Nat} {d : PyData} (e : (W.scr n).toD = some d) : False := by
  unfold W.toD at e
  cases e
theorem toD_stt {d : PyData} (e : W.stt.toD = some d) : False := by
  unfold W.toD at e
  cases e
mutual
theorem Rep.dp {w : W} {v : V} (r : Rep K c H w v) : ∀ {d : PyData}, w.toD = some d → Dp K H v d := by
  intro d e
  cases r with
  | non => rw [toD_non e]; exact .non
  | bl b => rw [toD_bl e]; exact .bl b
  | int i => rw [toD_int e]; exact .int i
  | str x => rw [toD_str e]; exact .str x
  | tup h r =>
    obtain ⟨ds, e1, rfl⟩ := toD_tup e
    exact .tup h (RepL.dp r e1)
  | lst n h r =>
    obtain ⟨ds, e1, rfl⟩ := toD_lst e
    exact .lst (SqL.of h) (RepL.dp r e1)
  | dct n h r => exact (toD_dct e).elim
  | scr h => exact (toD_scr e).elim
  | stt => exact (toD_stt e).elim
theorem RepL.dp {ws : List W} {vs : List V} (r : RepL K c H ws vs) : ∀ {ds : List PyData}, toDs ws = some ds → DpAll K H vs ds := by
  intro ds e
  cases r with
  | nil =>
    unfold toDs at e
    cases e
    exact .nil
  | cons h r =>
    obtain ⟨d, es, e1, e2, rfl⟩ := toDs_cons e
    exact .cons (Rep.dp h e1) (RepL.dp r e2)
end
end
def eqO (x y : W) : Option Bool := match x.toD, y.toD with
  | some d, some e => if SeqAt.shaped d && SeqAt.shaped e then some (PyData.eqv d e) else none
  | _, _ => none
def eqW (x y : W) : T W := match eqO x y with
  | some b => .ok (.bl b)
  | none => .bad
def neW (x y : W) : T W := match eqO x y with
  | some b => .ok (.bl !b)
  | none => .bad
section
variable {K : PySem.W.Frag}
theorem eqO_some {x y : W} {b : Bool} (h : eqO x y = some b) : ∃ d e, x.toD = some d ∧ y.toD = some e ∧ SeqAt.shaped d = true ∧ SeqAt.shaped e = true ∧ PyData.eqv d e = b := by
  unfold eqO at h
  split at h
  · rename_i d e h1 h2
    split at h
    · rename_i hs
      obtain ⟨h3, h4⟩ := Bool.and_eq_true_iff.mp hs
      exact ⟨d, e, h1, h2, h3, h4, Option.some.inj h⟩
    · cases h
  · cases h
theorem sem_eq : Sem2 K (rEqD K) eqW := fun c d H x y v u Q E' wd rx ry q => by
  unfold eqW at q
  cases e : eqO x y with
  | none =>
    rw [e] at q
    exact q.elim
  | some b =>
    rw [e] at q
    obtain ⟨d1, d2, h1, h2, h3, h4, rfl⟩ := eqO_some e
    exact ⟨d1, d2, rx.dp h1, ry.dp h2, h3, h4, PQ.now wd q (.bl _)⟩
theorem sem_ne : Sem2 K (rNeD K) neW := fun c d H x y v u Q E' wd rx ry q => by
  unfold neW at q
  cases e : eqO x y with
  | none =>
    rw [e] at q
    exact q.elim
  | some b =>
    rw [e] at q
    obtain ⟨d1, d2, h1, h2, h3, h4, rfl⟩ := eqO_some e
    exact ⟨d1, d2, rx.dp h1, ry.dp h2, h3, h4, PQ.now wd q (.bl _)⟩
def isNon : W → Bool
  | .non => true
  | _ => false
def isW : W → W → T W
  | x, .non => .ok (.bl (isNon x))
  | .bl a, .bl b => .ok (.bl (decide (a = b)))
  | _, _ => .bad
def isntW : W → W → T W
  | x, .non => .ok (.bl !(isNon x))
  | .bl a, .bl b => .ok (.bl !(decide (a = b)))
  | _, _ => .bad
theorem Rep.isN {c : Cc} {H : Hp} {x : W} {v : V} (r : Rep K c H x v) : isNon x = decide (v = .non) := by
  cases r <;> rfl
abbrev rIsW : R2 := fun x y H Q => (y = .non ∧ Q (.bl (decide (x = .non))) H) ∨ ∃ a b, x = .bl a ∧ y = .bl b ∧ Q (.bl (decide (a = b))) H
abbrev rIsntW : R2 := fun x y H Q => (y = .non ∧ Q (.bl (!decide (x = .non))) H) ∨ ∃ a b, x = .bl a ∧ y = .bl b ∧ Q (.bl (!decide (a = b))) H
theorem sem_is : Sem2 K rIsW isW := fun c d H x y v u Q E' wd rx ry q => by
  cases ry with
  | non =>
    have q : PQ K c H Q d (.bl (isNon x)) := by cases x <;> exact q
    rw [rx.isN] at q
    exact .inl ⟨rfl, PQ.now wd q (.bl _)⟩
  | bl b =>
    cases rx <;> try exact q.elim
    exact .inr ⟨_, _, rfl, rfl, PQ.now wd q (.bl _)⟩
  | _ => cases x <;> exact q.elim
theorem sem_isnt : Sem2 K rIsntW isntW := fun c d H x y v u Q E' wd rx ry q => by
  cases ry with
  | non =>
    have q : PQ K c H Q d (.bl !(isNon x)) := by cases x <;> exact q
    rw [rx.isN] at q
    exact .inl ⟨rfl, PQ.now wd q (.bl _)⟩
  | bl b =>
    cases rx <;> try exact q.elim
    exact .inr ⟨_, _, rfl, rfl, PQ.now wd q (.bl _)⟩
  | _ => cases x <;> exact q.elim
theorem op_isW {X : Cx} : OpR X (compareOp .Is) rIsW := op_isN.or op_is_bl
theorem op_isntW {X : Cx} : OpR X (compareOp .IsNot) rIsntW := op_notN.or op_isnot_bl
def ixW : W → W → T W
  | .tup ws, .int i => match atI ws i with
    | some w => .ok w
    | none => .bad
  | .lst ws, .int i => match atI ws i with
    | some w => .ok w
    | none => .bad
  | .str z, .int i => if strOk z then (match atI z.cps.toList i with
    | some c => .ok (.str ⟨#[c]⟩)
    | none => .bad) else .bad
  | _, _ => .bad
theorem RepL.atI {c : Cc} {H : Hp} {ws : List W} {vs : List V} {i : Int} {w : W} (r : RepL K c H ws vs) (h : L2.atI ws i = some w) : ∃ v, L2.atI vs i = some v ∧ Rep K c H w v := by
  unfold L2.atI at h ⊢
  rw [← r.length]
  cases e : ixN ws.length i with
  | none =>
    rw [e] at h
    cases h
  | some j =>
    rw [e] at h
    exact r.get h
theorem sem_ix : Sem2 K (rIx K) ixW := fun c d H x y v u Q E' wd rx ry q => by
  cases rx <;> try exact q.elim
  · cases ry <;> try exact q.elim
    rename_i z i
    obtain ⟨hz, q⟩ := T.AllB.ite q
    cases e : L2.atI z.cps.toList i with
    | none =>
      rw [e] at q
      exact q.elim
    | some k =>
      rw [e] at q
      exact .inr (.inr ⟨z, i, k, rfl, rfl, strOk_of hz, e, PQ.now wd q (.str _)⟩)
  · cases ry <;> try exact q.elim
    rename_i a vs ws hq r i
    unfold ixW at q
    simp only at q
    cases e : L2.atI ws i with
    | none =>
      rw [e] at q
      exact q.elim
    | some w =>
      rw [e] at q
      obtain ⟨v, h1, h2⟩ := r.atI e
      exact .inr (.inl ⟨a, vs, i, v, rfl, rfl, hq, h1, PQ.now wd q h2⟩)
  · cases ry <;> try exact q.elim
    rename_i a vs ws n hq r i
    unfold ixW at q
    simp only at q
    cases e : L2.atI ws i with
    | none =>
      rw [e] at q
      exact q.elim
    | some w =>
      rw [e] at q
      obtain ⟨v, h1, h2⟩ := r.atI e
      exact .inl ⟨a, vs, i, v, rfl, rfl, SqL.of hq, h1, PQ.now wd q h2⟩
def absW : List W → T W
  | [.int i] => .ok (.int (if i < 0 then -i else i))
  | _ => .bad
theorem sem_abs : SemL K (fun xs H Q => ∃ i, xs = [.int i] ∧ Q (.int (if i < 0 then -i else i)) H) absW := fun c d H x v Q E' wd rx q => by
  cases rx with
  | nil => exact q.elim
  | cons r rr =>
    cases rr with
    | cons _ _ => cases r <;> exact q.elim
    | nil =>
      cases r <;> try exact q.elim
      exact ⟨_, rfl, PQ.now wd q (.int _)⟩
def intW : List W → T W
  | [.int i] => .ok (.int i)
  | [.bl b] => .ok (.int (if b then 1 else 0))
  | _ => .bad
theorem sem_int1 : SemL K (fun xs H Q => (∃ i, xs = [.int i] ∧ Q (.int i) H) ∨ ∃ k, xs = [.bl k] ∧ Q (.int (if k then 1 else 0)) H) intW := fun c d H x v Q E' wd rx q => by
  cases rx with
  | nil => exact q.elim
  | cons r rr =>
    cases rr with
    | cons _ _ => cases r <;> exact q.elim
    | nil =>
      cases r <;> try exact q.elim
      · exact .inr ⟨_, rfl, PQ.now wd q (.int _)⟩
      · exact .inl ⟨_, rfl, PQ.now wd q (.int _)⟩
def max2W : List W → T W
  | [.int i, .int j] => .ok (.int (if j > i then j else i))
  | _ => .bad
def min2W : List W → T W
  | [.int i, .int j] => .ok (.int (if j < i then j else i))
  | _ => .bad
theorem sem_two {r : List V → Hp → VK → Prop} {g : List W → T W} (h1 : ∀ c d H Q i j, Wd c d H → (g [.int i, .int j]).AllB (PQ K c H Q) (fun _ _ _ => True) d → r [.int i, .int j] H Q) (h2 : ∀ x, (∀ i j, x ≠ [.int i, .int j]) → g x = .bad) : SemL K r g := fun c d H x v Q E' wd rx q => by
  by_cases h : ∃ i j, x = [.int i, .int j]
  · obtain ⟨i, j, rfl⟩ := h
    cases rx with
    | cons r1 rr =>
      cases rr with
      | cons r2 rr =>
        cases rr
        cases r1
        cases r2
        exact h1 c d H Q i j wd (T.AllB.imp (fun _ _ y => y) (fun _ _ _ _ => trivial) q)
  · rw [h2 x fun i j z => h ⟨i, j, z⟩] at q
    exact q.elim
theorem sem_max2 : SemL K (fun xs H Q => ∃ i j, xs = [.int i, .int j] ∧ Q (.int (if j > i then j else i)) H) max2W := sem_two (fun c d H Q i j wd q => ⟨i, j, rfl, PQ.now wd q (.int _)⟩) fun x h => by
  unfold max2W
  split
  · exact absurd rfl (h _ _)
  · rfl
theorem sem_min2 : SemL K (fun xs H Q => ∃ i j, xs = [.int i, .int j] ∧ Q (.int (if j < i then j else i)) H) min2W := sem_two (fun c d H Q i j wd q => ⟨i, j, rfl, PQ.now wd q (.int _)⟩) fun x h => by
  unfold min2W
  split
  · exact absurd rfl (h _ _)
  · rfl
def lenW : List W → T W
  | [.tup ws] => .ok (.int ws.length)
  | [.lst ws] => .ok (.int ws.length)
  | [.scr n] => .ok (.int n)
  | [.str x] => if strOk x then .ok (.int x.length) else .bad
  | _ => .bad
theorem sem_len : SemL K (fun xs H Q => ∃ x n, xs = [x] ∧ LenV K x H n ∧ Q (.int n) H) lenW := fun c d H x v Q E' wd rx q => by
  cases rx with
  | nil => exact q.elim
  | cons r rr =>
    cases rr with
    | cons _ _ => cases r <;> exact q.elim
    | nil =>
      cases r with
      | str x =>
        obtain ⟨hz, q⟩ := T.AllB.ite q
        exact ⟨_, _, rfl, ⟨strOk_of hz, rfl⟩, PQ.now wd q (.int _)⟩
      | tup h rl => exact ⟨_, _, rfl, .inr ⟨_, h, rl.length⟩, PQ.now wd q (.int _)⟩
      | lst n h rl => exact ⟨_, _, rfl, .inl ⟨_, SqL.of h, rl.length⟩, PQ.now wd q (.int _)⟩
      | @scr a ns h =>
        refine ⟨_, ns.length, rfl, .inl ⟨ns.map V.int, ?_, (List.length_map ..).symm⟩, PQ.now wd q (.int _)⟩
        rcases h with ⟨_, h⟩ | h
        · exact .inl h
        · exact sqL_of_none h
      | _ => exact q.elim
def blsW : List W → Option (List Bool)
  | [] => some []
  | .bl b :: ws => (blsW ws).map (b :: ·)
  | _ => none
theorem blsW_some : ∀ {ws : List W} {bs : List Bool}, blsW ws = some bs → ws = bs.map W.bl
  | [], _, h => by cases h; rfl
  | .bl b :: ws, bs, h => by
    have h : (blsW ws).map (b :: ·) = some bs := h
    cases e : blsW ws with
    | none =>
      rw [e] at h
      cases h
    | some cs =>
      rw [e] at h
      cases h
      rw [blsW_some e]
      rfl
  | .non :: ws, _, h => by cases h
  | .int _ :: ws, _, h => by cases h
  | .str _ :: ws, _, h => by cases h
  | .tup _ :: ws, _, h => by cases h
  | .lst _ :: ws, _, h => by cases h
  | .dct _ _ :: ws, _, h => by cases h
  | .scr _ :: ws, _, h => by cases h
  | .stt :: ws, _, h => by cases h
  | .clo _ _ :: ws, _, h => by cases h
  | .exo _ _ :: ws, _, h => by cases h
  | .ref _ :: ws, _, h => by cases h
def allW : List W → T W
  | [.lst ws] => match blsW ws with
    | some bs => .ok (.bl (bs.all id))
    | none => .bad
  | _ => .bad
def anyW : List W → T W
  | [.lst ws] => match blsW ws with
    | some bs => .ok (.bl (bs.any id))
    | none => .bad
  | _ => .bad
theorem sem_all : SemL K (rAll K) allW := fun c d H x v Q E' wd rx q => by
  cases rx with
  | nil => exact q.elim
  | cons r rr =>
    cases rr with
    | cons _ _ => cases r <;> exact q.elim
    | nil =>
      cases r <;> try exact q.elim
      rename_i a vs ws n h rl
      unfold allW at q
      simp only at q
      cases e : blsW ws with
      | none =>
        rw [e] at q
        exact q.elim
      | some bs =>
        rw [e] at q
        have e2 := blsW_some e
        subst e2
        have e3 := rl.bls
        subst e3
        exact ⟨a, bs, rfl, SqL.of h, PQ.now wd q (.bl _)⟩
theorem sem_any : SemL K (rAny K) anyW := fun c d H x v Q E' wd rx q => by
  cases rx with
  | nil => exact q.elim
  | cons r rr =>
    cases rr with
    | cons _ _ => cases r <;> exact q.elim
    | nil =>
      cases r <;> try exact q.elim
      rename_i a vs ws n h rl
      unfold anyW at q
      simp only at q
      cases e : blsW ws with
      | none =>
        rw [e] at q
        exact q.elim
      | some bs =>
        rw [e] at q
        have e2 := blsW_some e
        subst e2
        have e3 := rl.bls
        subst e3
        exact ⟨a, bs, rfl, SqL.of h, PQ.now wd q (.bl _)⟩
def tyW : W → Option String
  | .non => some "NoneType"
  | .bl _ => some "bool"
  | .int _ => some "int"
  | .str _ => some "str"
  | .tup _ => some "tuple"
  | .lst _ => some "list"
  | .dct _ _ => some "dict"
  | _ => none
theorem Rep.ty {c : Cc} {H : Hp} {w : W} {v : V} {s : String} (r : Rep K c H w v) (h : tyW w = some s) : TyX K H v (.type s) := by
  cases r with
  | non => cases h; exact .base .non
  | bl b => cases h; exact .base (.bl b)
  | int i => cases h; exact .base (.int i)
  | str x => cases h; exact .base (.str x)
  | tup hq _ =>
    cases h
    rcases hq with (e | ⟨o, e⟩) | ⟨o, its, n, e, cl, _⟩
    · exact .base (.tup e)
    · exact .fTuple e
    · exact .kTuple e cl
  | lst n e _ => cases h; exact .base (.lst e)
  | dct n e _ => cases h; exact .base (.dK e)
  | scr _ => cases h
  | stt => cases h
end
/-- isT: which of the types are a T -/
def isiW (isT : String → Option Bool) (x : W) : T W := match (tyW x).bind isT with
  | some b => .ok (.bl b)
  | none => .bad
def isInt (s : String) : Option Bool := match s with
  | "NoneType" => some false | "bool" => some true | "int" => some true | "str" => some false | "tuple" => some false | "list" => some false | "dict" => some false | _ => none
def isOnly (t : String) (s : String) : Option Bool := if ["NoneType", "bool", "int", "str", "tuple", "list", "dict"].contains s then some (s == t) else none
theorem tr_isi {X : Cx} {E : WX} {a : Expr} {fa : En → T W} {T : Str} {t : String} {p p2 pos : Pos} {isT : String → Option Bool} (hi : ∀ s b, isT s = some b → kitB s t = some b) (hg : Gl X "isinstance") (hm : X.mg "isinstance" = none) (hgT : Gl X T) (hmT : X.mg T = none) (hT : bootBuiltins T = some (.type t)) (ha : TrE X E a fa)
    (hn : T ≠ "__name__" := by decide) (hd : (T == ("__debug__" : Str)) = false := by decide)
    (hs1 : starEach [a, .Name T p2] X.env = (false, eval a X.env) :: starEach [.Name T p2] X.env := by rfl) (hs2 : starEach [.Name T p2] X.env = (false, eval (.Name T p2) X.env) :: starEach [] X.env := by rfl) (hpl : (backTo pos (starEach [.Name T p2] X.env)).any (·.1) = false := by rfl) :
    TrE X E (.Call (.Name "isinstance" p) [a, .Name T p2] [] pos) (f1 (isiW isT) fa) := pe_imp (pe_callB (id := "isinstance") call_isi hg hm (by decide +kernel) (pa_cons ha (pa_cons (pe_bltn (v := .ty t) hgT hmT hT rfl hn hd) pa_nil hs2) hs1) (by decide) (by decide) hs1 hpl) fun σ H Q h => by
  obtain ⟨c, d, oa, ρ, e, h⟩ := h
  refine lift_then (P := fun c H => PQ X.K c H Q) e h (fun st p => p.later st) fun w v H1 d1 _ r1 e1 h1 => ?_
  unfold isiW at h1
  cases e2 : (tyW w).bind isT with
  | none =>
    rw [e2] at h1
    exact h1.elim
  | some b =>
    rw [e2] at h1
    cases e3 : tyW w with
    | none =>
      rw [e3] at e2
      cases e2
    | some s =>
      rw [e3] at e2
      exact ⟨v, .ty t, .type s, .type t, b, rfl, .ty t, r1.ty e3, kit_ty (hi s b e2), PQ.now e1.wd h1 (.bl _)⟩
end PF
namespace PF
open PySem PySem.Spec PyProof.Rows L2
/-- the module's name x is a def that does what the run F does -/
def FnIs (P : Program) (w : World) (K : PySem.W.Frag) (mg : Str → Option Value) (base : Heap) (k : Nat) (x : Str) (ps : List Str) (F : List W → T W) : Prop :=
  ∃ f fd, FnOk P w K mg base (L2.CX P w) k f fd ps (SpF K F) ∧ mg x = some (.ref f) ∧ PySem.W.keepIn K (.ref f) = true ∧ Binds K fd ps []
section
variable {X : Cx} {E : WX} {e : Expr} {es : List Expr} {fs : En → T (List W)} {pos p : Pos} {F : List W → T W} {k : Nat} {ps : List Str} {x : Str}
theorem tr_callF (h : FnIs X.prog X.w X.K X.mg X.base k x ps F) (hr : Room k X.A) (tk : Takes X E) (hg : Gl X x) (ha : TrA X E (e :: es) fs)
    (hdb : (x == ("__debug__" : Str)) = false := by decide) (he : starEach (e :: es) X.env = (false, eval e X.env) :: starEach es X.env := by rfl) (hpl : (backTo pos (starEach es X.env)).any (·.1) = false := by rfl) :
    TrE X E (.Call (.Name x p) (e :: es) [] pos) (fL fs F) := by
  obtain ⟨f, fd, G, hm, hk, hb⟩ := h
  exact tr_call G hr tk hg hm hk hb ha hdb he hpl
end
/-- the module's name x stands for the data w -/
def CsIs (K : PySem.W.Frag) (mg : Str → Option Value) (x : Str) (w : W) : Prop := ∃ (v : V) (u : Value), mg x = some u ∧ RelV v u ∧ ∀ c H, Rep K c H w v
theorem tr_cs {X : Cx} {E : WX} {x : Str} {w : W} {pos : Pos} (h : CsIs X.K X.mg x w) (hg : Gl X x) (hd : (x == ("__debug__" : Str)) = false := by decide) : TrE X E (.Name x pos) (fun _ => .ok w) := by
  obtain ⟨v, u, hm, r, q⟩ := h
  exact tr_glob hg hm r q hd
theorem isi_int : ∀ s b, isInt s = some b → kitB s "int" = some b := fun s b h => by
  unfold isInt at h
  split at h <;> first | (cases h; decide +kernel) | cases h
theorem isOnly_mem {t s : String} {b : Bool} (h : isOnly t s = some b) : s ∈ ["NoneType", "bool", "int", "str", "tuple", "list", "dict"] ∧ b = (s == t) := by
  unfold isOnly at h
  split at h
  · rename_i hc
    exact ⟨List.contains_iff_mem.mp hc, (Option.some.inj h).symm⟩
  · cases h
theorem isOnly_all {t : String} (h : ∀ s ∈ ["NoneType", "bool", "int", "str", "tuple", "list", "dict"], kitB s t = some (s == t)) : ∀ s b, isOnly t s = some b → kitB s t = some b := fun s b q => by
  obtain ⟨h1, h2⟩ := isOnly_mem q
  rw [h2]
  exact h s h1
theorem isi_bool : ∀ s b, isOnly "bool" s = some b → kitB s "bool" = some b := isOnly_all (by decide +kernel)
theorem isi_str : ∀ s b, isOnly "str" s = some b → kitB s "str" = some b := isOnly_all (by decide +kernel)
theorem isi_tuple : ∀ s b, isOnly "tuple" s = some b → kitB s "tuple" = some b := isOnly_all (by decide +kernel)
theorem isi_list : ∀ s b, isOnly "list" s = some b → kitB s "list" = some b := isOnly_all (by decide +kernel)
theorem isi_dict : ∀ s b, isOnly "dict" s = some b → kitB s "dict" = some b := isOnly_all (by decide +kernel)
theorem boot_ty_int : bootBuiltins "int" = some (.type "int") := by decide +kernel
theorem boot_ty_bool : bootBuiltins "bool" = some (.type "bool") := by decide +kernel
theorem boot_ty_str : bootBuiltins "str" = some (.type "str") := by decide +kernel
theorem boot_ty_tuple : bootBuiltins "tuple" = some (.type "tuple") := by decide +kernel
theorem boot_ty_list : bootBuiltins "list" = some (.type "list") := by decide +kernel
theorem boot_ty_dict : bootBuiltins "dict" = some (.type "dict") := by decide +kernel
theorem bo_int : bootBuiltins "int" = some (.type "int") := boot_ty_int
theorem bo_len : bootBuiltins "len" = some (.builtin "len") := by decide +kernel
theorem bo_abs : bootBuiltins "abs" = some (.builtin "abs") := by decide +kernel
theorem bo_all : bootBuiltins "all" = some (.builtin "all") := by decide +kernel
theorem bo_any : bootBuiltins "any" = some (.builtin "any") := by decide +kernel
theorem bo_min : bootBuiltins "min" = some (.builtin "min") := by decide +kernel
theorem bo_max : bootBuiltins "max" = some (.builtin "max") := by decide +kernel
theorem bo_sum : bootBuiltins "sum" = some (.builtin "sum") := by decide +kernel
theorem bo_tuple : bootBuiltins "tuple" = some (.type "tuple") := boot_ty_tuple
theorem bo_list : bootBuiltins "list" = some (.type "list") := boot_ty_list
abbrev stK (ca la : Addr) (k r : Int) : List (Key × V) := [(.inr kCells, .ref ca), (.inr kLefts, .ref la), (.inr kAt, .int k), (.inr kRoom, .int r)]
section
variable {ca la : Addr} {k r : Int}
theorem ne_ca : ¬ kCells = kAt := by decide +kernel
theorem ne_la : ¬ kLefts = kAt := by decide +kernel
theorem ne_cl : ¬ kCells = kLefts := by decide +kernel
theorem ne_ra : ¬ kRoom = kAt := by decide +kernel
theorem st_at : valV (stK ca la k r) (.inr kAt) = some (.int k) := by
  simp [valV, List.find?_cons, ne_ca, ne_la]
theorem st_cells : valV (stK ca la k r) (.inr kCells) = some (.ref ca) := by
  simp [valV, List.find?_cons]
theorem st_lefts : valV (stK ca la k r) (.inr kLefts) = some (.ref la) := by
  simp [valV, List.find?_cons, ne_cl]
theorem st_put {k' : Int} : putK (stK ca la k r) (.inr kAt) (.int k') = stK ca la k' r := by
  simp [putK, ne_ca, ne_la, ne_ra]
theorem DGet.st {H : Hp} {S : Addr} {x : Key} {v : V} (h : H S = some (.dK (stK ca la k r))) (e : valV (stK ca la k r) x = some v) : DGet H S (kV x) (some v) := by
  rw [← e]
  exact DGet.k h
end
@[irreducible] def manyOk (n : Int) : Bool := decide (0 < n) && decide (n.natAbs.log2 < 9000)
theorem manyOk_of {n : Int} (h : manyOk n = true) : 0 < n ∧ n.natAbs.log2 < 9000 := by
  unfold manyOk at h
  obtain ⟨h1, h2⟩ := Bool.and_eq_true_iff.mp h
  exact ⟨of_decide_eq_true h1, of_decide_eq_true h2⟩
def F__law_draw : List W → T W
  | [.stt, .int n] => if manyOk n then .ask n.toNat fun i => .ok (.int i) else .bad
  | _ => .bad
theorem stt_shape {K : PySem.W.Frag} {c : Cc} {H : Hp} {v : V} (r : Rep K c H .stt v) : v = .ref c.S := by
  cases r
  rfl
theorem dK_noC {xs : List (Key × V)} {p : Addr} (q : Str) : HO.dK xs ≠ LamX.CodeO p q := fun z => by
  unfold LamX.CodeO at z
  cases z
/-- what the state's step leaves: the place is one more, the lefts may have changed -/
theorem StOk.drawn {c : Cc} {e : Nat} {H' : Hp} {cells lefts' : List Int} {k r : Int} (hk : 0 ≤ k) (hb : k + ((e + 1 : Nat) : Int) ≤ 2 ^ 60) (hne : c.ca ≠ c.la) (hz : lefts'.length = cells.length) (h0 : 0 < cells.length)
    (h1 : H' c.S = some (.dK [(.inr kCells, .ref c.ca), (.inr kLefts, .ref c.la), (.inr kAt, .int (k + 1)), (.inr kRoom, .int r)])) (h2 : H' c.ca = some (.lst (cells.map V.int))) (h3 : H' c.la = some (.lst (lefts'.map V.int))) (h4 : LamX.Tabs c.T H') : StOk c e H' :=
  ⟨cells, lefts', k + 1, r, h1, h2, h3, hz, h0, by omega, by omega, hne, h4⟩
/-- ints that stand for a draw -/
theorem draw_all {K : PySem.W.Frag} {c : Cc} {d : Nat} {H : Hp} {Q : VK} {E' : Nat → Nat → List W → Prop} {n : Int} (h : (F__law_draw [.stt, .int n]).AllB (PQ K c H Q) E' d) :
    (0 < n ∧ n.natAbs.log2 < 9000) ∧ ∃ e, d = e + 1 ∧ ∀ (i : Int) (H' : Hp), 0 ≤ i → i < n → Step c H H' → StOk c e H' → Q (.int i) H' := by
  obtain ⟨h1, h⟩ := T.AllB.ite h
  have hn := manyOk_of h1
  obtain ⟨e, he, h⟩ := h
  refine ⟨hn, e, he, fun i H' hi0 hi st so => ?_⟩
  have q := h i.toNat (by omega)
  have ei : ((i.toNat : Nat) : Int) = i := by omega
  have q : PQ K c H Q e (.int ((i.toNat : Nat) : Int)) := q
  rw [ei] at q
  exact q _ H' st so (.int i)
theorem F_draw_bad {ws : List W} (h : ∀ n, ws ≠ [.stt, .int n]) : F__law_draw ws = .bad := by
  unfold F__law_draw
  split
  · exact absurd rfl (h _)
  · rfl
end PF
namespace PF
open PySem PySem.Spec PyProof.Rows L2
section
variable {α β : Type}
@[simp] theorem T.bind_ok (a : α) (f : α → T β) : (T.ok a).bind f = f a := rfl
@[simp] theorem T.bind_bad (f : α → T β) : (T.bad : T α).bind f = .bad := rfl
@[simp] theorem T.bind_exc (c : Nat) (fs : List W) (f : α → T β) : (T.exc c fs : T α).bind f = .exc c fs := rfl
@[simp] theorem T.bind_ask (n : Nat) (k : Nat → T α) (f : α → T β) : (T.ask n k).bind f = .ask n fun i => (k i).bind f := rfl
theorem T.bind_assoc {γ : Type} : ∀ (t : T α) (f : α → T β) (g : β → T γ), (t.bind f).bind g = t.bind fun a => (f a).bind g
  | .ok a, f, g => rfl
  | .exc c fs, f, g => rfl
  | .bad, f, g => rfl
  | .ask n k, f, g => by
    simp only [T.bind_ask]
    congr 1
    funext i
    exact T.bind_assoc (k i) f g
end
@[simp] theorem gV_eq (i : Nat) (ρ : En) : gV i ρ = match ρ[i]? with
  | some (.val w) => .ok w
  | _ => .bad := rfl
section
variable (g g' : W → W → T W) (h : W → T W) (fa fb fc : En → T W) (fs : En → T (List W)) (gl : List W → T W) (ta tb : En → T Bool) (sa sb : En → T (Fl × En)) (ρ : En)
@[simp] theorem f2_eq : f2 g fa fb ρ = (fa ρ).bind fun x => (fb ρ).bind fun y => g x y := rfl
@[simp] theorem f1_eq : f1 h fa ρ = (fa ρ).bind h := rfl
@[simp] theorem fL_eq : fL fs gl ρ = (fs ρ).bind gl := rfl
@[simp] theorem fNil_eq : fNil ρ = .ok [] := rfl
@[simp] theorem fCons_eq : fCons fa fs ρ = (fa ρ).bind fun x => (fs ρ).bind fun xs => .ok (x :: xs) := rfl
@[simp] theorem fTru_eq : fTru fa ρ = (fa ρ).bind truW := rfl
@[simp] theorem fBl_eq : fBl fa ρ = (fa ρ).bind blW := rfl
@[simp] theorem fNot_eq : fNot ta ρ = (ta ρ).bind fun b => .ok !b := rfl
@[simp] theorem fAnd_eq : fAnd ta tb ρ = (ta ρ).bind fun b => if b then tb ρ else .ok false := rfl
@[simp] theorem fOr_eq : fOr ta tb ρ = (ta ρ).bind fun b => if b then .ok true else tb ρ := rfl
@[simp] theorem fAndV_eq : fAndV fa fb ρ = (fa ρ).bind fun x => match x with
  | .bl true => fb ρ
  | .bl false => .ok (.bl false)
  | _ => .bad := rfl
@[simp] theorem fOrV_eq : fOrV fa fb ρ = (fa ρ).bind fun x => match x with
  | .bl false => fb ρ
  | .bl true => .ok (.bl true)
  | _ => .bad := rfl
@[simp] theorem fNotV_eq : fNotV fa ρ = (fa ρ).bind fun x => match x with
  | .bl b => .ok (.bl !b)
  | _ => .bad := rfl
@[simp] theorem fIf_eq : fIf ta fa fb ρ = (ta ρ).bind fun b => if b then fa ρ else fb ρ := rfl
@[simp] theorem fYes_eq : fYes ρ = .ok true := rfl
@[simp] theorem sNil_eq : sNil ρ = .ok (.nx, ρ) := rfl
@[simp] theorem sSeq_eq : sSeq sa sb ρ = (sa ρ).bind fun x => match x with
  | (.nx, ρ') => sb ρ'
  | x => .ok x := rfl
@[simp] theorem sRet_eq : sRet fa ρ = (fa ρ).bind fun w => .ok (.rt w, ρ) := rfl
@[simp] theorem sRetN_eq : sRetN ρ = .ok (.rt .non, ρ) := rfl
@[simp] theorem sExpr_eq : sExpr fa ρ = (fa ρ).bind fun _ => .ok (.nx, ρ) := rfl
@[simp] theorem sSet_eq (i : Nat) : sSet i fa ρ = (fa ρ).bind fun w => .ok (.nx, ρ.set i (.val w)) := rfl
@[simp] theorem sIf_eq : sIf ta sa sb ρ = (ta ρ).bind fun b => if b then sa ρ else sb ρ := rfl
@[simp] theorem sNever_eq : sNever ρ = .bad := rfl
@[simp] theorem sPar_eq (i j : Nat) : sPar i j fs ρ = (fs ρ).bind fun xs => match xs with
  | [x, y] => .ok (.nx, (ρ.set i (.val x)).set j (.val y))
  | _ => .bad := rfl
@[simp] theorem sAsg_eq (G : W → En → Option En) : sAsg fa G ρ = (fa ρ).bind fun w => match G w ρ with
  | some ρ' => .ok (.nx, ρ')
  | none => .bad := rfl
@[simp] theorem goName_eq (i : Nat) (w : W) : goName i w ρ = some (ρ.set i (.val w)) := rfl
@[simp] theorem iL_eq (q : List W → T (List W)) : iL q fs ρ = (fs ρ).bind q := rfl
@[simp] theorem iOf_eq (q : W → T (List W)) : iOf q fa ρ = (fa ρ).bind q := rfl
end
@[simp] theorem addW_int (i j : Int) : addW (.int i) (.int j) = .ok (.int (i + j)) := rfl
@[simp] theorem subW_int (i j : Int) : subW (.int i) (.int j) = .ok (.int (i - j)) := rfl
@[simp] theorem mulW_int (i j : Int) : mulW (.int i) (.int j) = if mulOk i j then .ok (.int (i * j)) else .bad := rfl
@[simp] theorem fdivW_int (i j : Int) : fdivW (.int i) (.int j) = if divOk j then .ok (.int (i / j)) else .bad := rfl
@[simp] theorem modW_int (i j : Int) : modW (.int i) (.int j) = if decide (0 < j) then .ok (.int (i % j)) else .bad := rfl
@[simp] theorem ltW_int (i j : Int) : ltW (.int i) (.int j) = .ok (.bl (decide (i < j))) := rfl
@[simp] theorem leW_int (i j : Int) : leW (.int i) (.int j) = .ok (.bl (decide (i ≤ j))) := rfl
@[simp] theorem gtW_int (i j : Int) : gtW (.int i) (.int j) = .ok (.bl (decide (j < i))) := rfl
@[simp] theorem geW_int (i j : Int) : geW (.int i) (.int j) = .ok (.bl (decide (j ≤ i))) := rfl
@[simp] theorem intW_int (i : Int) : intW [.int i] = .ok (.int i) := rfl
@[simp] theorem intW_bl (b : Bool) : intW [.bl b] = .ok (.int (if b then 1 else 0)) := rfl
@[simp] theorem absW_int (i : Int) : absW [.int i] = .ok (.int (if i < 0 then -i else i)) := rfl
@[simp] theorem blW_bl (b : Bool) : blW (.bl b) = .ok b := rfl
@[simp] theorem truW_bl (b : Bool) : truW (.bl b) = .ok b := rfl
@[simp] theorem lenW_tup (ws : List W) : lenW [.tup ws] = .ok (.int ws.length) := rfl
@[simp] theorem lenW_lst (ws : List W) : lenW [.lst ws] = .ok (.int ws.length) := rfl
@[simp] theorem lenW_scr (n : Nat) : lenW [.scr n] = .ok (.int n) := rfl
theorem mulOk_of {i j : Int} {a b : Nat} (ha : i.natAbs < 2 ^ a) (hb : j.natAbs < 2 ^ b) (h0 : 0 < a) (h1 : 0 < b) (h : a + b ≤ 1000000) : mulOk i j = true := by
  unfold mulOk
  exact decide_eq_true (wide_mul ha hb h0 h1 h)
theorem divOk_of {j : Int} {b : Nat} (h : 0 < j) (hb : j.natAbs < 2 ^ b) (h0 : 0 < b) (h9 : b ≤ 9000) : divOk j = true := by
  unfold divOk
  obtain ⟨h1, h2⟩ := wide_div (i := 0) h hb h0 h9
  rw [decide_eq_true h1, decide_eq_true h2]
  rfl
theorem manyOk_is {n : Int} {b : Nat} (h : 0 < n) (hb : n.natAbs < 2 ^ b) (h0 : 0 < b) (h9 : b ≤ 9000) : manyOk n = true := by
  unfold manyOk
  obtain ⟨h1, h2⟩ := wide_div (i := 0) h hb h0 h9
  rw [decide_eq_true h1, decide_eq_true h2]
  rfl
theorem sizeOk_is {ws : List W} (h : ws.length ≤ 16777216) : sizeOk ws = true := by
  unfold sizeOk
  exact decide_eq_true h
theorem sz2_is {a b : Nat} (h : a + b ≤ 16777216) : sz2 a b = true := by
  unfold sz2
  exact decide_eq_true h
@[simp] theorem mkTup_eq (ws : List W) : mkTup ws = if sizeOk ws then .ok (.tup ws) else .bad := rfl
@[simp] theorem mkLst_eq (ws : List W) : mkLst ws = if sizeOk ws then .ok (.lst ws) else .bad := rfl
@[simp] theorem sizeOk_nil : sizeOk [] = true := sizeOk_is (by simp)
@[simp] theorem sizeOk_1 (a : W) : sizeOk [a] = true := sizeOk_is (by simp)
@[simp] theorem sizeOk_2 (a b : W) : sizeOk [a, b] = true := sizeOk_is (by simp)
@[simp] theorem sizeOk_3 (a b c : W) : sizeOk [a, b, c] = true := sizeOk_is (by simp)
@[simp] theorem sizeOk_4 (a b c d : W) : sizeOk [a, b, c, d] = true := sizeOk_is (by simp)
@[simp] theorem sizeOk_5 (a b c d e : W) : sizeOk [a, b, c, d, e] = true := sizeOk_is (by simp)
end PF
namespace PF
def wInt (i : Nat) (ρ : En) : Nat := match ρ[i]? with
  | some (.val (.int k)) => k.natAbs
  | _ => 0
end PF
namespace PF
open PySem PySem.Spec PyProof.Rows L2 He
abbrev AlF : Type := AlD × Bool
def obsF (n : Nat) (fa : List Fa) (fn : List DefD) (ex : PySem.W.Frag → Bool) (g : Addr → Option Obj) : AlF := (obsD fa fn (frG g (asD g n)), ex (frG g (asD g n)))
structure SaysF (fa : List Fa) (fn : List DefD) (ex : PySem.W.Frag → Bool) (K : PySem.W.Frag) : Prop where
  d : SaysD fa fn K
  more : ex K = true
def hookF (n : Nat) (fa : List Fa) (fn : List DefD) (ex : PySem.W.Frag → Bool) : PySem.W.Hook where
  α := AlF
  obs := fun s => obsF n fa fn ex s.heap.get?
  val := fun _ => (valD fn, true)
  says := fun _ h => ∃ K : PySem.W.Frag, K.In h ∧ SaysF fa fn ex K
  of := fun _ _ e => ⟨_, frG_in, congrArg (fun z : AlF => z.1) e, congrArg (fun z : AlF => z.2) e⟩
  keeps := fun _ _ _ ⟨K, hK, c⟩ k => ⟨K, PySem.W.Frag.In.keeps hK k, c⟩
theorem obsF_eq {n : Nat} {fa : List Fa} {fn : List DefD} {ex : PySem.W.Frag → Bool} {g : Addr → Option Obj} {s : Shared} (h : ∀ a, g a = s.heap.get? a) : obsF n fa fn ex g = (hookF n fa fn ex).obs s := by
  have e : g = s.heap.get? := funext h
  rw [e]
  rfl
/-- a fact by its place -/
theorem SaysF.fact {fa : List Fa} {fn : List DefD} {ex : PySem.W.Frag → Bool} {K : PySem.W.Frag} (c : SaysF fa fn ex K) (i : Nat) {f : Fa} (h : fa[i]? = some f := by rfl) : f.ok K = true := c.d.fact i h
/-- a module's name that stands for a tuple of ints and texts -/
def flatW : Dv → Option W
  | .non => some .non
  | .bl b => some (.bl b)
  | .int i => some (.int i)
  | .str x => some (.str x)
  | _ => none
theorem flatW_rep {K : PySem.W.Frag} {d : Dv} {w : W} (h : flatW d = some w) (c : Cc) (H : Hp) : Rep K c H w (d.v K) := by
  cases d <;> first | (cases h; done) | (cases h; constructor)
theorem flatL_rep {K : PySem.W.Frag} (c : Cc) (H : Hp) : ∀ {ds : List Dv} {ws : List W}, ds.mapM flatW = some ws → RepL K c H ws (ds.map (Dv.v K))
  | [], ws, h => by
    simp at h
    subst h
    exact .nil
  | d :: ds, ws, h => by
    rw [List.mapM_cons] at h
    cases e1 : flatW d with
    | none =>
      rw [e1] at h
      cases h
    | some w =>
      rw [e1] at h
      cases e2 : ds.mapM flatW with
      | none =>
        rw [e2] at h
        cases h
      | some us =>
        rw [e2] at h
        cases h
        exact .cons (flatW_rep e1 c H) (flatL_rep c H e2)
theorem cs_tup {K : PySem.W.Frag} {h : Heap} {mg : Str → Option Value} {x : Str} {ds : List Dv} {ws : List W} (X : K.In h) (G : h.Ns mainGlobals mg) (hg : (Fa.glo x).ok K = true) (ht : tupB K x ds = true) (hw : ds.mapM flatW = some ws) : CsIs K mg x (.tup ws) :=
  ⟨.ref (ga K x), _, glo_ok X G hg, rfl, fun c H => .tup (tupB_ok ht H) (flatL_rep c H hw)⟩
theorem cs_int {K : PySem.W.Frag} {h : Heap} {mg : Str → Option Value} {x : Str} {i : Int} (X : K.In h) (G : h.Ns mainGlobals mg) (hg : (Fa.int x i).ok K = true) : CsIs K mg x (.int i) := by
  obtain ⟨t, e⟩ := int_ok X G hg
  exact ⟨.int i, _, e, ⟨t, rfl⟩, fun c H => .int i⟩
theorem cs_str {K : PySem.W.Frag} {h : Heap} {mg : Str → Option Value} {x z : Str} (X : K.In h) (G : h.Ns mainGlobals mg) (hg : (Fa.str x z).ok K = true) : CsIs K mg x (.str z) := by
  obtain ⟨t, e⟩ := str_ok X G hg
  exact ⟨.str z, _, e, ⟨t, rfl⟩, fun c H => .str z⟩
end PF
namespace PF
open PySem PySem.Spec PyProof.Rows L2
def spBegin (K : PySem.W.Frag) : Sp := fun vs H Q _ => ∃ (a : Addr) (ns : List Int), vs = [.ref a] ∧ SqL K H a (ns.map V.int) ∧ ns.length ≤ 63 ∧ ∀ (S ca la : Addr) (H' : Hp) (cells lefts : List Int), Same H H' → H S = none → H ca = none → H la = none →
  H' S = some (.dK (stK ca la 0 0)) → H' ca = some (.lst (cells.map V.int)) → H' la = some (.lst (lefts.map V.int)) → lefts.length = cells.length → 0 < cells.length → ca ≠ la → Q (.ref S) H'
def spLaw (K : PySem.W.Frag) : Sp := fun vs H Q _ => ∃ (a : Addr) (ns : List Int), vs = [.ref a] ∧ SqL K H a (ns.map V.int) ∧ ns.length ≤ 63 ∧ LamX.Tabs (tabL K) H ∧ ∀ H', Q (.bl true) H'
section
variable {K : PySem.W.Frag}
theorem dp_ints {H : Hp} : ∀ ns : List Int, DpAll K H (ns.map V.int) (ns.map PyData.int)
  | [] => .nil
  | n :: ns => .cons (.int n) (dp_ints ns)
theorem lay_ints : ∀ ns : List Int, PyData.canLayAll0 (ns.map PyData.int) = true
  | [] => rfl
  | n :: ns => lay_ints ns
theorem dep_ints : ∀ ns : List Int, PyData.depthAll (ns.map PyData.int) ≤ 1
  | [] => by decide
  | n :: ns => by
    have h := dep_ints ns
    simp only [List.map_cons, PyData.depthAll, PyData.depth]
    omega
theorem shaped_ints (ns : List Int) : SeqAt.shaped (.list (ns.map PyData.int)) = true := by
  have h := dep_ints ns
  unfold SeqAt.shaped
  rw [Bool.and_eq_true]
  exact ⟨lay_ints ns, decide_eq_true (by simp only [PyData.depth]; omega)⟩
/-- the state is laid -/
theorem begin_ret {H H1 : Hp} {Q : VK} {nx : L2.St → Hp → Prop} {v0 : V} {l : Addr} {cells : List Int} (sm : Same H H1) (nl : H l = none) (hl : H1 l = some (.lst (cells.map V.int))) (h0 : 0 < cells.length) (hz : cells.length ≤ 1000)
    (q : ∀ (S ca la : Addr) (H' : Hp) (cells lefts : List Int), Same H H' → H S = none → H ca = none → H la = none → H' S = some (.dK (stK ca la 0 0)) → H' ca = some (.lst (cells.map V.int)) → H' la = some (.lst (lefts.map V.int)) → lefts.length = cells.length → 0 < cells.length → ca ≠ la → Q (.ref S) H') :
    tRet (tDisp [(tC (.str kCells), tVar 1), (tC (.str kLefts), tLc (iList K (tVar 1)) (gName 2) tYes (tIf (tTest (tOp (rI0 fun i j => .bl (decide (j ≤ i))) (tVar 2) (tOp (rI CPow fun i j => .int (i ^ j.toNat)) (tC (.int 10)) (tC (.int 18))))) (tVar 2) (tC (.int 0))) [2]), (tC (.str kAt), tC (.int 0)), (tC (.str kRoom), tC (.int 0))])
      { nx := nx, rt := Q } [some v0, some (.ref l), none] H1 := by
  intro p np
  have nlp : l ≠ p := ne_of_none hl np
  have hl1 : (upd H1 p (.dK [])) l = some (.lst (cells.map V.int)) := by rw [upd_ne nlp]; exact hl
  refine ⟨.ref l, rfl, .ref l, rfl, l, rfl, ⟨_, SqL.of hl1⟩, fun D nD => ?_⟩
  have npD : D ≠ p := fun z => by rw [z, upd_same] at nD; cases nD
  have nlD : l ≠ D := fun z => by rw [← z, hl1] at nD; cases nD
  have nD1 : H1 D = none := by rw [upd_ne npD] at nD; exact nD
  let lf : Int → Int := fun c => if (10 : Int) ^ (18 : Int).toNat ≤ c then c else 0
  refine lc_list (K := K) (a := l) (xs := cells.map V.int) (fun i H2 => (∀ b, b ≠ D → H2 b = (upd H1 p (.dK [])) b) ∧ H2 D = some (.lst (((cells.take i).map lf).map V.int))) ⟨fun b hb => upd_ne hb, upd_same⟩ (fun i H2 hi h => ?_) (fun i x H2 hx h => ?_) (fun H2 h => ?_)
  · exact SqL.of (by rw [h.1 l nlD]; exact hl1)
  · obtain ⟨o, hD⟩ := h
    rw [List.getElem?_map] at hx
    cases ec : cells[i]? with
    | none =>
      rw [ec] at hx
      cases hx
    | some c =>
      rw [ec] at hx
      cases hx
      have hi : i < cells.length := (List.getElem?_eq_some_iff.mp ec).1
      have et : cells.take (i + 1) = cells.take i ++ [c] := by rw [List.take_add_one, ec]; rfl
      refine ⟨rfl, iteT (B := True) ⟨.int c, rfl, 10, 18, rfl, rfl, ⟨by decide, by decide, by decide⟩, c, _, rfl, rfl, _, rfl, ?_⟩⟩
      have fin : ∀ y : Int, y = lf c → ∃ acc, H2 D = some (.lst acc) ∧ acc.length < sizeLine ∧ ((∀ b, b ≠ D → (upd H2 D (.lst (acc ++ [V.int y]))) b = (upd H1 p (.dK [])) b) ∧ (upd H2 D (.lst (acc ++ [V.int y]))) D = some (.lst (((cells.take (i + 1)).map lf).map V.int))) := fun y ey => by
        refine ⟨_, hD, ?_, fun b hb => by rw [upd_ne hb]; exact o b hb, ?_⟩
        · rw [List.length_map, List.length_map, List.length_take]
          exact Nat.lt_of_le_of_lt (Nat.min_le_right _ _) (small1000 hz)
        · rw [upd_same, et, List.map_append, List.map_append, ey]
          rfl
      by_cases hc : (10 : Int) ^ (18 : Int).toNat ≤ c
      · have e : decide ((10 : Int) ^ (18 : Int).toNat ≤ c) = true := decide_eq_true hc
        show if decide ((10 : Int) ^ (18 : Int).toNat ≤ c) = true then _ else _
        rw [e]
        refine iteT ⟨.int c, rfl, fin c ?_⟩
        show c = if (10 : Int) ^ (18 : Int).toNat ≤ c then c else 0
        rw [if_pos hc]
      · have e : decide ((10 : Int) ^ (18 : Int).toNat ≤ c) = false := decide_eq_false hc
        show if decide ((10 : Int) ^ (18 : Int).toNat ≤ c) = true then _ else _
        rw [e]
        refine iteF (fin 0 ?_)
        show (0 : Int) = if (10 : Int) ^ (18 : Int).toNat ≤ c then c else 0
        rw [if_neg hc]
  · obtain ⟨o, hD⟩ := h
    have hp : H2 p = some (.dK []) := by rw [o p (Ne.symm npD), upd_same]
    refine ⟨hp, [(.inr kCells, .ref l), (.inr kLefts, .ref D), (.inr kAt, .int 0), (.inr kRoom, .int 0)], rfl, by show 4 ≤ 15; decide, ?_⟩
    have em : mergeK [] [(Sum.inr kCells, V.ref l), (.inr kLefts, .ref D), (.inr kAt, .int 0), (.inr kRoom, .int 0)] = stK l D 0 0 := by
      simp [mergeK, putK, ne_ca, ne_la, ne_cl, show ¬ kCells = kRoom by decide +kernel, show ¬ kLefts = kRoom by decide +kernel, show ¬ kAt = kRoom by decide +kernel]
    rw [em]
    refine q p l D _ cells (cells.map lf) (fun b u hb => ?_) ?_ nl ?_ upd_same ?_ ?_ (List.length_map ..) h0 nlD
    · have h1 := sm b u hb
      have nb : b ≠ p := ne_of_none h1 np
      have nbD : b ≠ D := ne_of_none h1 nD1
      rw [upd_ne nb, o b nbD, upd_ne nb]
      exact h1
    · exact sm.free np
    · exact sm.free nD1
    · rw [upd_ne nlp, o l nlD]
      exact hl1
    · rw [upd_ne npD, hD, List.length_map, List.take_length]
theorem begin_read {H : Hp} {Q : VK} {nx : L2.St → Hp → Prop} {a : Addr} {ns : List Int} (hS : SqL K H a (ns.map V.int)) (hz : ns.length ≤ 63)
    (q : ∀ (S ca la : Addr) (H' : Hp) (cells lefts : List Int), Same H H' → H S = none → H ca = none → H la = none → H' S = some (.dK (stK ca la 0 0)) → H' ca = some (.lst (cells.map V.int)) → H' la = some (.lst (lefts.map V.int)) → lefts.length = cells.length → 0 < cells.length → ca ≠ la → Q (.ref S) H') :
    tSeq (tAsg (tIf (tTest (tOp (rNeD K) (tVar 0) (tLst tNil))) (tCB (fun xs H Q => ∃ p ys, xs = [.ref p] ∧ (SqL K H p ys ∨ SqT K H p ys) ∧ ∀ l, H l = none → Q (.ref l) (upd H l (.lst ys))) (tCons (tVar 0) tNil)) (tLst (tCons (tC (.int 0)) tNil))) (gName 1))
      (tRet (tDisp [(tC (.str kCells), tVar 1), (tC (.str kLefts), tLc (iList K (tVar 1)) (gName 2) tYes (tIf (tTest (tOp (rI0 fun i j => .bl (decide (j ≤ i))) (tVar 2) (tOp (rI CPow fun i j => .int (i ^ j.toNat)) (tC (.int 10)) (tC (.int 18))))) (tVar 2) (tC (.int 0))) [2]), (tC (.str kAt), tC (.int 0)), (tC (.str kRoom), tC (.int 0))]))
      { nx := nx, rt := Q } [some (.ref a), none, none] H := by
  refine ⟨.ref a, rfl, by decide, fun p np => ?_⟩
  have sm : Same H (upd H p (.lst [])) := fun b u e => by rw [upd_ne (ne_of_none e np)]; exact e
  have hS1 : SqL K (upd H p (.lst [])) a (ns.map V.int) := sm.seq hS
  refine ⟨.list (ns.map .int), .list [], .lst hS1 (dp_ints ns), .lst (SqL.of upd_same) .nil, shaped_ints ns, rfl, _, rfl, ?_⟩
  cases ns with
  | nil =>
    refine iteF ⟨by decide, fun l nl => ?_⟩
    exact begin_ret (cells := [0]) (fun b u e => by rw [upd_ne (ne_of_none (sm b u e) nl)]; exact sm b u e) (sm.free nl) upd_same (by decide) (by decide) q
  | cons n ns =>
    refine iteT ⟨.ref a, rfl, a, _, rfl, .inl hS1, fun l nl => ?_⟩
    exact begin_ret (cells := n :: ns) (fun b u e => by rw [upd_ne (ne_of_none (sm b u e) nl)]; exact sm b u e) (sm.free nl) upd_same (by simp) (Nat.le_trans hz (by decide)) q
end
/-- the law's frame when the state stands -/
def lawE (n m : Nat) : En := .val (.scr n) :: .val .stt :: List.replicate m .un
theorem law_env {K : PySem.W.Frag} {H H' : Hp} {a S ca la : Addr} {ns cells lefts : List Int} {m : Nat} (hS : SqL K H a (ns.map V.int)) (sm : Same H H') (nS : H S = none) (nca : H ca = none) (nla : H la = none)
    (h1 : H' S = some (.dK (stK ca la 0 0))) (h2 : H' ca = some (.lst (cells.map V.int))) (h3 : H' la = some (.lst (lefts.map V.int))) (hl : lefts.length = cells.length) (h0 : 0 < cells.length) (hne : ca ≠ la) (hT : LamX.Tabs (tabL K) H) :
    EnvOk K ⟨S, ca, la, [S, ca, la], [], tabL K⟩ (2 ^ 60) (fun _ => 0) (lawE ns.length m) (some (.ref a) :: some (.ref S) :: List.replicate m none) H' where
  ok := ⟨by simp, by simp, by simp⟩
  st := ⟨cells, lefts, 0, 0, h1, h2, h3, hl, h0, by decide, by decide, hne, hT.ext fun b o e => sm b o e⟩
  av := fun b hb => by
    simp only [List.mem_cons, List.not_mem_nil, or_false] at hb
    rcases hb with rfl | rfl | rfl
    · exact ⟨_, h1⟩
    · exact ⟨_, h2⟩
    · exact ⟨_, h3⟩
  len := by simp [lawE]
  val := fun i w h => by
    unfold lawE at h
    match i, h with
    | 0, h =>
      simp at h
      subst h
      refine ⟨.ref a, rfl, .scr ?_⟩
      rcases sqL_split hS with r | r
      · have na : ∀ b, H b = none → a ≠ b := fun b hb => by
          rcases r with r | ⟨o, r⟩
          · exact ne_of_none r hb
          · exact ne_of_none r hb
        refine .inl ⟨?_, ?_⟩
        · simp only [List.mem_cons, List.not_mem_nil, or_false, not_or]
          exact ⟨na S nS, na ca nca, na la nla⟩
        · rcases r with r | ⟨o, r⟩
          · exact .inl (sm _ _ r)
          · exact .inr ⟨o, sm _ _ r⟩
      · exact .inr r
    | 1, h =>
      simp at h
      subst h
      exact ⟨.ref S, rfl, .stt⟩
    | i + 2, h =>
      simp only [List.getElem?_cons_succ, List.getElem?_replicate] at h
      split at h <;> cases h
  m := ⟨fun b hb => (by cases hb), fun b hb => (by cases hb), fun b hb => (by cases hb)⟩
  own := fun i ws h => by
    unfold lawE at h
    match i, h with
    | 0, h => simp at h
    | 1, h => simp at h
    | i + 2, h =>
      simp only [List.getElem?_cons_succ, List.getElem?_replicate] at h
      split at h <;> cases h
  inj := fun i j ws us h _ => by
    unfold lawE at h
    match i, h with
    | 0, h => simp at h
    | 1, h => simp at h
    | i + 2, h =>
      simp only [List.getElem?_cons_succ, List.getElem?_replicate] at h
      split at h <;> cases h
  odc := fun i ws h => by
    unfold lawE at h
    match i, h with
    | 0, h => simp at h
    | 1, h => simp at h
    | i + 2, h =>
      simp only [List.getElem?_cons_succ, List.getElem?_replicate] at h
      split at h <;> cases h
  ido := fun i j ws us h _ => by
    unfold lawE at h
    match i, h with
    | 0, h => simp at h
    | 1, h => simp at h
    | i + 2, h =>
      simp only [List.getElem?_cons_succ, List.getElem?_replicate] at h
      split at h <;> cases h
  tT := rfl
/-- a law's run ends and gives True -/
def LawEnds (g : En → T (Fl × En)) (m : Nat) : Prop := ∀ n, n ≤ 63 → (g (lawE n m)).AllB (fun _ x => ∃ ρ, x = (.rt (.bl true), ρ)) (fun _ _ _ => False) (2 ^ 60)
theorem law_rest {K : PySem.W.Frag} {E : XK} {H H' : Hp} {a S ca la : Addr} {ns cells lefts : List Int} {m : Nat} {g : En → T (Fl × En)} {Q : VK} {nx : L2.St → Hp → Prop} (en : LawEnds g m) (hn : ns.length ≤ 63) (q : ∀ H', Q (.bl true) H') (hS : SqL K H a (ns.map V.int)) (sm : Same H H') (nS : H S = none) (nca : H ca = none) (nla : H la = none)
    (h1 : H' S = some (.dK (stK ca la 0 0))) (h2 : H' ca = some (.lst (cells.map V.int))) (h3 : H' la = some (.lst (lefts.map V.int))) (hl : lefts.length = cells.length) (h0 : 0 < cells.length) (hne : ca ≠ la) (hT : LamX.Tabs (tabL K) H) :
    liftS K E g { nx := nx, rt := Q } (some (.ref a) :: some (.ref S) :: List.replicate m none) H' := by
  refine ⟨_, _, _, _, law_env hS sm nS nca nla h1 h2 h3 hl h0 hne hT, T.AllB.imp (fun d x hx => ?_) (fun _ _ _ z => z.elim) (en ns.length hn)⟩
  obtain ⟨ρ, rfl⟩ := hx
  intro c' oa' σ' H2 fw e' v r
  cases r
  exact q H2
/-- the law's end, what may be raised told by the world -/
theorem walk_w {l : PySem.W.OpenLaw} {n k : Nat} {q : Program} {loose : List Str} {XP : (Str → Option Value) → Heap → Prop} {YP : World → Heap → Prop} {d : DefRec} {CX : World → CXT} {x : Str}
    (hn : l.most = some n) (hz : n ≤ sizeLine) (hdf : d.params.defaults = []) (hr : Room k callerA)
    (F : ∀ (w : World) (mg : Str → Option Value) (fa : Addr) (h : Heap), YP w h → h.Ns mainGlobals mg → mg d.name = some (.ref fa) →
      ∃ (K : PySem.W.Frag) (fd : FuncData) (sp : Sp), K.In h ∧ (∀ (s : Shared) (u : Value), BindsTo s fd ⟨[u], []⟩ [(x, u)]) ∧
        (∀ (H : Hp) (a : Addr) (ns : List Int), ns.length ≤ n → Only H → SqL K H a (ns.map V.int) → sp [.ref a] H (fun v _ => v = .bl true) fun _ _ _ => False) ∧
        ∀ base : Heap, K.In base → base.Ns mainGlobals mg → FnOk l.prog w K mg base (CX w) k fa fd [x] sp)
    (hCX : ∀ (w : World) (H : Hp) (s : Shared) (e : Value) (s' : Shared), CX w [] H s (fun _ _ _ => False) e s' → False) :
    PySem.W.WalkO q loose XP YP l.row.toRowW d [] (fun f vs => PySem.call f vs) := by
  refine Att.attach_call hn hdf fun w' t₀ t₁ mg' mb' fa' o' pm' cd' dc a' vs' ns' G' Y' h1 h2 h3 h4 h5 h6 h7 h8 => ?_
  obtain ⟨K', fd', sp', kx, hb', hs', hF'⟩ := F w' mg' fa' _ Y' G'.T.g h4
  exact law_call kx G'.T.g G'.T.b G'.T.builtins G'.T.nolimit h8 h5 h6 (Nat.le_trans h7 hz) hr hF' hb' (fun H hO hS => hs' H a' ns' h7 hO hS) fun H e s' => hCX w' H t₁ e s'
theorem cx_none {P : Program} {w : World} {l : List PySem.Env} {H : Hp} {s : Shared} {e : Value} {s' : Shared} (h : L2.CX P w l H s (fun _ _ _ => False) e s') : False := by
  obtain ⟨_, _, _, _, _, _, _, _, _, _, _, _, z⟩ := h
  exact z
end PF
namespace PF
open PySem PySem.Spec PyProof.Rows L2
set_option maxHeartbeats 1000000 in
theorem meets_enum1 {v : Value} {o : Obj} {H : Heap → Prop} (B : Begins v o H) :
    Meets (Builtin.«enumerate.__new__» ⟨[.type "enumerate", v], []⟩) (fun _ R s => H s.heap ∧
      R (.ok (.ret (.ref (s.heap.push o).objs.size))) { s with heap := (s.heap.push o).push { cls := .type "enumerate", data := .fields #[.none, .bool false, .ref s.heap.objs.size, rawInt 0, .none, .none] } }) := .of_wp fun prog w A R s h => by
  obtain ⟨hp, g, d, tk, os⟩ := s
  obtain ⟨h1, h⟩ := h
  have hsub := sub_enumerate
  have q1 : ∀ {A' : Around} {E : Value → Shared → Prop} {Q : Value → Shared → Prop}, Q (.ref hp.objs.size) ⟨hp.push o, g, d, tk, os⟩ → wpAny (model prog w) A' (pyIter v) Q E ⟨hp, g, d, tk, os⟩ := fun q => B.iter prog w _ _ ⟨hp, g, d, tk, os⟩ _ h1 q
  wp_walk using q1
  refine wpAny_stack_any fun st => wpAny_pure ?_
  split
  · rename_i c _ _ _ _ _
    cases (c == Value.type "enumerate")
    · wp_walk using q1
      exact ⟨_, rfl, h⟩
    · wp_walk using q1
      exact ⟨_, rfl, h⟩
  · wp_walk using q1
    exact ⟨_, rfl, h⟩
theorem enum_begins1 {prog : Program} {w : World} {A : Around} {E : Value → Shared → Prop} {s : Shared} {v : Value} {o : Obj} {H : Heap → Prop} {Q : Value → Shared → Prop} (B : Begins v o H) (h1 : H s.heap)
    (h : ∀ h', IsEnum h' (s.heap.objs.size + 1) s.heap.objs.size 0 .none → h'.get? s.heap.objs.size = some o → h'.objs.size = s.heap.objs.size + 2 → (∀ b o, s.heap.get? b = some o → h'.get? b = some o) → Q (.ref (s.heap.objs.size + 1)) { s with heap := h' }) :
    wpAny (model prog w) A (call (.type "enumerate") [v]) Q E s := by
  refine callType_new F.called_enumerate (by decide) (F.typeCall_enumerate_1 _) (F.newCall_enumerate_1 _) (fun obj => F.args_object_init_2 obj _) F.entry_enumerate_new (meets_enum1 B) ⟨h1, ?_⟩
  have hz : (s.heap.push o).objs.size = s.heap.objs.size + 1 := Heap.size_push ..
  show _ ∧ _
  rw [hz]
  have he : IsEnum ((s.heap.push o).push { cls := .type "enumerate", data := .fields #[.none, .bool false, .ref s.heap.objs.size, rawInt 0, .none, .none] }) (s.heap.objs.size + 1) s.heap.objs.size 0 .none := by
    have := Heap.get?_push_size (s.heap.push o) (o := { cls := .type "enumerate", data := .fields #[.none, .bool false, .ref s.heap.objs.size, rawInt 0, .none, .none] }) rfl
    rw [hz] at this
    exact this
  exact ⟨⟨_, he, rfl⟩, h _ he (Heap.get?_push_of_some _ (Heap.get?_push_size _ B.free)) (by rw [Heap.size_push, hz]) fun b o x => Heap.get?_push_of_some _ (Heap.get?_push_of_some _ x)⟩
/-- the tuple at a (n items), each item in a new pair with its count from k -/
def ItNT (K : PySem.W.Frag) (a : Addr) (k : Int) (n : Nat) : It :=
  ⟨fun i H => i < n ∧ ∃ (xs : List V) (x : V), SqT K H a xs ∧ xs.length = n ∧ xs[i]? = some x,
    fun i H v H' => ∃ T x, v = .ref T ∧ H T = none ∧ H' = upd H T (.tup [.int (k + (i : Nat)), x]) ∧ ∀ xs, SqT K H a xs → xs[i]? = some x,
    fun i H => n ≤ i ∧ ∃ xs : List V, SqT K H a xs ∧ xs.length = n⟩
theorem turn_nT {P : Program} {w : World} {K : PySem.W.Frag} {elts : List Expr} {kk : Nat} {tpos : Pos} (a e it : Addr) (k : Int) (n : Nat) :
    Turn P w K (.Tuple elts kk tpos) (ItNT K a k n) [e, it] e (fun i h => (∃ old, IsEnum h e it (k + (i : Nat)) old) ∧ h.IsTupleIter it a i ∧ e ≠ it ∧ a ≠ it ∧ a ≠ e ∧ i ≤ n) where
  mem := by simp
  obj := fun i h st b hb => by
    obtain ⟨⟨old, he⟩, ⟨o, ho, hc, hd⟩, _⟩ := st
    have e' : b = e ∨ b = it := by simpa using hb
    rcases e' with z | z
    · rw [z]
      exact ⟨_, he, fun v q => nomatch q⟩
    · rw [z]
      exact ⟨o, ho, fun v q => by rw [hd] at q; cases q⟩
  keep := fun i h h' st k => let ⟨⟨old, he⟩, hi, hne⟩ := st; ⟨⟨old, k e (by simp) _ he⟩, hi.at fun o q => k it (by simp) o q, hne⟩
  item := by
    intro X hP hw hK hc i pins s σ H E I hf st hg
    subst hP hw hK
    obtain ⟨⟨old, he⟩, hit, hne, nai, nae, _⟩ := st
    obtain ⟨hin, xs, x, hq, hxn, hx⟩ := hg
    obtain ⟨its, rv, p, hz⟩ := I.tuple hq
    obtain ⟨u, hu, ru⟩ := rv.get hx
    have hil0 : i < its.length := (List.getElem?_eq_some_iff.mp hu).1
    have hel : e < s.heap.objs.size := Heap.lt_size he
    have hil : it < s.heap.objs.size := by obtain ⟨_, q, _⟩ := hit; exact Heap.lt_size q
    have D := Draws.tuple (prog := X.prog) (w := X.w) (A := X.A.in1) (I.ok.hd hc) it a nai its.toArray
    refine wpAny_pyNext_enum_itemC D he ⟨hit, p⟩ (by simpa using hil0) hne (by simp [hne, Ne.symm nae]) fun x' h' tk hP ho hst hT hsz hk => ?_
    have hxu : x' = u := by
      have : its[i]? = some x' := by simpa using hP
      rw [hu] at this
      exact (Option.some.inj this).symm
    subst hxu
    obtain ⟨hit', _⟩ := hst
    refine ⟨_, rfl, wpAny_letOwnedTupleGo_enum (s := { s with heap := h', toks := tk + 1 }) ho fun h'' he' sb => ?_⟩
    have hT2 : h''.get? s.heap.objs.size = some { cls := .type "tuple", data := .seq #[.int (k + (i : Nat)) tk, x'] } := (sb.2 _ (Nat.ne_of_gt hel)).trans hT
    have new : ObjOk X.prog X.w (upd H s.heap.objs.size (.tup [.int (k + (i : Nat)), x])) h'' s.heap.objs.size (.tup [.int (k + (i : Nat)), x]) := ⟨by show 2 ≤ sizeLine; decide, [.int (k + (i : Nat)) tk, x'], .cons ⟨_, rfl⟩ (.cons ru .nil), ⟨_, hT2, rfl, _, rfl⟩⟩
    have I1 : Inv X pins σ (upd H s.heap.objs.size (.tup [.int (k + (i : Nat)), x])) { s with heap := h'', toks := tk + 1 } := I.turnedNew (ch := [e, it]) (fun b ob hb q => (sb.2 b (fun z => hb (by simp [z]))).trans (hk b ob (fun z => hb (by simp [z])) (fun z => hb (by simp [z])) q)) hf (Nat.le_refl _) new
    refine ⟨.ref s.heap.objs.size, _, I1, rfl, ⟨_, x, rfl, I.hok.fresh (Nat.le_refl _), rfl, fun ys hy => by rw [I.tuple_inj hy hq]; exact hx⟩, ⟨⟨x', ?_⟩, hit'.at fun o q => (sb.2 it (Ne.symm hne)).trans q, hne, nai, nae, hin⟩, fun b hb => ?_⟩
    · have e1 : k + ((i + 1 : Nat) : Int) = k + (i : Int) + 1 := by omega
      rw [e1]
      exact he'
    · have hb' : b < s.heap.objs.size := by
        have e' : b = e ∨ b = it := by simpa using hb
        rcases e' with z | z
        · rw [z]; exact hel
        · rw [z]; exact hil
      rw [upd_ne (Nat.ne_of_lt hb')]
      exact (hf b hb).1
  done := by
    intro X hP hw hK hc i pins s σ H E I hf st hg
    subst hP hw hK
    obtain ⟨⟨old, he⟩, hit, hne, nai, nae, hin⟩ := st
    obtain ⟨hni, xs, hq, hx⟩ := hg
    obtain ⟨its, rv, p, hz⟩ := I.tuple hq
    obtain ⟨f0, f1, f2, f3, f4, f5⟩ := hf it (by simp)
    have hl := rv.length
    have D := Draws.tuple (prog := X.prog) (w := X.w) (A := X.A.in1) (I.ok.hd hc) it a nai its.toArray
    have en : its.toArray.size = i := by simp; omega
    exact wpAny_pyNext_enum_endD D he (by rw [en]; exact ⟨hit, p⟩) fun h' eb => ⟨rfl, I.turned (t' := s.toks) (fun b o hb q => eb b o hb q) f0 f1 f3 f4 f5⟩
  self := fun A i s Q E st h => let ⟨⟨_, he⟩, _⟩ := st; wpAny_pyIter_enum he h
def iEnT (K : PySem.W.Frag) (ta : TA) : TI := fun σ H R => ta σ H fun vs H1 => ∃ a xs k, (vs = [.ref a] ∧ k = 0 ∨ vs = [.ref a, .int k] ∧ -(2 ^ 63) ≤ k ∧ k < 2 ^ 63) ∧ SqT K H1 a xs ∧ R (ItNT K a k xs.length) H1
theorem en_fin_T {X : Cx} {tpos : Pos} {elts : List Expr} {kk : Nat} {pins : List (Addr × Obj)} {σ : St} {H1 : Hp} {s1 : Shared} {R : It → Hp → Prop} {a : Addr} {xs : List V} {k : Int} {h' : Heap} (I1 : Inv X pins σ H1 s1) (al : a < s1.heap.objs.size) (he : IsEnum h' (s1.heap.objs.size + 1) s1.heap.objs.size k .none)
    (hit : h'.get? s1.heap.objs.size = some { cls := .type "tuple_iterator", data := .fields #[.ref a, .int 0 0] }) (hk : ∀ b o, s1.heap.get? b = some o → h'.get? b = some o) (q : R (ItNT X.K a k xs.length) H1) :
    wpAny (model X.prog X.w) X.A (pyIter (.ref (s1.heap.objs.size + 1))) (PIE X pins σ (.Tuple elts kk tpos) R) X.xe { s1 with heap := h' } := by
  refine wpAny_pyIter_enum he ?_
  have I2 : Inv X pins σ H1 { s1 with heap := h' } := I1.kept (t' := s1.toks) hk
  refine ⟨s1.heap.objs.size + 1, [s1.heap.objs.size + 1, s1.heap.objs.size], _, _, H1, rfl, I2, turn_nT a (s1.heap.objs.size + 1) s1.heap.objs.size k xs.length, ⟨⟨.none, ?_⟩, ⟨_, hit, rfl, rfl⟩, Nat.succ_ne_self _, Nat.ne_of_lt al, Nat.ne_of_lt (Nat.lt_succ_of_lt al), Nat.zero_le _⟩, fun b hb => ?_, q⟩
  · have e0 : k + ((0 : Nat) : Int) = k := by simp
    rw [e0]
    exact he
  have e' : b = s1.heap.objs.size + 1 ∨ b = s1.heap.objs.size := by simpa using hb
  have hle : s1.heap.objs.size ≤ b := by
    rcases e' with z | z
    · rw [z]; exact Nat.le_add_right _ _
    · rw [z]; exact Nat.le_refl _
  exact I1.fpOk hle (I1.hok.fresh hle)
theorem pi_enT {X : Cx} {e : Expr} {ta : TA} {p pos tpos : Pos} {elts : List Expr} {kk : Nat} (hg : Gl X "enumerate") (hm : X.mg "enumerate" = none) (ha : PA X [e] ta) (hs : starEach [e] X.env = [(false, eval e X.env)] := by rfl) :
    PI X (.Tuple elts kk tpos) (.Call (.Name "enumerate" p) [e] [] pos) (iEnT X.K ta) := by
  refine ⟨fun pins s σ H R I h => ?_⟩
  refine Call_ (ld_blt I hg hm boot_enumerate (PyProof.Rows.callWith_type1 (thn (ha.run pos pins s σ H _ I h) fun us s1 ⟨vs, H1, I1, r1, q1⟩ => ?_) hs rfl))
  obtain ⟨a, xs, k, ex, hq, q⟩ := q1
  rcases ex with ⟨ex, rfl⟩ | ⟨ex, _, _⟩
  · subst ex
    cases r1 with
    | cons r rr =>
      cases rr
      cases r
      obtain ⟨its, rv, p', hz⟩ := I1.tuple hq
      have al : a < s1.heap.objs.size := by
        obtain ⟨o1, ho1, _⟩ := id p'
        exact Heap.lt_size ho1
      exact enum_begins1 (begins_tuple a its.toArray) p' fun h' he hit hsz hk => en_fin_T I1 al he hit hk q
  · subst ex
    cases r1 with
    | cons r rr =>
      cases rr with
      | cons r' rr =>
        cases rr
        cases r
        obtain ⟨tk, rfl⟩ := r'
        obtain ⟨its, rv, p', hz⟩ := I1.tuple hq
        have al : a < s1.heap.objs.size := by
          obtain ⟨o1, ho1, _⟩ := id p'
          exact Heap.lt_size ho1
        exact enum_begins (begins_tuple a its.toArray) p' (by assumption) (by assumption) fun h' he hit hsz hk => en_fin_T I1 al he hit hk q
theorem pi_enT2 {X : Cx} {e e2 : Expr} {ta : TA} {p pos tpos : Pos} {elts : List Expr} {kk : Nat} (hg : Gl X "enumerate") (hm : X.mg "enumerate" = none) (ha : PA X [e, e2] ta)
    (hs : starEach [e, e2] X.env = (false, eval e X.env) :: starEach [e2] X.env := by rfl) (hpl : (backTo pos (starEach [e2] X.env)).any (·.1) = false := by rfl) :
    PI X (.Tuple elts kk tpos) (.Call (.Name "enumerate" p) [e, e2] [] pos) (iEnT X.K ta) := by
  refine ⟨fun pins s σ H R I h => ?_⟩
  refine Call_ (ld_blt I hg hm boot_enumerate (PyProof.Rows.callWith_type1 (thn (ha.run pos pins s σ H _ I h) fun us s1 ⟨vs, H1, I1, r1, q1⟩ => ?_) hs hpl))
  obtain ⟨a, xs, k, ex, hq, q⟩ := q1
  rcases ex with ⟨ex, rfl⟩ | ⟨ex, _, _⟩
  · subst ex
    cases r1 with
    | cons r rr =>
      cases rr
      cases r
      obtain ⟨its, rv, p', hz⟩ := I1.tuple hq
      have al : a < s1.heap.objs.size := by
        obtain ⟨o1, ho1, _⟩ := id p'
        exact Heap.lt_size ho1
      exact enum_begins1 (begins_tuple a its.toArray) p' fun h' he hit hsz hk => en_fin_T I1 al he hit hk q
  · subst ex
    cases r1 with
    | cons r rr =>
      cases rr with
      | cons r' rr =>
        cases rr
        cases r
        obtain ⟨tk, rfl⟩ := r'
        obtain ⟨its, rv, p', hz⟩ := I1.tuple hq
        have al : a < s1.heap.objs.size := by
          obtain ⟨o1, ho1, _⟩ := id p'
          exact Heap.lt_size ho1
        exact enum_begins (begins_tuple a its.toArray) p' (by assumption) (by assumption) fun h' he hit hsz hk => en_fin_T I1 al he hit hk q
/-- the list at a (n items), each item in a new pair with its count from k -/
def ItNL (K : PySem.W.Frag) (a : Addr) (k : Int) (n : Nat) : It :=
  ⟨fun i H => i < n ∧ ∃ (xs : List V) (x : V), SqL K H a xs ∧ xs.length = n ∧ xs[i]? = some x,
    fun i H v H' => ∃ T x, v = .ref T ∧ H T = none ∧ H' = upd H T (.tup [.int (k + (i : Nat)), x]) ∧ ∀ xs, SqL K H a xs → xs[i]? = some x,
    fun i H => n ≤ i ∧ ∃ xs : List V, SqL K H a xs ∧ xs.length = n⟩
theorem turn_nL {P : Program} {w : World} {K : PySem.W.Frag} {elts : List Expr} {kk : Nat} {tpos : Pos} (a e it : Addr) (k : Int) (n : Nat) :
    Turn P w K (.Tuple elts kk tpos) (ItNL K a k n) [e, it] e (fun i h => (∃ old, IsEnum h e it (k + (i : Nat)) old) ∧ h.IsListIter it a i ∧ e ≠ it ∧ a ≠ it ∧ a ≠ e ∧ i ≤ n) where
  mem := by simp
  obj := fun i h st b hb => by
    obtain ⟨⟨old, he⟩, ⟨o, ho, hc, hd⟩, _⟩ := st
    have e' : b = e ∨ b = it := by simpa using hb
    rcases e' with z | z
    · rw [z]
      exact ⟨_, he, fun v q => nomatch q⟩
    · rw [z]
      exact ⟨o, ho, fun v q => by rw [hd] at q; cases q⟩
  keep := fun i h h' st k => let ⟨⟨old, he⟩, hi, hne⟩ := st; ⟨⟨old, k e (by simp) _ he⟩, hi.at fun o q => k it (by simp) o q, hne⟩
  item := by
    intro X hP hw hK hc i pins s σ H E I hf st hg
    subst hP hw hK
    obtain ⟨⟨old, he⟩, hit, hne, nai, nae, _⟩ := st
    obtain ⟨hin, xs, x, hq, hxn, hx⟩ := hg
    obtain ⟨its, rv, p, hz⟩ := I.list hq
    obtain ⟨u, hu, ru⟩ := rv.get hx
    have hil0 : i < its.length := (List.getElem?_eq_some_iff.mp hu).1
    have hel : e < s.heap.objs.size := Heap.lt_size he
    have hil : it < s.heap.objs.size := by obtain ⟨_, q, _⟩ := hit; exact Heap.lt_size q
    have D := Draws.list (prog := X.prog) (w := X.w) (A := X.A.in1) (I.ok.hd hc) it a nai its.toArray
    refine wpAny_pyNext_enum_itemC D he ⟨hit, p.isList⟩ (by simpa using hil0) hne (by simp [hne, Ne.symm nae]) fun x' h' tk hP ho hst hT hsz hk => ?_
    have hxu : x' = u := by
      have : its[i]? = some x' := by simpa using hP
      rw [hu] at this
      exact (Option.some.inj this).symm
    subst hxu
    obtain ⟨hit', _⟩ := hst
    refine ⟨_, rfl, wpAny_letOwnedTupleGo_enum (s := { s with heap := h', toks := tk + 1 }) ho fun h'' he' sb => ?_⟩
    have hT2 : h''.get? s.heap.objs.size = some { cls := .type "tuple", data := .seq #[.int (k + (i : Nat)) tk, x'] } := (sb.2 _ (Nat.ne_of_gt hel)).trans hT
    have new : ObjOk X.prog X.w (upd H s.heap.objs.size (.tup [.int (k + (i : Nat)), x])) h'' s.heap.objs.size (.tup [.int (k + (i : Nat)), x]) := ⟨by show 2 ≤ sizeLine; decide, [.int (k + (i : Nat)) tk, x'], .cons ⟨_, rfl⟩ (.cons ru .nil), ⟨_, hT2, rfl, _, rfl⟩⟩
    have I1 : Inv X pins σ (upd H s.heap.objs.size (.tup [.int (k + (i : Nat)), x])) { s with heap := h'', toks := tk + 1 } := I.turnedNew (ch := [e, it]) (fun b ob hb q => (sb.2 b (fun z => hb (by simp [z]))).trans (hk b ob (fun z => hb (by simp [z])) (fun z => hb (by simp [z])) q)) hf (Nat.le_refl _) new
    refine ⟨.ref s.heap.objs.size, _, I1, rfl, ⟨_, x, rfl, I.hok.fresh (Nat.le_refl _), rfl, fun ys hy => by rw [I.list_inj hy hq]; exact hx⟩, ⟨⟨x', ?_⟩, hit'.at fun o q => (sb.2 it (Ne.symm hne)).trans q, hne, nai, nae, hin⟩, fun b hb => ?_⟩
    · have e1 : k + ((i + 1 : Nat) : Int) = k + (i : Int) + 1 := by omega
      rw [e1]
      exact he'
    · have hb' : b < s.heap.objs.size := by
        have e' : b = e ∨ b = it := by simpa using hb
        rcases e' with z | z
        · rw [z]; exact hel
        · rw [z]; exact hil
      rw [upd_ne (Nat.ne_of_lt hb')]
      exact (hf b hb).1
  done := by
    intro X hP hw hK hc i pins s σ H E I hf st hg
    subst hP hw hK
    obtain ⟨⟨old, he⟩, hit, hne, nai, nae, hin⟩ := st
    obtain ⟨hni, xs, hq, hx⟩ := hg
    obtain ⟨its, rv, p, hz⟩ := I.list hq
    obtain ⟨f0, f1, f2, f3, f4, f5⟩ := hf it (by simp)
    have hl := rv.length
    have D := Draws.list (prog := X.prog) (w := X.w) (A := X.A.in1) (I.ok.hd hc) it a nai its.toArray
    have en : its.toArray.size = i := by simp; omega
    exact wpAny_pyNext_enum_endD D he (by rw [en]; exact ⟨hit, p.isList⟩) fun h' eb => ⟨rfl, I.turned (t' := s.toks) (fun b o hb q => eb b o hb q) f0 f1 f3 f4 f5⟩
  self := fun A i s Q E st h => let ⟨⟨_, he⟩, _⟩ := st; wpAny_pyIter_enum he h
def iEnL (K : PySem.W.Frag) (ta : TA) : TI := fun σ H R => ta σ H fun vs H1 => ∃ a xs k, (vs = [.ref a] ∧ k = 0 ∨ vs = [.ref a, .int k] ∧ -(2 ^ 63) ≤ k ∧ k < 2 ^ 63) ∧ SqL K H1 a xs ∧ R (ItNL K a k xs.length) H1
theorem en_fin_L {X : Cx} {tpos : Pos} {elts : List Expr} {kk : Nat} {pins : List (Addr × Obj)} {σ : St} {H1 : Hp} {s1 : Shared} {R : It → Hp → Prop} {a : Addr} {xs : List V} {k : Int} {h' : Heap} (I1 : Inv X pins σ H1 s1) (al : a < s1.heap.objs.size) (he : IsEnum h' (s1.heap.objs.size + 1) s1.heap.objs.size k .none)
    (hit : h'.get? s1.heap.objs.size = some { cls := .type "list_iterator", data := .fields #[.ref a, .int 0 0] }) (hk : ∀ b o, s1.heap.get? b = some o → h'.get? b = some o) (q : R (ItNL X.K a k xs.length) H1) :
    wpAny (model X.prog X.w) X.A (pyIter (.ref (s1.heap.objs.size + 1))) (PIE X pins σ (.Tuple elts kk tpos) R) X.xe { s1 with heap := h' } := by
  refine wpAny_pyIter_enum he ?_
  have I2 : Inv X pins σ H1 { s1 with heap := h' } := I1.kept (t' := s1.toks) hk
  refine ⟨s1.heap.objs.size + 1, [s1.heap.objs.size + 1, s1.heap.objs.size], _, _, H1, rfl, I2, turn_nL a (s1.heap.objs.size + 1) s1.heap.objs.size k xs.length, ⟨⟨.none, ?_⟩, ⟨_, hit, rfl, rfl⟩, Nat.succ_ne_self _, Nat.ne_of_lt al, Nat.ne_of_lt (Nat.lt_succ_of_lt al), Nat.zero_le _⟩, fun b hb => ?_, q⟩
  · have e0 : k + ((0 : Nat) : Int) = k := by simp
    rw [e0]
    exact he
  have e' : b = s1.heap.objs.size + 1 ∨ b = s1.heap.objs.size := by simpa using hb
  have hle : s1.heap.objs.size ≤ b := by
    rcases e' with z | z
    · rw [z]; exact Nat.le_add_right _ _
    · rw [z]; exact Nat.le_refl _
  exact I1.fpOk hle (I1.hok.fresh hle)
theorem pi_enL {X : Cx} {e : Expr} {ta : TA} {p pos tpos : Pos} {elts : List Expr} {kk : Nat} (hg : Gl X "enumerate") (hm : X.mg "enumerate" = none) (ha : PA X [e] ta) (hs : starEach [e] X.env = [(false, eval e X.env)] := by rfl) :
    PI X (.Tuple elts kk tpos) (.Call (.Name "enumerate" p) [e] [] pos) (iEnL X.K ta) := by
  refine ⟨fun pins s σ H R I h => ?_⟩
  refine Call_ (ld_blt I hg hm boot_enumerate (PyProof.Rows.callWith_type1 (thn (ha.run pos pins s σ H _ I h) fun us s1 ⟨vs, H1, I1, r1, q1⟩ => ?_) hs rfl))
  obtain ⟨a, xs, k, ex, hq, q⟩ := q1
  rcases ex with ⟨ex, rfl⟩ | ⟨ex, _, _⟩
  · subst ex
    cases r1 with
    | cons r rr =>
      cases rr
      cases r
      obtain ⟨its, rv, p', hz⟩ := I1.list hq
      have al : a < s1.heap.objs.size := by
        obtain ⟨o1, ho1, _⟩ := id p'.isList
        exact Heap.lt_size ho1
      exact enum_begins1 (begins_list a its.toArray) p'.isList fun h' he hit hsz hk => en_fin_L I1 al he hit hk q
  · subst ex
    cases r1 with
    | cons r rr =>
      cases rr with
      | cons r' rr =>
        cases rr
        cases r
        obtain ⟨tk, rfl⟩ := r'
        obtain ⟨its, rv, p', hz⟩ := I1.list hq
        have al : a < s1.heap.objs.size := by
          obtain ⟨o1, ho1, _⟩ := id p'.isList
          exact Heap.lt_size ho1
        exact enum_begins (begins_list a its.toArray) p'.isList (by assumption) (by assumption) fun h' he hit hsz hk => en_fin_L I1 al he hit hk q
theorem pi_enL2 {X : Cx} {e e2 : Expr} {ta : TA} {p pos tpos : Pos} {elts : List Expr} {kk : Nat} (hg : Gl X "enumerate") (hm : X.mg "enumerate" = none) (ha : PA X [e, e2] ta)
    (hs : starEach [e, e2] X.env = (false, eval e X.env) :: starEach [e2] X.env := by rfl) (hpl : (backTo pos (starEach [e2] X.env)).any (·.1) = false := by rfl) :
    PI X (.Tuple elts kk tpos) (.Call (.Name "enumerate" p) [e, e2] [] pos) (iEnL X.K ta) := by
  refine ⟨fun pins s σ H R I h => ?_⟩
  refine Call_ (ld_blt I hg hm boot_enumerate (PyProof.Rows.callWith_type1 (thn (ha.run pos pins s σ H _ I h) fun us s1 ⟨vs, H1, I1, r1, q1⟩ => ?_) hs hpl))
  obtain ⟨a, xs, k, ex, hq, q⟩ := q1
  rcases ex with ⟨ex, rfl⟩ | ⟨ex, _, _⟩
  · subst ex
    cases r1 with
    | cons r rr =>
      cases rr
      cases r
      obtain ⟨its, rv, p', hz⟩ := I1.list hq
      have al : a < s1.heap.objs.size := by
        obtain ⟨o1, ho1, _⟩ := id p'.isList
        exact Heap.lt_size ho1
      exact enum_begins1 (begins_list a its.toArray) p'.isList fun h' he hit hsz hk => en_fin_L I1 al he hit hk q
  · subst ex
    cases r1 with
    | cons r rr =>
      cases rr with
      | cons r' rr =>
        cases rr
        cases r
        obtain ⟨tk, rfl⟩ := r'
        obtain ⟨its, rv, p', hz⟩ := I1.list hq
        have al : a < s1.heap.objs.size := by
          obtain ⟨o1, ho1, _⟩ := id p'.isList
          exact Heap.lt_size ho1
        exact enum_begins (begins_list a its.toArray) p'.isList (by assumption) (by assumption) fun h' he hit hsz hk => en_fin_L I1 al he hit hk q
def enumF (k : Int) : List W → List W
  | [] => []
  | w :: ws => .tup [.int k, w] :: enumF (k + 1) ws
theorem enumF_get : ∀ (ws : List W) (k : Int) (i : Nat), (enumF k ws)[i]? = (ws[i]?).map fun w => .tup [.int (k + (i : Nat)), w]
  | [], k, i => by simp [enumF]
  | w :: ws, k, 0 => by simp [enumF]
  | w :: ws, k, i + 1 => by
    have e : k + 1 + (i : Int) = k + ((i + 1 : Nat) : Int) := by omega
    simp only [enumF, List.getElem?_cons_succ, enumF_get ws (k + 1) i, e]
theorem enumF_length : ∀ (ws : List W) (k : Int), (enumF k ws).length = ws.length
  | [], k => rfl
  | w :: ws, k => by simp [enumF, enumF_length ws (k + 1)]
def zipF : List W → List W → List W
  | w :: ws, u :: us => .tup [w, u] :: zipF ws us
  | _, _ => []
theorem zipF_get : ∀ (ws us : List W) (i : Nat) (x : W), (zipF ws us)[i]? = some x → ∃ w u, ws[i]? = some w ∧ us[i]? = some u ∧ x = .tup [w, u]
  | [], us, i, x, h => by simp [zipF] at h
  | w :: ws, [], i, x, h => by simp [zipF] at h
  | w :: ws, u :: us, 0, x, h => by
    simp [zipF] at h
    exact ⟨w, u, rfl, rfl, h.symm⟩
  | w :: ws, u :: us, i + 1, x, h => by
    simp only [zipF, List.getElem?_cons_succ] at h
    exact zipF_get ws us i x h
theorem zipF_length : ∀ (ws us : List W), (zipF ws us).length = min ws.length us.length
  | [], us => by simp [zipF]
  | w :: ws, [] => by simp [zipF]
  | w :: ws, u :: us => by simp [zipF, zipF_length ws us]
def enW : List W → T (List W)
  | [.tup ws] => .ok (enumF 0 ws)
  | [.lst ws] => .ok (enumF 0 ws)
  | [.tup ws, .int k] => if rngOk k then .ok (enumF k ws) else .bad
  | [.lst ws, .int k] => if rngOk k then .ok (enumF k ws) else .bad
  | _ => .bad
def isT : List W → Bool
  | .tup _ :: _ => true
  | _ => false
def enT (xs : List W) : T (List W) := if isT xs then enW xs else .bad
def enL (xs : List W) : T (List W) := if isT xs then .bad else enW xs
def zpW : List W → T (List W)
  | [.tup ws, .tup us] => .ok (zipF ws us)
  | [.lst ws, .lst us] => .ok (zipF ws us)
  | _ => .bad
section
variable {K : PySem.W.Frag} {c : Cc} {d : Nat} {H H1 : Hp}
theorem new_pair {c : Cc} {d : Nat} {H : Hp} {T : Addr} {a b : W} {x y : V} (wd : Wd c d H) (hT : H T = none) (ra : Rep K c H a x) (rb : Rep K c H b y) :
    Step c H (upd H T (.tup [x, y])) ∧ StOk c d (upd H T (.tup [x, y])) ∧ Rep K c (upd H T (.tup [x, y])) (.tup [a, b]) (.ref T) :=
  ⟨.new hT, wd.st.new hT, .tup (SqT.of upd_same) (.cons (ra.step (.new hT) wd.st wd.ok) (.cons (rb.step (.new hT) wd.st wd.ok) .nil))⟩
theorem it_enT {a : Addr} {vs : List V} {ws : List W} (k : Int) (hq : SqT K H a vs) (rl : RepL K c H ws vs) : ItOk K c H (ItNT K a k vs.length) (enumF k ws) := fun c' H' d' i fw wd => by
  have hq' : SqT K H' a vs := fw.sq a vs hq
  refine ⟨fun w hw => ?_, fun hi => ?_⟩
  · rw [enumF_get] at hw
    cases hu : ws[i]? with
    | none =>
      rw [hu] at hw
      cases hw
    | some u =>
      rw [hu] at hw
      cases hw
      obtain ⟨v, hv, rv⟩ := rl.get hu
      refine ⟨⟨(List.getElem?_eq_some_iff.mp hv).1, vs, v, hq', rfl, hv⟩, fun x H2 y => ?_⟩
      obtain ⟨T, x', rfl, hT, rfl, y⟩ := y
      have ex := y vs hq'
      rw [hv] at ex
      cases ex
      exact new_pair wd hT (.int _) (fw.rep _ _ rv)
  · rw [enumF_length, rl.length] at hi
    exact ⟨hi, vs, hq', rfl⟩
theorem it_enL {a : Addr} {vs : List V} {ws : List W} (k : Int) (ok : CcOk c) (mo : MOk c H) (n : a ∉ c.A) (hq : H a = some (.lst vs)) (rl : RepL K c H ws vs) : ItOk K c H (ItNL K a k vs.length) (enumF k ws) := fun c' H' d' i fw wd => by
  have hq' : SqL K H' a vs := SqL.of (fw.step _ _ hq (ok.neS n) (ok.nela n) (fun z => n (mo.inA _ z)) nofun)
  refine ⟨fun w hw => ?_, fun hi => ?_⟩
  · rw [enumF_get] at hw
    cases hu : ws[i]? with
    | none =>
      rw [hu] at hw
      cases hw
    | some u =>
      rw [hu] at hw
      cases hw
      obtain ⟨v, hv, rv⟩ := rl.get hu
      refine ⟨⟨(List.getElem?_eq_some_iff.mp hv).1, vs, v, hq', rfl, hv⟩, fun x H2 y => ?_⟩
      obtain ⟨T, x', rfl, hT, rfl, y⟩ := y
      have ex := y vs hq'
      rw [hv] at ex
      cases ex
      exact new_pair wd hT (.int _) (fw.rep _ _ rv)
  · rw [enumF_length, rl.length] at hi
    exact ⟨hi, vs, hq', rfl⟩
theorem it_zpT {a b : Addr} {vs us : List V} {ws zs : List W} (hq : SqT K H a vs) (rl : RepL K c H ws vs) (hp : SqT K H b us) (rm : RepL K c H zs us) : ItOk K c H (RZ.ItzT K a b) (zipF ws zs) := fun c' H' d' i fw wd => by
  have hq' : SqT K H' a vs := fw.sq a vs hq
  have hp' : SqT K H' b us := fw.sq b us hp
  refine ⟨fun w hw => ?_, fun hi => ?_⟩
  · obtain ⟨w1, w2, h1, h2, rfl⟩ := zipF_get _ _ _ _ hw
    obtain ⟨v, hv, rv⟩ := rl.get h1
    obtain ⟨u, hu, ru⟩ := rm.get h2
    refine ⟨⟨vs, us, v, u, hq', hp', hv, hu⟩, fun x H2 y => ?_⟩
    obtain ⟨T, x', y', rfl, hT, rfl, y1, y2⟩ := y
    have ex := y1 vs hq'
    have ey := y2 us hp'
    rw [hv] at ex
    rw [hu] at ey
    cases ex
    cases ey
    exact new_pair wd hT (fw.rep _ _ rv) (fw.rep _ _ ru)
  · rw [zipF_length, rl.length, rm.length] at hi
    exact ⟨vs, us, hq', hp', by omega⟩
theorem it_zpL {a b : Addr} {vs us : List V} {ws zs : List W} (ok : CcOk c) (mo : MOk c H) (na : a ∉ c.A) (hq : H a = some (.lst vs)) (rl : RepL K c H ws vs) (nb : b ∉ c.A) (hp : H b = some (.lst us)) (rm : RepL K c H zs us) : ItOk K c H (Itz K a b) (zipF ws zs) := fun c' H' d' i fw wd => by
  have hq' : SqL K H' a vs := SqL.of (fw.step _ _ hq (ok.neS na) (ok.nela na) (fun z => na (mo.inA _ z)) nofun)
  have hp' : SqL K H' b us := SqL.of (fw.step _ _ hp (ok.neS nb) (ok.nela nb) (fun z => nb (mo.inA _ z)) nofun)
  refine ⟨fun w hw => ?_, fun hi => ?_⟩
  · obtain ⟨w1, w2, h1, h2, rfl⟩ := zipF_get _ _ _ _ hw
    obtain ⟨v, hv, rv⟩ := rl.get h1
    obtain ⟨u, hu, ru⟩ := rm.get h2
    refine ⟨⟨vs, us, v, u, hq', hp', hv, hu⟩, fun x H2 y => ?_⟩
    obtain ⟨T, x', y', rfl, hT, rfl, y1, y2⟩ := y
    have ex := y1 vs hq'
    have ey := y2 us hp'
    rw [hv] at ex
    rw [hu] at ey
    cases ex
    cases ey
    exact new_pair wd hT (fw.rep _ _ rv) (fw.rep _ _ ru)
  · rw [zipF_length, rl.length, rm.length] at hi
    exact ⟨vs, us, hq', hp', by omega⟩
end
section
variable {X : Cx} {E : WX} {e e2 : Expr} {fs : En → T (List W)} {p pos tpos : Pos} {elts : List Expr} {kk : Nat}
theorem enT_lift {ta : TA} (hl : ta = liftA X.K E fs) : ∀ σ H R, liftI X.K E (iL enT fs) σ H R → iEnT X.K ta σ H R := fun σ H R q => by
  subst hl
  obtain ⟨c, d, oa, ρ, e, q⟩ := q
  refine liftA_then (P := fun c H => PJ X.K c H R) e q (fun st p => p.later st) fun w v H1 d1 _ r1 e1 h1 => ?_
  cases r1 with
  | nil => exact h1.elim
  | cons r rr =>
    cases r with
    | tup hq rl =>
      cases rr with
      | nil => exact ⟨_, _, 0, .inl ⟨rfl, rfl⟩, hq, PJ.now e1.wd h1 (it_enT 0 hq rl)⟩
      | cons r2 rr =>
        cases rr with
        | cons _ _ => cases r2 <;> exact h1.elim
        | nil =>
          cases r2 with
          | int k =>
            obtain ⟨hb, h1⟩ := T.AllB.ite (show (if rngOk k then T.ok (enumF k _) else .bad).AllB _ _ _ from h1)
            exact ⟨_, _, k, .inr ⟨rfl, by have := rngOk_of hb; omega, by have := rngOk_of hb; omega⟩, hq, PJ.now e1.wd h1 (it_enT k hq rl)⟩
          | _ => exact h1.elim
    | _ => exact h1.elim
theorem enL_lift {ta : TA} (hl : ta = liftA X.K E fs) : ∀ σ H R, liftI X.K E (iL enL fs) σ H R → iEnL X.K ta σ H R := fun σ H R q => by
  subst hl
  obtain ⟨c, d, oa, ρ, e, q⟩ := q
  refine liftA_then (P := fun c H => PJ X.K c H R) e q (fun st p => p.later st) fun w v H1 d1 _ r1 e1 h1 => ?_
  cases r1 with
  | nil => exact h1.elim
  | cons r rr =>
    cases r with
    | lst n hq rl =>
      cases rr with
      | nil => exact ⟨_, _, 0, .inl ⟨rfl, rfl⟩, SqL.of hq, PJ.now e1.wd h1 (it_enL 0 e1.ok e1.m n hq rl)⟩
      | cons r2 rr =>
        cases rr with
        | cons _ _ => cases r2 <;> exact h1.elim
        | nil =>
          cases r2 with
          | int k =>
            obtain ⟨hb, h1⟩ := T.AllB.ite (show (if rngOk k then T.ok (enumF k _) else .bad).AllB _ _ _ from h1)
            exact ⟨_, _, k, .inr ⟨rfl, by have := rngOk_of hb; omega, by have := rngOk_of hb; omega⟩, SqL.of hq, PJ.now e1.wd h1 (it_enL k e1.ok e1.m n hq rl)⟩
          | _ => exact h1.elim
    | _ => exact h1.elim
theorem tri_enT (hg : Gl X "enumerate") (hm : X.mg "enumerate" = none) (ha : TrA X E [e] fs) (hs : starEach [e] X.env = [(false, eval e X.env)] := by rfl) : TrI X E (.Tuple elts kk tpos) (.Call (.Name "enumerate" p) [e] [] pos) (iL enT fs) := pi_imp (pi_enT hg hm ha hs) (enT_lift rfl)
theorem tri_enL (hg : Gl X "enumerate") (hm : X.mg "enumerate" = none) (ha : TrA X E [e] fs) (hs : starEach [e] X.env = [(false, eval e X.env)] := by rfl) : TrI X E (.Tuple elts kk tpos) (.Call (.Name "enumerate" p) [e] [] pos) (iL enL fs) := pi_imp (pi_enL hg hm ha hs) (enL_lift rfl)
theorem tri_enT2 (hg : Gl X "enumerate") (hm : X.mg "enumerate" = none) (ha : TrA X E [e, e2] fs) (hs : starEach [e, e2] X.env = (false, eval e X.env) :: starEach [e2] X.env := by rfl) (hpl : (backTo pos (starEach [e2] X.env)).any (·.1) = false := by rfl) : TrI X E (.Tuple elts kk tpos) (.Call (.Name "enumerate" p) [e, e2] [] pos) (iL enT fs) := pi_imp (pi_enT2 hg hm ha hs hpl) (enT_lift rfl)
theorem tri_enL2 (hg : Gl X "enumerate") (hm : X.mg "enumerate" = none) (ha : TrA X E [e, e2] fs) (hs : starEach [e, e2] X.env = (false, eval e X.env) :: starEach [e2] X.env := by rfl) (hpl : (backTo pos (starEach [e2] X.env)).any (·.1) = false := by rfl) : TrI X E (.Tuple elts kk tpos) (.Call (.Name "enumerate" p) [e, e2] [] pos) (iL enL fs) := pi_imp (pi_enL2 hg hm ha hs hpl) (enL_lift rfl)
theorem tri_zip (hg : Gl X "zip") (hm : X.mg "zip" = none) (ha : TrA X E [e, e2] fs) (hs : starEach [e, e2] X.env = (false, eval e X.env) :: starEach [e2] X.env := by rfl) (hpl : (backTo pos (starEach [e2] X.env)).any (·.1) = false := by rfl) :
    TrI X E (.Tuple elts kk tpos) (.Call (.Name "zip" p) [e, e2] [] pos) (iL zpW fs) := pi_imp (RZ.pi_zipA hg hm ha hs hpl) fun σ H R q => by
  obtain ⟨c, d, oa, ρ, e, q⟩ := q
  refine liftA_then (P := fun c H => PJ X.K c H R) e q (fun st p => p.later st) fun w v H1 d1 _ r1 e1 h1 => ?_
  cases r1 with
  | nil => exact h1.elim
  | cons r rr =>
    cases rr with
    | nil => cases r <;> exact h1.elim
    | cons r2 rr =>
      cases rr with
      | cons _ _ => cases r <;> cases r2 <;> exact h1.elim
      | nil =>
        cases r with
        | tup hq rl =>
          cases r2 with
          | tup hp rm => exact ⟨_, _, _, _, rfl, .inr ⟨hq, hp, PJ.now e1.wd h1 (it_zpT hq rl hp rm)⟩⟩
          | _ => exact h1.elim
        | lst n hq rl =>
          cases r2 with
          | lst n2 hp rm => exact ⟨_, _, _, _, rfl, .inl ⟨SqL.of hq, SqL.of hp, PJ.now e1.wd h1 (it_zpL e1.ok e1.m n hq rl n2 hp rm)⟩⟩
          | _ => exact h1.elim
        | _ => cases r2 <;> exact h1.elim
end
end PF
namespace PF
open PySem PySem.Spec PyProof.Rows L2
section
variable {X : Cx}
theorem callR_or {f : Value} {r r' : List V → Hp → VK → Prop} (h1 : CallR X f r) (h2 : CallR X f r') : CallR X f (fun vs H Q => r vs H Q ∨ r' vs H Q) := fun pins s σ H xs us Q I rv h => h.elim (h1 pins s σ H xs us Q I rv) (h2 pins s σ H xs us Q I rv)
theorem opR_or {f : Value → Value → Sem Value} {r r' : R2} (h1 : OpR X f r) (h2 : OpR X f r') : OpR X f (fun x y H Q => r x y H Q ∨ r' x y H Q) := fun pins s σ H x y v u Q I rx ry h => h.elim (h1 pins s σ H x y v u Q I rx ry) (h2 pins s σ H x y v u Q I rx ry)
def rSumT (K : PySem.W.Frag) : List V → Hp → VK → Prop := fun vs H Q => ∃ (a : Addr) (ns : List Int), vs = [V.ref a] ∧ SqT K H a (ns.map V.int) ∧ Q (.int ns.sum) H
theorem cr_sumT (hc : X.calm = true) : CallR X (.builtin "sum") (rSumT X.K) := by
  intro pins s σ H vs us Q I r h
  obtain ⟨a, ns, rfl, hs, q⟩ := h
  obtain ⟨its, rv, hl, _⟩ := I.tuple hs
  rw [Vals.ref1 r]
  have hi := rv.ints
  obtain ⟨xs, e⟩ := hi.allInts.items
  have hn : numsOf (intItems xs).toList = ns := by rw [← e]; exact hi.numsOf
  rw [nums_intItems] at hn
  rw [e] at hl
  refine PySem.W.ktm_sumG (I.ok.hd hc) hl fun h' tk t' hk => ⟨.int _, H, I.kept hk, ⟨_, rfl⟩, ?_⟩
  rw [preSum_eq, List.take_of_length_le (by simp), hn]
  exact q
theorem slR_or {r r' : V → Option Int → Option Int → Hp → VK → Prop} (h1 : L2.SlR X r) (h2 : L2.SlR X r') : L2.SlR X (fun x l u H Q => r x l u H Q ∨ r' x l u H Q) := fun pins s σ H x v vl vu lo hi sl Q I rx hs pl pu h => h.elim (h1 pins s σ H x v vl vu lo hi sl Q I rx hs pl pu) (h2 pins s σ H x v vl vu lo hi sl Q I rx hs pl pu)
end
theorem tuple_mul1 (l : Addr) (items : Array Value) (n : Nat) (dd : Option Addr) (sl : Array (Option Value)) (u : Tok) :
    Meets (Builtin.«tuple.__mul__» ⟨[.ref l, .int 1 u], []⟩) (fun _ R s => s.heap.get? l = some { cls := .type "tuple", dict := dd, data := .seq items n, slots := sl } ∧ R (.ok (.ret (Value.ref l))) s) :=
  .of_wp fun prog w A R s h => by
    obtain ⟨hp, g, d, tk, os⟩ := s
    obtain ⟨hl, h⟩ := h
    have f1 := AutoSeq1.idx_int
    wp_walk using wpAny_loadPart' hl
    exact ⟨_, rfl, h⟩
def rRep1 (K : PySem.W.Frag) : R2 := fun x y H Q => ∃ l xs, x = .ref l ∧ y = .int 1 ∧ SqT K H l xs ∧ Q (.ref l) H
theorem op_rep1 {X : Cx} : OpR X (binaryOp .Mult) (rRep1 X.K) := by
  intro pins s σ H x y v u Q I rx ry h
  obtain ⟨l, xs, rfl, rfl, hT, q⟩ := h
  cases rx
  obtain ⟨t, rfl⟩ := ry
  obtain ⟨its, r, ⟨⟨cls, dd, data, sl⟩, ho, hc, n, hd⟩, hs⟩ := I.tuple hT
  simp only at hc hd
  subst hc hd
  exact wpAny_binaryOp_repeat_ref (T := "tuple") (U := "int") (by decide) ⟨_, ho, rfl⟩ (fun s' => typeIs_int s' 1 t) noFill_tuple_mul F.fills_int_mul F.slot_int_rmul repeat_tuple F.slot_int_index.lookup
    (call_meets F.slot_int_rmul (typeIs_int s 1 t) F.entry_int_rmul (F.args_int_rmul_2 _ _) (int_rmul_tuple 1 t l its.toArray n dd sl)
      ⟨ho, rfl, ⟨_, ho, rfl⟩, call_meets F.slot_tuple_mul ⟨_, ho, rfl⟩ F.entry_tuple_mul (F.args_tuple_mul_2 _ _) (tuple_mul1 l its.toArray n dd sl t) ⟨ho, ⟨.ref l, H, I, rfl, q⟩⟩⟩)
def intsW : List W → Option (List Int)
  | [] => some []
  | .int b :: ws => (intsW ws).map (b :: ·)
  | _ => none
theorem intsW_map : ∀ {ws : List W} {ns : List Int}, intsW ws = some ns → ws = ns.map W.int
  | [], ns, h => by
    cases h
    rfl
  | w :: ws, ns, h => by
    cases w with
    | int b =>
      simp only [intsW] at h
      cases e : intsW ws with
      | none =>
        rw [e] at h
        cases h
      | some ms =>
        rw [e] at h
        cases h
        rw [intsW_map e]
        rfl
    | _ => cases h
@[simp] theorem intsW_of : ∀ (ns : List Int), intsW (ns.map W.int) = some ns
  | [] => rfl
  | n :: ns => by simp [intsW, intsW_of ns]
def sumW : List W → T W
  | [.lst ws] => match intsW ws with
    | some ns => .ok (.int ns.sum)
    | none => .bad
  | [.tup ws] => match intsW ws with
    | some ns => .ok (.int ns.sum)
    | none => .bad
  | _ => .bad
def greatest : List Int → Int
  | [] => 0
  | n :: ns => ns.foldl max n
def least : List Int → Int
  | [] => 0
  | n :: ns => ns.foldl min n
def maxW : List W → T W
  | [.int i, .int j] => .ok (.int (if j > i then j else i))
  | [.lst ws] => match intsW ws with
    | some (n :: ns) => .ok (.int (greatest (n :: ns)))
    | _ => .bad
  | _ => .bad
def minW : List W → T W
  | [.int i, .int j] => .ok (.int (if j < i then j else i))
  | [.lst ws] => match intsW ws with
    | some (n :: ns) => .ok (.int (least (n :: ns)))
    | _ => .bad
  | _ => .bad
theorem foldl_max_ge : ∀ (ns : List Int) (n : Int), n ≤ ns.foldl max n ∧ (∀ y ∈ ns, y ≤ ns.foldl max n) ∧ (ns.foldl max n = n ∨ ns.foldl max n ∈ ns)
  | [], n => ⟨Int.le_refl _, fun y h => (by cases h), .inl rfl⟩
  | m :: ns, n => by
    obtain ⟨h1, h2, h3⟩ := foldl_max_ge ns (max n m)
    rw [List.foldl_cons]
    refine ⟨by omega, fun y hy => ?_, ?_⟩
    · rcases List.mem_cons.mp hy with rfl | hy
      · omega
      · exact h2 y hy
    · rcases h3 with h3 | h3
      · rw [h3]
        by_cases h : n ≤ m
        · exact .inr (by rw [Int.max_eq_right h]; exact List.mem_cons_self ..)
        · exact .inl (Int.max_eq_left (by omega))
      · exact .inr (List.mem_cons_of_mem _ h3)
theorem foldl_min_le : ∀ (ns : List Int) (n : Int), ns.foldl min n ≤ n ∧ (∀ y ∈ ns, ns.foldl min n ≤ y) ∧ (ns.foldl min n = n ∨ ns.foldl min n ∈ ns)
  | [], n => ⟨Int.le_refl _, fun y h => (by cases h), .inl rfl⟩
  | m :: ns, n => by
    obtain ⟨h1, h2, h3⟩ := foldl_min_le ns (min n m)
    rw [List.foldl_cons]
    refine ⟨by omega, fun y hy => ?_, ?_⟩
    · rcases List.mem_cons.mp hy with rfl | hy
      · omega
      · exact h2 y hy
    · rcases h3 with h3 | h3
      · rw [h3]
        by_cases h : m ≤ n
        · exact .inr (by rw [Int.min_eq_right h]; exact List.mem_cons_self ..)
        · exact .inl (Int.min_eq_left (by omega))
      · exact .inr (List.mem_cons_of_mem _ h3)
theorem greatest_is {ns : List Int} {m : Int} (h0 : 0 < ns.length) (h1 : m ∈ ns) (h2 : ∀ y, y ∈ ns → y ≤ m) : greatest ns = m := by
  cases ns with
  | nil => cases h1
  | cons n ns =>
    obtain ⟨a, b, c⟩ := foldl_max_ge ns n
    show ns.foldl max n = m
    have x1 : ns.foldl max n ≤ m := by
      rcases c with c | c
      · rw [c]
        exact h2 n (List.mem_cons_self ..)
      · exact h2 _ (List.mem_cons_of_mem _ c)
    have x2 : m ≤ ns.foldl max n := by
      rcases List.mem_cons.mp h1 with rfl | h1
      · exact a
      · exact b m h1
    omega
theorem least_is {ns : List Int} {m : Int} (h0 : 0 < ns.length) (h1 : m ∈ ns) (h2 : ∀ y, y ∈ ns → m ≤ y) : least ns = m := by
  cases ns with
  | nil => cases h1
  | cons n ns =>
    obtain ⟨a, b, c⟩ := foldl_min_le ns n
    show ns.foldl min n = m
    have x1 : m ≤ ns.foldl min n := by
      rcases c with c | c
      · rw [c]
        exact h2 n (List.mem_cons_self ..)
      · exact h2 _ (List.mem_cons_of_mem _ c)
    have x2 : ns.foldl min n ≤ m := by
      rcases List.mem_cons.mp h1 with rfl | h1
      · exact a
      · exact b m h1
    omega
def tupOfW : List W → T W
  | [.lst ws] => .ok (.tup ws)
  | [.tup ws] => .ok (.tup ws)
  | _ => .bad
def lstOfW : List W → T W
  | [.lst ws] => .ok (.lst ws)
  | [.tup ws] => .ok (.lst ws)
  | _ => .bad
section
variable {K : PySem.W.Frag}
theorem sem_sum : SemL K (fun vs H Q => rSum K vs H Q ∨ rSumT K vs H Q) sumW := fun c d H x v Q E' wd rx q => by
  cases rx with
  | nil => exact q.elim
  | cons r rr =>
    cases rr with
    | cons _ _ => cases r <;> exact q.elim
    | nil =>
      cases r with
      | lst n h rl =>
        simp only [sumW] at q
        split at q
        · rename_i ns hi
          rw [intsW_map hi] at rl
          rw [rl.ints] at h
          exact .inl ⟨_, ns, rfl, SqL.of h, PQ.now wd q (.int _)⟩
        · exact q.elim
      | tup h rl =>
        simp only [sumW] at q
        split at q
        · rename_i ns hi
          rw [intsW_map hi] at rl
          rw [rl.ints] at h
          exact .inr ⟨_, ns, rfl, h, PQ.now wd q (.int _)⟩
        · exact q.elim
      | _ => exact q.elim
theorem sem_max : SemL K (fun vs H Q => (∃ i j, vs = [.int i, .int j] ∧ Q (.int (if j > i then j else i)) H) ∨ rMax K vs H Q) maxW := fun c d H x v Q E' wd rx q => by
  cases rx with
  | nil => exact q.elim
  | cons r rr =>
    cases rr with
    | cons r2 rr =>
      cases rr with
      | cons _ _ => cases r <;> cases r2 <;> exact q.elim
      | nil => cases r <;> cases r2 <;> first | exact q.elim | exact .inl ⟨_, _, rfl, PQ.now wd q (.int _)⟩
    | nil =>
      cases r with
      | lst n h rl =>
        simp only [maxW] at q
        split at q
        · rename_i m ns hi
          rw [intsW_map hi] at rl
          rw [rl.ints] at h
          refine .inr ⟨_, m :: ns, rfl, SqL.of h, Nat.succ_pos _, fun z h1 h2 => ?_⟩
          rw [← greatest_is (ns := m :: ns) (Nat.succ_pos _) h1 h2]
          exact PQ.now wd q (.int _)
        · exact q.elim
      | _ => exact q.elim
theorem sem_min : SemL K (fun vs H Q => (∃ i j, vs = [.int i, .int j] ∧ Q (.int (if j < i then j else i)) H) ∨ rMin K vs H Q) minW := fun c d H x v Q E' wd rx q => by
  cases rx with
  | nil => exact q.elim
  | cons r rr =>
    cases rr with
    | cons r2 rr =>
      cases rr with
      | cons _ _ => cases r <;> cases r2 <;> exact q.elim
      | nil => cases r <;> cases r2 <;> first | exact q.elim | exact .inl ⟨_, _, rfl, PQ.now wd q (.int _)⟩
    | nil =>
      cases r with
      | lst n h rl =>
        simp only [minW] at q
        split at q
        · rename_i m ns hi
          rw [intsW_map hi] at rl
          rw [rl.ints] at h
          refine .inr ⟨_, m :: ns, rfl, SqL.of h, Nat.succ_pos _, fun z h1 h2 => ?_⟩
          rw [← least_is (ns := m :: ns) (Nat.succ_pos _) h1 h2]
          exact PQ.now wd q (.int _)
        · exact q.elim
      | _ => exact q.elim
theorem sem_tupOf : SemL K (fun xs H Q => ∃ p ys, xs = [.ref p] ∧ ((SqL K H p ys ∧ ∀ l, H l = none → Q (.ref l) (upd H l (.tup ys))) ∨ (SqT K H p ys ∧ Q (.ref p) H))) tupOfW := fun c d H x v Q E' wd rx q => by
  cases rx with
  | nil => exact q.elim
  | cons r rr =>
    cases rr with
    | cons _ _ => cases r <;> exact q.elim
    | nil =>
      cases r with
      | lst n h rl => exact ⟨_, _, rfl, .inl ⟨SqL.of h, fun l hl => q _ _ (.new hl) (wd.st.new hl) (.tup (SqT.of upd_same) (rl.step (.new hl) wd.st wd.ok))⟩⟩
      | tup h rl => exact ⟨_, _, rfl, .inr ⟨h, PQ.now wd q (.tup h rl)⟩⟩
      | _ => exact q.elim
theorem sem_lstOf : SemL K (fun xs H Q => ∃ p ys, xs = [.ref p] ∧ (SqL K H p ys ∨ SqT K H p ys) ∧ ∀ l, H l = none → Q (.ref l) (upd H l (.lst ys))) lstOfW := fun c d H x v Q E' wd rx q => by
  cases rx with
  | nil => exact q.elim
  | cons r rr =>
    cases rr with
    | cons _ _ => cases r <;> exact q.elim
    | nil =>
      cases r with
      | lst n h rl => exact ⟨_, _, rfl, .inl (SqL.of h), fun l hl => q _ _ (.new hl) (wd.st.new hl) (.lst (wd.fresh hl) upd_same (rl.step (.new hl) wd.st wd.ok))⟩
      | tup h rl => exact ⟨_, _, rfl, .inr h, fun l hl => q _ _ (.new hl) (wd.st.new hl) (.lst (wd.fresh hl) upd_same (rl.step (.new hl) wd.st wd.ok))⟩
      | _ => exact q.elim
def cutW (ws : List W) (lo hi : Option Int) : List W := (ws.drop (HT.sIx ws.length 0 lo)).take (HT.sIx ws.length ws.length hi - HT.sIx ws.length 0 lo)
theorem RepL.cut {c : Cc} {H : Hp} {ws : List W} {vs : List V} (r : RepL K c H ws vs) (lo hi : Option Int) : RepL K c H (cutW ws lo hi) (cutV vs lo hi) := by
  unfold cutW cutV
  rw [r.length]
  exact (r.drop _).take _
def slW (x : W) (lo hi : Option Int) : T W := match x with
  | .tup ws => .ok (.tup (cutW ws lo hi))
  | .lst ws => .ok (.lst (cutW ws lo hi))
  | _ => .bad
def pInt : W → T Int
  | .int i => .ok i
  | _ => .bad
def fSl (fa : En → T W) (fl fh : En → T (Option Int)) : En → T W := fun ρ => (fa ρ).bind fun x => (fl ρ).bind fun l => (fh ρ).bind fun u => slW x l u
def pNo : En → T (Option Int) := fun _ => .ok none
def pSome (f : En → T W) : En → T (Option Int) := fun ρ => (f ρ).bind fun x => (pInt x).bind fun i => .ok (some i)
def PO1 (c : Cc) (H : Hp) (Q : Option Int → Hp → Prop) : Nat → Option Int → Prop := fun d o => ∀ H', Step c H H' → StOk c d H' → Q o H'
theorem PO1.later {c : Cc} {H H1 : Hp} {Q : Option Int → Hp → Prop} {d : Nat} {o : Option Int} (s : Step c H H1) (h : PO1 c H Q d o) : PO1 c H1 Q d o := fun H' st so => h H' (s.trans st) so
def liftO (K : PySem.W.Frag) (E : WX) (f : En → T (Option Int)) : TO := fun σ H Q => ∃ c d oa ρ, EnvOk K c d oa ρ σ H ∧ (f ρ).AllB (PO1 c H Q) (PX K c H fun cls dx H' => E cls dx σ H') d
def TrO (X : Cx) (E : WX) (e : Option Expr) (f : En → T (Option Int)) : Prop := PO X e (liftO X.K E f)
theorem po_imp {X : Cx} {e : Option Expr} {t t' : TO} (h : PO X e t) (i : ∀ σ H Q, t' σ H Q → t σ H Q) : PO X e t' := ⟨fun pins s σ H Q I q => h.run pins s σ H Q I (i σ H Q q)⟩
theorem tro_no {X : Cx} {E : WX} : TrO X E none pNo := po_imp po_none fun σ H Q q => by
  obtain ⟨c, d, oa, ρ, e, q⟩ := q
  exact q H (.refl c H) e.st
theorem tro_some {X : Cx} {E : WX} {e : Expr} {f : En → T W} (h : TrE X E e f) : TrO X E (some e) (pSome f) := po_imp (po_some h) fun σ H Q q => by
  obtain ⟨c, d, oa, ρ, e, q⟩ := q
  refine lift_then (P := fun c H => PO1 c H Q) e q (fun st p => p.later st) fun w v H1 d1 _ r1 e1 h1 => ?_
  cases r1 with
  | int i => exact ⟨i, rfl, h1 H1 (.refl c H1) e1.st⟩
  | _ => exact h1.elim
theorem liftO_then {E : WX} {c : Cc} {d : Nat} {oa : Nat → Addr} {ρ : En} {σ : L2.St} {H : Hp} {β : Type} {fo : En → T (Option Int)} {P : Cc → Hp → Nat → β → Prop} {G : Option Int → T β} {R : Option Int → Hp → Prop} (e : EnvOk K c d oa ρ σ H) (h : ((fo ρ).bind G).AllB (P c H) (PX K c H fun cls dx H' => E cls dx σ H') d)
    (lt : ∀ {H1 d a}, Step c H H1 → P c H d a → P c H1 d a) (go : ∀ b H1 d1, Step c H H1 → EnvOk K c d1 oa ρ σ H1 → (G b).AllB (P c H1) (PX K c H1 fun cls dx H' => E cls dx σ H') d1 → R b H1) : liftO K E fo σ H R := by
  refine ⟨c, d, oa, ρ, e, T.AllB.imp (fun d1 w x => ?_) (fun _ _ _ x => x) (T.allB_bind.mp h)⟩
  intro H1 st so
  exact go w H1 d1 st (e.step st so) (T.AllB.imp (fun _ _ y => lt st y) (fun _ _ _ y => y.later st) x)
theorem cut_all {ws : List W} {lo hi : Option Int} {n : Nat} (hn : ws.length = n) (h : HT.sIx n 0 lo = 0 ∧ HT.sIx n n hi = n) : cutW ws lo hi = ws := by
  unfold cutW
  rw [hn, h.1, h.2]
  simp [← hn]
theorem tr_slice {X : Cx} {E : WX} {e : Expr} {lo hi : Option Expr} {fa : En → T W} {fl fh : En → T (Option Int)} {pos p2 : Pos} (ha : TrE X E e fa) (hl : TrO X E lo fl) (hh : TrO X E hi fh) : TrE X E (.Subscript e (.Slice lo hi none p2) pos) (fSl fa fl fh) :=
  pe_imp (pe_slice (slR_or sl_tupA sl_list) ha hl hh) fun σ H Q q => by
  obtain ⟨c, d, oa, ρ, e, q⟩ := q
  refine lift_then (P := fun c H => PQ X.K c H Q) e q (fun st p => p.later st) fun w v H1 d1 st1 r1 e1 h1 => ?_
  refine liftO_then (P := fun c H => PQ X.K c H Q) e1 h1 (fun st p => p.later st) fun l H2 d2 st2 e2 h2 => ?_
  refine liftO_then (P := fun c H => PQ X.K c H Q) e2 h2 (fun st p => p.later st) fun u H3 d3 st3 e3 h3 => ?_
  have r3 := (r1.step st2 e1.st e1.ok).step st3 e2.st e2.ok
  cases r3 with
  | tup hq rl =>
    refine .inl ⟨_, _, rfl, hq, fun z => ?_, fun z p hp => ?_⟩
    · rw [← rl.length] at z
      have h4 : PQ X.K c H3 Q d3 (.tup (cutW _ l u)) := h3
      rw [cut_all rfl z] at h4
      exact PQ.now e3.wd h4 (.tup hq rl)
    · exact h3 _ _ (.new hp) (e3.st.new hp) (.tup (SqT.of upd_same) ((rl.cut l u).step (.new hp) e3.st e3.ok))
  | lst n hq rl => exact .inr ⟨_, _, rfl, SqL.of hq, fun p hp => h3 _ _ (.new hp) (e3.st.new hp) (.lst (e3.wd.fresh hp) upd_same ((rl.cut l u).step (.new hp) e3.st e3.ok))⟩
  | _ => exact h3.elim
def manyW (k : Nat) (ws : List W) : List W := (List.replicate k ws).flatten
theorem RepL.many {c : Cc} {H : Hp} {ws : List W} {vs : List V} (r : RepL K c H ws vs) : ∀ (k : Nat), RepL K c H (manyW k ws) (List.replicate k vs).flatten
  | 0 => by
    unfold manyW
    simp only [List.replicate_zero, List.flatten_nil]
    exact .nil
  | k + 1 => by
    have := RepL.many r k
    unfold manyW at *
    rw [List.replicate_succ, List.replicate_succ, List.flatten_cons, List.flatten_cons]
    exact r.append this
@[irreducible] def tmulOk (n : Nat) (k : Int) : Bool := decide (0 < n ∧ n ≤ 1000 ∧ 2 ≤ k ∧ k ≤ 1000)
@[irreducible] def lmulOk (n : Nat) (k : Int) : Bool := rngOk k && decide (n * k.toNat ≤ 16777216)
def mulT : W → W → T W
  | .tup ws, .int k => if tmulOk ws.length k then .ok (.tup (manyW k.toNat ws)) else .bad
  | _, _ => .bad
def mul1 : W → W → T W
  | .tup ws, .int 1 => .ok (.tup ws)
  | _, _ => .bad
def mulL : W → W → T W
  | .lst ws, .int k => if lmulOk ws.length k then .ok (.lst (manyW k.toNat ws)) else .bad
  | _, _ => .bad
theorem sem_mulT : Sem2 K (rRepT K) mulT := fun c d H x y v u Q E' wd rx ry q => by
  cases rx with
  | tup hq rl =>
    cases ry with
    | int k =>
      obtain ⟨h, q⟩ := T.AllB.ite q
      unfold tmulOk at h
      obtain ⟨h0, h1, h2, h3⟩ := of_decide_eq_true h
      refine ⟨_, k, _, rfl, rfl, hq, fun z => ?_, h2, h3, by rw [← rl.length]; exact h1, fun p hp => q _ _ (.new hp) (wd.st.new hp) (.tup (SqT.of upd_same) ((rl.many _).step (.new hp) wd.st wd.ok))⟩
      rw [rl.length, z] at h0
      cases h0
    | _ => exact q.elim
  | _ => cases ry <;> exact q.elim
theorem sem_mul1 : Sem2 K (rRep1 K) mul1 := fun c d H x y v u Q E' wd rx ry q => by
  cases rx with
  | tup hq rl =>
    cases ry with
    | int k =>
      unfold mul1 at q
      split at q
      · rename_i e1 e2
        cases e1
        cases e2
        exact ⟨_, _, rfl, rfl, hq, PQ.now wd q (.tup hq rl)⟩
      · exact q.elim
    | _ => exact q.elim
  | _ => cases ry <;> exact q.elim
theorem sem_mulL : Sem2 K rRep mulL := fun c d H x y v u Q E' wd rx ry q => by
  cases rx with
  | lst n hq rl =>
    cases ry with
    | int k =>
      obtain ⟨h, q⟩ := T.AllB.ite q
      unfold lmulOk at h
      obtain ⟨h0, h2⟩ := Bool.and_eq_true_iff.mp h
      obtain ⟨h0, h1⟩ := rngOk_of h0
      have h2 := of_decide_eq_true h2
      exact ⟨_, k, _, rfl, rfl, hq, by omega, by omega, by rw [← rl.length, sizeLine_eq]; exact h2, fun p hp => q _ _ (.new hp) (wd.st.new hp) (.lst (wd.fresh hp) upd_same ((rl.many _).step (.new hp) wd.st wd.ok))⟩
    | _ => exact q.elim
  | _ => cases ry <;> exact q.elim
end
end PF
namespace PF
open PySem PySem.Spec PyProof.Rows L2
abbrev Cc.mine (c : Cc) (D : Addr) : Cc := { c with A := D :: c.A, M := D :: c.M }
abbrev Cc.less (c : Cc) (D : Addr) : Cc := { c with A := c.A.filter (fun b => decide (b ≠ D)), M := c.M.filter (fun b => decide (b ≠ D)) }
section
variable {K : PySem.W.Frag} {c : Cc} {d : Nat} {oa : Nat → Addr} {ρ : En} {σ : L2.St} {H H' : Hp} {D : Addr} {i : Nat}
theorem Rep.mine {w : W} {v : V} (h : Rep K (c.more D) H w v) : Rep K (c.mine D) H w v := Rep.weak (c := c.mine D) (c1 := c.more D) rfl (fun _ h => h) h
theorem RepL.mine {w : List W} {v : List V} (h : RepL K (c.more D) H w v) : RepL K (c.mine D) H w v := RepL.weak (c := c.mine D) (c1 := c.more D) rfl (fun _ h => h) h
theorem st_ne (so : StOk c d H) (n : H D = none) : D ∉ [c.S, c.ca, c.la] := by
  obtain ⟨cells, lefts, k, r, h1, h2, h3, _⟩ := so
  simp only [List.mem_cons, not_or, List.not_mem_nil, not_false_eq_true, and_true]
  exact ⟨Ne.symm (ne_of_none h1 n), Ne.symm (ne_of_none h2 n), Ne.symm (ne_of_none h3 n)⟩
/-- a list of the frame's own is laid -/
theorem EnvOk.mine {xs : List V} (e : EnvOk K c d oa ρ σ H) (n : H D = none) : EnvOk K (c.mine D) d oa ρ σ (L2.upd H D (.lst xs)) where
  ok := ⟨List.mem_cons_of_mem _ e.ok.inS, List.mem_cons_of_mem _ e.ok.inla, List.mem_cons_of_mem _ e.ok.inca⟩
  st := e.st.new n
  av := (e.more n).av
  len := e.len
  val := fun i w h => by
    obtain ⟨v, h1, h2⟩ := e.val i w h
    exact ⟨v, h1, (h2.more n (.new n) e.st e.ok).mine⟩
  m := ⟨fun b hb => by
      rcases List.mem_cons.mp hb with rfl | hb
      · exact List.mem_cons_self ..
      · exact List.mem_cons_of_mem _ (e.m.inA b hb), fun b hb => by
      rcases List.mem_cons.mp hb with rfl | hb
      · exact st_ne e.st n
      · exact e.m.nst b hb, fun b hb => by
      rcases List.mem_cons.mp hb with rfl | hb
      · exact ⟨_, upd_same, .inl ⟨_, rfl⟩⟩
      · obtain ⟨ys, h, w⟩ := e.m.ls b hb
        exact ⟨ys, by rw [upd_ne (ne_of_none h n)]; exact h, w⟩⟩
  own := fun i ws h => by
    obtain ⟨h1, h3, vs, h4, h5⟩ := e.own i ws h
    exact ⟨List.mem_cons_of_mem _ h1, h3, vs, by rw [upd_ne (ne_of_none h4 n)]; exact h4, (h5.more n (.new n) e.st e.ok).mine⟩
  inj := e.inj
  odc := fun i ws h => by
    obtain ⟨h1, h3, vs, h4, h5⟩ := e.odc i ws h
    exact ⟨List.mem_cons_of_mem _ h1, h3, vs, by rw [upd_ne (ne_of_none h4 n)]; exact h4, h5.1, (h5.2.more n (.new n) e.st e.ok).mine⟩
  ido := e.ido
  tT := e.tT
theorem Fwd.mine {o : HO} (n : H D = none) (wd : Wd c d H) : Fwd K c H (c.mine D) (L2.upd H D o) where
  S := rfl
  ca := rfl
  la := rfl
  T := rfl
  sub := fun b h _ => List.mem_cons_of_mem _ h
  fr := fun b h => by
    rcases List.mem_cons.mp h with rfl | h
    · have h0 := st_ne wd.st n
      simp only [List.mem_cons, not_or] at h0
      exact .inr ⟨wd.fresh n, h0.1, h0.2.2.1, n⟩
    · exact .inl h
  step := fun b o h _ _ _ _ => by
    rw [upd_ne (ne_of_none h n)]
    exact h
  tbl := fun b ps h _ => ⟨#[], by rw [upd_ne (ne_of_none h n), h]; simp⟩
  rep := fun w v r => (r.more n (.new n) wd.st wd.ok).mine
  sq := fun a vs h => (Step.new (c := c) n).sqT wd.st h
/-- a slot takes a list of the frame's own -/
theorem EnvOk.ownSet {ws : List W} {vs : List V} (e : EnvOk K c d oa ρ σ H) (hm : D ∈ c.M) (hl : H D = some (.lst vs)) (rl : RepL K c H ws vs) (ho : ∀ (j : Nat) (us : List W), j ≠ i → ρ[j]? = some (.own us) → oa j ≠ D) :
    EnvOk K c d (fun j => if j = i then D else oa j) (ρ.set i (.own ws)) (σ.set i (some (.ref D))) H where
  ok := e.ok
  st := e.st
  av := e.av
  m := e.m
  len := by rw [List.length_set, List.length_set]; exact e.len
  val := fun j x h => by
    rcases getElem?_set_or h with ⟨ej, ex⟩ | ⟨n, h'⟩
    · cases ex
    · obtain ⟨u, h1, h2⟩ := e.val j x h'
      exact ⟨u, by rw [List.getElem?_set_ne (Ne.symm n)]; exact h1, h2⟩
  own := fun j x h => by
    rcases getElem?_set_or h with ⟨ej, ex⟩ | ⟨n, h'⟩
    · cases ex
      subst ej
      have hj : j < σ.length := by
        by_cases hl : j < ρ.length
        · rw [← e.len]
          exact hl
        · rw [List.getElem?_eq_none (by simpa using hl)] at h
          cases h
      rw [if_pos rfl]
      exact ⟨hm, by rw [List.getElem?_set_self hj], vs, hl, rl⟩
    · obtain ⟨h1, h3, h4⟩ := e.own j x h'
      rw [if_neg n]
      exact ⟨h1, by rw [List.getElem?_set_ne (Ne.symm n)]; exact h3, h4⟩
  inj := fun a b x y h1 h2 he => by
    rcases getElem?_set_or h1 with ⟨ea, _⟩ | ⟨na, h1'⟩
    · rcases getElem?_set_or h2 with ⟨eb, _⟩ | ⟨nb, h2'⟩
      · rw [ea, eb]
      · rw [ea, if_pos rfl, if_neg nb] at he
        exact absurd he.symm (ho b y nb h2')
    · rcases getElem?_set_or h2 with ⟨eb, _⟩ | ⟨nb, h2'⟩
      · rw [eb, if_pos rfl, if_neg na] at he
        exact absurd he (ho a x na h1')
      · rw [if_neg na, if_neg nb] at he
        exact e.inj a b x y h1' h2' he
  odc := fun j x h => by
    rcases getElem?_set_or h with ⟨ej, ex⟩ | ⟨n, h'⟩
    · cases ex
    · obtain ⟨h1, h3, h4⟩ := e.odc j x h'
      rw [if_neg n]
      exact ⟨h1, by rw [List.getElem?_set_ne (Ne.symm n)]; exact h3, h4⟩
  ido := fun a b x y h1 h2 he => by
    rcases getElem?_set_or h1 with ⟨ea, ex⟩ | ⟨na, h1'⟩
    · cases ex
    · rcases getElem?_set_or h2 with ⟨eb, ex⟩ | ⟨nb, h2'⟩
      · cases ex
      · rw [if_neg na, if_neg nb] at he
        exact e.ido a b x y h1' h2' he
  tT := e.tT
theorem EnvOk.ownNe {a : Addr} (e : EnvOk K c d oa ρ σ H) (n : H a = none) : ∀ (j : Nat) (us : List W), j ≠ i → ρ[j]? = some (.own us) → oa j ≠ a := fun j us _ h => by
  obtain ⟨_, _, zs, h4, _⟩ := e.own j us h
  exact ne_of_none h4 n
/-- one of them is changed -/
theorem EnvOk.ownUpd {ws us : List W} {ys : List V} (e : EnvOk K c d oa ρ σ H) (h : ρ[i]? = some (.own ws)) (rl : RepL K c H us ys) :
    EnvOk K c d oa (ρ.set i (.own us)) σ (L2.upd H (oa i) (.lst ys)) ∧ Fwd K c H c (L2.upd H (oa i) (.lst ys)) := by
  obtain ⟨h1, h3, vs, h4, h5⟩ := e.own i ws h
  have hA := e.m.inA _ h1
  have hn := e.m.nst _ h1
  have up : ∀ {w : W} {v : V}, Rep K c H w v → Rep K c (L2.upd H (oa i) (.lst ys)) w v := fun r => r.upd hA h4 (fun _ z => by cases z) (fun _ _ z => by cases z)
  have upl : ∀ {w : List W} {v : List V}, RepL K c H w v → RepL K c (L2.upd H (oa i) (.lst ys)) w v := fun r => r.upd hA h4 (fun _ z => by cases z) (fun _ _ z => by cases z)
  refine ⟨?_, rfl, rfl, rfl, rfl, fun b hb _ => hb, fun b hb => .inl hb, fun b o hb _ _ nm _ => ?_, fun b ps hb nm => ⟨#[], by rw [upd_ne (fun z => nm (by rw [z]; exact h1)), hb]; simp⟩, fun w v r => up r, fun a vs h => sqT_upd h4 (fun _ z => by cases z) (fun _ _ z => by cases z) h⟩
  · exact {
      ok := e.ok
      st := e.st.upd hn h4
      av := fun b hb => by
        by_cases hb' : b = oa i
        · rw [hb']
          exact ⟨_, upd_same⟩
        · obtain ⟨o, h⟩ := e.av b hb
          exact ⟨o, by rw [upd_ne hb']; exact h⟩
      m := ⟨e.m.inA, e.m.nst, fun b hb => by
        by_cases hb' : b = oa i
        · rw [hb']
          exact ⟨_, upd_same, .inl ⟨_, rfl⟩⟩
        · obtain ⟨xs, h, w⟩ := e.m.ls b hb
          exact ⟨xs, by rw [upd_ne hb']; exact h, w⟩⟩
      len := by rw [List.length_set]; exact e.len
      val := fun j x hx => by
        rcases getElem?_set_or hx with ⟨ej, ex⟩ | ⟨n, h'⟩
        · cases ex
        · obtain ⟨u, g1, g2⟩ := e.val j x h'
          exact ⟨u, g1, up g2⟩
      own := fun j x hx => by
        rcases getElem?_set_or hx with ⟨ej, ex⟩ | ⟨n, h'⟩
        · cases ex
          subst ej
          exact ⟨h1, h3, ys, upd_same, upl rl⟩
        · obtain ⟨g1, g3, zs, g4, g5⟩ := e.own j x h'
          exact ⟨g1, g3, zs, by rw [upd_ne (fun z => n (e.inj j i x ws h' h z))]; exact g4, upl g5⟩
      inj := fun a b x y g1 g2 he => by
        have f : ∀ {a : Nat} {x : List W}, (ρ.set i (.own us))[a]? = some (.own x) → ∃ x', ρ[a]? = some (.own x') := fun g => by
          rcases getElem?_set_or g with ⟨ea, _⟩ | ⟨_, g'⟩
          · exact ⟨ws, by rw [ea]; exact h⟩
          · exact ⟨_, g'⟩
        obtain ⟨x', f1⟩ := f g1
        obtain ⟨y', f2⟩ := f g2
        exact e.inj a b x' y' f1 f2 he
      odc := fun j x hx => by
        rcases getElem?_set_or hx with ⟨ej, ex⟩ | ⟨n, h'⟩
        · cases ex
        · obtain ⟨g1, g3, zs, g4, g5⟩ := e.odc j x h'
          have ne : oa j ≠ oa i := fun z => by
            rw [z, h4] at g4
            cases g4
          exact ⟨g1, g3, zs, by rw [upd_ne ne]; exact g4, g5.1, upl g5.2⟩
      ido := fun a b x y g1 g2 he => by
        rcases getElem?_set_or g1 with ⟨_, ex⟩ | ⟨_, g1'⟩
        · cases ex
        · rcases getElem?_set_or g2 with ⟨_, ex⟩ | ⟨_, g2'⟩
          · cases ex
          · exact e.ido a b x y g1' g2' he
      tT := e.tT }
  · rw [upd_ne (fun z => nm (by rw [z]; exact h1))]
    exact hb
/-- one of them becomes plain data -/
theorem Fwd.less (m : MOk c H) (hm : D ∈ c.M) : Fwd K c H (c.less D) H where
  S := rfl
  ca := rfl
  la := rfl
  T := rfl
  sub := fun b h n => List.mem_filter.mpr ⟨h, decide_eq_true (fun z => n (by rw [z]; exact hm))⟩
  fr := fun b h => .inl (List.mem_filter.mp h).1
  step := fun b o h _ _ _ _ => h
  tbl := fun b ps h _ => ⟨#[], by rw [h]; simp⟩
  rep := fun w v r => Rep.weak (c := c.less D) (c1 := c) rfl (fun b hb => (List.mem_filter.mp hb).1) r
  sq := fun a vs h => h
def frz (i : Nat) (ρ : En) : En := match ρ[i]? with
  | some (.own ws) => ρ.set i (.val (.lst ws))
  | some (.odc kvs) => ρ.set i (.val (.dct (kvs.map (·.1)) (kvs.map (·.2))))
  | _ => ρ
theorem EnvOk.frz (e : EnvOk K c d oa ρ σ H) (i : Nat) : ∃ c', EnvOk K c' d oa (frz i ρ) σ H ∧ Fwd K c H c' H ∧ c'.S = c.S ∧ c'.ca = c.ca ∧ c'.la = c.la ∧ c'.T = c.T := by
  unfold PF.frz
  split
  · rename_i ws h
    obtain ⟨h1, h3, vs, h4, h5⟩ := e.own i ws h
    have hn := e.m.nst _ h1
    simp only [List.mem_cons, not_or] at hn
    have wk : ∀ {w : W} {v : V}, Rep K c H w v → Rep K (c.less (oa i)) H w v := fun r => Rep.weak (c := c.less (oa i)) (c1 := c) rfl (fun b hb => (List.mem_filter.mp hb).1) r
    have wkl : ∀ {w : List W} {v : List V}, RepL K c H w v → RepL K (c.less (oa i)) H w v := fun r => RepL.weak (c := c.less (oa i)) (c1 := c) rfl (fun b hb => (List.mem_filter.mp hb).1) r
    refine ⟨c.less (oa i), ?_, Fwd.less e.m h1, rfl, rfl, rfl, rfl⟩
    exact {
      ok := ⟨List.mem_filter.mpr ⟨e.ok.inS, decide_eq_true (Ne.symm hn.1)⟩, List.mem_filter.mpr ⟨e.ok.inla, decide_eq_true (Ne.symm hn.2.2.1)⟩, List.mem_filter.mpr ⟨e.ok.inca, decide_eq_true (Ne.symm hn.2.1)⟩⟩
      st := e.st
      av := fun b hb => e.av b (List.mem_filter.mp hb).1
      m := ⟨fun b hb => List.mem_filter.mpr ⟨e.m.inA b (List.mem_filter.mp hb).1, (List.mem_filter.mp hb).2⟩, fun b hb => e.m.nst b (List.mem_filter.mp hb).1, fun b hb => e.m.ls b (List.mem_filter.mp hb).1⟩
      len := by rw [List.length_set]; exact e.len
      val := fun j x hx => by
        rcases getElem?_set_or hx with ⟨ej, ex⟩ | ⟨n, h'⟩
        · cases ex
          subst ej
          exact ⟨_, h3, .lst (fun z => of_decide_eq_true (List.mem_filter.mp z).2 rfl) h4 (wkl h5)⟩
        · obtain ⟨u, g1, g2⟩ := e.val j x h'
          exact ⟨u, g1, wk g2⟩
      own := fun j x hx => by
        rcases getElem?_set_or hx with ⟨ej, ex⟩ | ⟨n, h'⟩
        · cases ex
        · obtain ⟨g1, g3, zs, g4, g5⟩ := e.own j x h'
          exact ⟨List.mem_filter.mpr ⟨g1, decide_eq_true fun z => n (e.inj j i x ws h' h z)⟩, g3, zs, g4, wkl g5⟩
      inj := fun a b x y g1 g2 he => by
        rcases getElem?_set_or g1 with ⟨_, ex⟩ | ⟨_, g1'⟩
        · cases ex
        · rcases getElem?_set_or g2 with ⟨_, ex⟩ | ⟨_, g2'⟩
          · cases ex
          · exact e.inj a b x y g1' g2' he
      odc := fun j x hx => by
        rcases getElem?_set_or hx with ⟨ej, ex⟩ | ⟨n, h'⟩
        · cases ex
        · obtain ⟨g1, g3, zs, g4, g5⟩ := e.odc j x h'
          exact ⟨List.mem_filter.mpr ⟨g1, decide_eq_true fun z => by
            rw [z, h4] at g4
            cases g4⟩, g3, zs, g4, g5.1, wkl g5.2⟩
      ido := fun a b x y g1 g2 he => by
        rcases getElem?_set_or g1 with ⟨_, ex⟩ | ⟨_, g1'⟩
        · cases ex
        · rcases getElem?_set_or g2 with ⟨_, ex⟩ | ⟨_, g2'⟩
          · cases ex
          · exact e.ido a b x y g1' g2' he
      tT := e.tT }
  · rename_i kvs h
    obtain ⟨h1, h3, vs, h4, h5⟩ := e.odc i kvs h
    have hn := e.m.nst _ h1
    simp only [List.mem_cons, not_or] at hn
    have wk : ∀ {w : W} {v : V}, Rep K c H w v → Rep K (c.less (oa i)) H w v := fun r => Rep.weak (c := c.less (oa i)) (c1 := c) rfl (fun b hb => (List.mem_filter.mp hb).1) r
    have wkl : ∀ {w : List W} {v : List V}, RepL K c H w v → RepL K (c.less (oa i)) H w v := fun r => RepL.weak (c := c.less (oa i)) (c1 := c) rfl (fun b hb => (List.mem_filter.mp hb).1) r
    refine ⟨c.less (oa i), ?_, Fwd.less e.m h1, rfl, rfl, rfl, rfl⟩
    exact {
      ok := ⟨List.mem_filter.mpr ⟨e.ok.inS, decide_eq_true (Ne.symm hn.1)⟩, List.mem_filter.mpr ⟨e.ok.inla, decide_eq_true (Ne.symm hn.2.2.1)⟩, List.mem_filter.mpr ⟨e.ok.inca, decide_eq_true (Ne.symm hn.2.1)⟩⟩
      st := e.st
      av := fun b hb => e.av b (List.mem_filter.mp hb).1
      m := ⟨fun b hb => List.mem_filter.mpr ⟨e.m.inA b (List.mem_filter.mp hb).1, (List.mem_filter.mp hb).2⟩, fun b hb => e.m.nst b (List.mem_filter.mp hb).1, fun b hb => e.m.ls b (List.mem_filter.mp hb).1⟩
      len := by rw [List.length_set]; exact e.len
      val := fun j x hx => by
        rcases getElem?_set_or hx with ⟨ej, ex⟩ | ⟨n, h'⟩
        · cases ex
          subst ej
          refine ⟨_, h3, ?_⟩
          rw [h5.1]
          exact .dct (fun z => of_decide_eq_true (List.mem_filter.mp z).2 rfl) h4 (wkl h5.2)
        · obtain ⟨u, g1, g2⟩ := e.val j x h'
          exact ⟨u, g1, wk g2⟩
      own := fun j x hx => by
        rcases getElem?_set_or hx with ⟨ej, ex⟩ | ⟨n, h'⟩
        · cases ex
        · obtain ⟨g1, g3, zs, g4, g5⟩ := e.own j x h'
          exact ⟨List.mem_filter.mpr ⟨g1, decide_eq_true fun z => by
            rw [z, h4] at g4
            cases g4⟩, g3, zs, g4, wkl g5⟩
      inj := fun a b x y g1 g2 he => by
        rcases getElem?_set_or g1 with ⟨_, ex⟩ | ⟨_, g1'⟩
        · cases ex
        · rcases getElem?_set_or g2 with ⟨_, ex⟩ | ⟨_, g2'⟩
          · cases ex
          · exact e.inj a b x y g1' g2' he
      odc := fun j x hx => by
        rcases getElem?_set_or hx with ⟨ej, ex⟩ | ⟨n, h'⟩
        · cases ex
        · obtain ⟨g1, g3, zs, g4, g5⟩ := e.odc j x h'
          exact ⟨List.mem_filter.mpr ⟨g1, decide_eq_true fun z => n (e.ido j i x kvs h' h z)⟩, g3, zs, g4, g5.1, wkl g5.2⟩
      ido := fun a b x y g1 g2 he => by
        rcases getElem?_set_or g1 with ⟨_, ex⟩ | ⟨_, g1'⟩
        · cases ex
        · rcases getElem?_set_or g2 with ⟨_, ex⟩ | ⟨_, g2'⟩
          · cases ex
          · exact e.ido a b x y g1' g2' he
      tT := e.tT }
  · exact ⟨c, e, .refl, rfl, rfl, rfl, rfl⟩
end
def sOwn (i : Nat) (fs : En → T (List W)) : En → T (Fl × En) := fun ρ => (fs ρ).bind fun ws => if sizeOk ws then .ok (.nx, ρ.set i (.own ws)) else .bad
def seqW : W → T (List W)
  | .lst ws => .ok ws
  | .tup ws => .ok ws
  | _ => .bad
def sOwnOf (i : Nat) (f : En → T W) : En → T (Fl × En) := fun ρ => (f ρ).bind fun w => (seqW w).bind fun ws => .ok (.nx, ρ.set i (.own ws))
def sOwnPar (i j : Nat) (fs : En → T (List W)) : En → T (Fl × En) := fun ρ => (fs ρ).bind fun ws => match ws with
  | [w] => .ok (.nx, (ρ.set i (.own [])).set j (.val w))
  | _ => .bad
@[irreducible] def roomOk (ws : List W) : Bool := decide (ws.length < 16777216)
def sApp (i : Nat) (f : En → T (List W)) : En → T (Fl × En) := fun ρ => match ρ[i]? with
  | some (.own ws) => (f ρ).bind fun xs => match xs with
    | [w] => if roomOk ws then .ok (.nx, ρ.set i (.own (ws ++ [w]))) else .bad
    | _ => .bad
  | _ => .bad
def sExt (i : Nat) (f : En → T (List W)) : En → T (Fl × En) := fun ρ => match ρ[i]? with
  | some (.own ws) => (f ρ).bind fun xs => match xs with
    | [.lst us] => if sizeOk (ws ++ us) then .ok (.nx, ρ.set i (.own (ws ++ us))) else .bad
    | _ => .bad
  | _ => .bad
def onFrz {α : Type} (i : Nat) (g : En → T α) : En → T α := fun ρ => g (frz i ρ)
/-- .. where nothing may be raised -/
def onFrzN {α : Type} (i : Nat) (g : En → T α) : En → T α := fun ρ => noX (g (frz i ρ))
@[simp] theorem noX_ok {α : Type} (a : α) : noX (.ok a : T α) = .ok a := rfl
@[simp] theorem noX_bad {α : Type} : noX (.bad : T α) = .bad := rfl
@[simp] theorem noX_bind {α β : Type} (f : α → T β) : ∀ t : T α, noX (t.bind f) = (noX t).bind fun a => noX (f a)
  | .ok a => rfl
  | .exc _ _ => rfl
  | .bad => rfl
  | .ask n k => by
    show T.ask n (fun i => noX ((k i).bind f)) = T.ask n fun i => (noX (k i)).bind fun a => noX (f a)
    congr 1
    funext i
    exact noX_bind f (k i)
section
variable {X : Cx} {E : XK} {st : Stmt} {e : Expr} {es : List Expr} {g : En → T (Fl × En)} {f : En → T W} {fs : En → T (List W)} {pos pos' p2 : Pos}
theorem tr_frz (i : Nat) (h : TrS X E st g) : TrS X E st (onFrz i g) := ps_imp h fun D σ H q => by
  obtain ⟨c, d, oa, ρ, e, q⟩ := q
  obtain ⟨c', e', fw, _⟩ := e.frz i
  exact ⟨c', d, oa, _, e', T.AllB.imp (fun _ _ y => y.later fw) (fun _ _ _ y => y.fwd fw) q⟩
theorem Step.as {c c' : Cc} {H H' : Hp} (hS : c'.S = c.S) (hl : c'.la = c.la) (st : Step c' H H') : Step c H H' := ⟨fun b o hb h1 h2 h3 => st.keep b o hb (by rw [hS]; exact h1) (by rw [hl]; exact h2) h3, st.tbl⟩
theorem StOk.as {c c' : Cc} {d : Nat} {H : Hp} (hS : c'.S = c.S) (hc : c'.ca = c.ca) (hl : c'.la = c.la) (hT : c'.T = c.T) (so : StOk c' d H) : StOk c d H := by
  obtain ⟨cells, lefts, k, r, h1, h2, h3, h4, h5, h6, h7, h8, h9⟩ := so
  rw [hS, hc, hl] at h1
  rw [hc] at h2
  rw [hl] at h3
  rw [hc, hl] at h8
  rw [hT] at h9
  exact ⟨cells, lefts, k, r, h1, h2, h3, h4, h5, h6, h7, h8, h9⟩
theorem PB.of {c c' : Cc} {H : Hp} {Q : Bool → Hp → Prop} {d : Nat} {b : Bool} (hS : c'.S = c.S) (hc : c'.ca = c.ca) (hl : c'.la = c.la) (hT : c'.T = c.T) (h : PB c H Q d b) : PB c' H Q d b := fun H' st so => h H' (st.as hS hl) (so.as hS hc hl hT)
theorem trb_frz {E : WX} {t : En → T Bool} (i : Nat) (h : TrB X E e t) : TrB X E e (onFrzN i t) := pt_imp h fun σ H Q q => by
  obtain ⟨c, d, oa, ρ, e, q⟩ := q
  obtain ⟨c', e', fw, h1, h2, h3, h4⟩ := e.frz i
  exact ⟨c', d, oa, _, e', noX_all (T.AllB.imp (fun _ _ y => PB.of h1 h2 h3 h4 y) (fun _ _ _ y => y) q)⟩
def flat : W → T W
  | .non => .ok .non
  | .bl b => .ok (.bl b)
  | .int i => .ok (.int i)
  | .str x => .ok (.str x)
  | _ => .bad
theorem tre_frz {E : WX} (i : Nat) (h : TrE X E e f) : TrE X E e (fun ρ => (onFrzN i f ρ).bind flat) := pe_imp h fun σ H Q q => by
  obtain ⟨c, d, oa, ρ, e, q⟩ := q
  obtain ⟨c', e', fw, h1, h2, h3, h4⟩ := e.frz i
  refine ⟨c', d, oa, _, e', noX_all (T.AllB.imp (fun d1 w y => ?_) (fun _ _ _ y => y) (T.allB_bind.mp q))⟩
  intro v H' st so r
  have st' : Step c H H' := st.as h1 h3
  have so' : StOk c d1 H' := so.as h1 h2 h3 h4
  cases r with
  | non => exact y _ H' st' so' .non
  | bl b => exact y _ H' st' so' (.bl b)
  | int k => exact y _ H' st' so' (.int k)
  | str x => exact y _ H' st' so' (.str x)
  | _ => exact y.elim
theorem tr_own {i : Nat} {x : Str} (hN : X.N.Nodup) (hi : X.N[i]? = some x) (hx : L2.Loc X.env.scope x) (he : TrA X (wOf E) es fs) (hs : swapsWith (.List es p2) (some (.Name x pos')) pos.line X.env = pure false := by rfl)
    (hf : X.fn x = true ∨ X.env.scope.names.lookup x = some .local := by first | exact .inl rfl | exact .inr rfl | assumption) : TrS X E (.Assign [.Name x pos'] (.List es p2) pos) (sOwn i fs) := ps_imp (ps_set hN hi hx (pe_lst he) hs hf) fun D σ H q => by
  obtain ⟨c, d, oa, ρ, e, q⟩ := q
  refine liftA_thenS (P := fun c H => PSq X.K c H D) e q (fun st p => p.later (.of st e.wd)) fun ws vs H1 d1 _ r1 e1 h1 => ?_
  obtain ⟨hz, h1⟩ := T.AllB.ite h1
  refine ⟨by rw [← r1.length]; exact sizeOk_of hz, fun p hp => ?_⟩
  exact h1 _ _ _ _ (Fwd.mine hp e1.wd) ((e1.mine hp).ownSet (List.mem_cons_self ..) upd_same ((r1.more hp (.new hp) e1.st e1.ok).mine) (EnvOk.ownNe e1 hp))
theorem tr_ownPar {i j : Nat} (ne : i ≠ j) (hp : PS X st (tPar i j (tCons (tLst tNil) (liftA X.K (wOf E) fs)))) : TrS X E st (sOwnPar i j fs) := ps_imp hp fun D σ H q => by
  obtain ⟨c, d, oa, ρ, e, q⟩ := q
  refine ⟨by rw [sizeLine_eq]; decide, fun p hp => ?_⟩
  have e0 := e.mine (xs := []) hp
  have q0 : (sOwnPar i j fs ρ).AllB (PSq X.K (c.mine p) (L2.upd H p (.lst [])) D) (PXs X.K (c.mine p) (L2.upd H p (.lst [])) E) d := T.AllB.imp (fun _ _ y => y.later (Fwd.mine hp e.wd)) (fun _ _ _ y => y.fwd (Fwd.mine hp e.wd)) q
  refine liftA_thenS (P := fun c H => PSq X.K c H D) e0 q0 (fun st p => p.later (.of st e0.wd)) fun ws vs H1 d1 st1 r1 e1 h1 => ?_
  cases r1 with
  | nil => exact h1.elim
  | cons r rr =>
    cases rr with
    | cons _ _ => exact h1.elim
    | nil =>
      have hq : H1 p = some (.lst []) := st1.keep p _ upd_same (fun z => by have := st_ne e.st hp; simp only [List.mem_cons, not_or] at this; exact this.1 z) (fun z => by have := st_ne e.st hp; simp only [List.mem_cons, not_or] at this; exact this.2.2.1 z) nofun
      refine ⟨_, _, rfl, h1 _ _ _ H1 .refl ((e1.ownSet (D := p) (i := i) (List.mem_cons_self ..) hq .nil (EnvOk.ownNe e hp)).set r)⟩
theorem tr_app {i : Nat} {apos cpos : Pos} (ho : PE X e (tVar i)) (ha : TrA X (wOf E) [a] fs) (hb : attributeBase e "append" X.env (eval e X.env) = eval e X.env := by rfl)
    (h1 : (((backTo cpos (starEach [a] X.env)).all fun x => !x.1) && ((backToKw cpos (keywordEach [] X.env)).all fun x => x.1.isSome) && decide (([a].length + ([] : List Keyword).length + if ([] : List Keyword).isEmpty = true then 0 else 1) < 30)) = true := by rfl) (h2 : (apos.endLine == cpos.line) = true := by rfl)
    (h3 : starEach [a] X.env = (false, eval a X.env) :: starEach [] X.env := by rfl) (h4 : ((backTo cpos (starEach [] X.env)).any fun x => x.1) = false := by rfl)
    (hs : swapsWith (.Call (.Attribute e "append" apos) [a] [] cpos) none pos.line X.env = pure false := by rfl) :
    TrS X E (.Expr (.Call (.Attribute e "append" apos) [a] [] cpos) pos) (sApp i fs) := ps_imp (ps_expr (pe_bm PySem.F.plainAttrs_list PySem.F.slot_list_append PySem.F.type_list_append mt_append ho ha hb h1 h2 h3 h4) hs) fun D σ H q => by
  obtain ⟨c, d, oa, ρ, e, q⟩ := q
  unfold sApp at q
  split at q
  · rename_i ws hw
    obtain ⟨m1, m2, vs, m3, m4⟩ := e.own i ws hw
    refine ⟨_, m2, .inl ⟨rfl, _, SqL.of m3⟩, liftA_thenS (P := fun c H => PSq X.K c H D) e q (fun st p => p.later (.of st e.wd)) fun us zs H1 d1 st1 r1 e1 h1 => ?_⟩
    cases r1 with
    | nil => exact h1.elim
    | cons r rr =>
      cases rr with
      | cons _ _ => exact h1.elim
      | nil =>
        obtain ⟨hz, h1⟩ := T.AllB.ite h1
        obtain ⟨m1', m2', vs', m3', m4'⟩ := e1.own i ws hw
        obtain ⟨e2, fw2⟩ := e1.ownUpd hw (m4'.append (.cons r .nil))
        unfold roomOk at hz
        exact ⟨_, _, _, rfl, rfl, m3', by rw [← m4'.length, sizeLine_eq]; exact of_decide_eq_true hz, h1 _ _ _ _ fw2 e2⟩
  · exact q.elim
theorem tr_ext {i : Nat} {apos cpos : Pos} (ho : PE X e (tVar i)) (ha : TrA X (wOf E) [a] fs) (hb : attributeBase e "extend" X.env (eval e X.env) = eval e X.env := by rfl)
    (h1 : (((backTo cpos (starEach [a] X.env)).all fun x => !x.1) && ((backToKw cpos (keywordEach [] X.env)).all fun x => x.1.isSome) && decide (([a].length + ([] : List Keyword).length + if ([] : List Keyword).isEmpty = true then 0 else 1) < 30)) = true := by rfl) (h2 : (apos.endLine == cpos.line) = true := by rfl)
    (h3 : starEach [a] X.env = (false, eval a X.env) :: starEach [] X.env := by rfl) (h4 : ((backTo cpos (starEach [] X.env)).any fun x => x.1) = false := by rfl)
    (hs : swapsWith (.Call (.Attribute e "extend" apos) [a] [] cpos) none pos.line X.env = pure false := by rfl) :
    TrS X E (.Expr (.Call (.Attribute e "extend" apos) [a] [] cpos) pos) (sExt i fs) := ps_imp (ps_expr (pe_bm PySem.F.plainAttrs_list PySem.F.slot_list_extend PySem.F.type_list_extend mt_extend ho ha hb h1 h2 h3 h4) hs) fun D σ H q => by
  obtain ⟨c, d, oa, ρ, e, q⟩ := q
  unfold sExt at q
  split at q
  · rename_i ws hw
    obtain ⟨m1, m2, vs, m3, m4⟩ := e.own i ws hw
    refine ⟨_, m2, .inl ⟨rfl, _, SqL.of m3⟩, liftA_thenS (P := fun c H => PSq X.K c H D) e q (fun st p => p.later (.of st e.wd)) fun us zs H1 d1 st1 r1 e1 h1 => ?_⟩
    cases r1 with
    | nil => exact h1.elim
    | cons r rr =>
      cases rr with
      | cons _ _ => cases r <;> exact h1.elim
      | nil =>
        cases r with
        | lst n hq rl =>
          obtain ⟨hz, h1⟩ := T.AllB.ite h1
          obtain ⟨m1', m2', vs', m3', m4'⟩ := e1.own i ws hw
          obtain ⟨e2, fw2⟩ := e1.ownUpd hw (m4'.append rl)
          have := sizeOk_of hz
          rw [List.length_append, m4'.length, rl.length] at this
          exact ⟨_, _, _, _, rfl, rfl, m3', hq, this, h1 _ _ _ _ fw2 e2⟩
        | _ => exact h1.elim
  · exact q.elim
end
section
variable {X : Cx} {E : WX} {a b cc : Expr} {fa fb fc : En → T W} {g g' : W → W → T W} {r r' : R2} {pos : Pos}
theorem chain_ok (hs : Sem2 X.K r g) (hs' : Sem2 X.K r' g') : ∀ σ H Q, liftE X.K E (fCh g g' fa fb fc) σ H Q → tChain r r' (liftE X.K E fa) (liftE X.K E fb) (liftE X.K E fc) σ H Q := fun σ H Q h => by
  obtain ⟨c, d, oa, ρ, e, h⟩ := h
  refine lift_then (P := fun c H => PQ X.K c H Q) e h (fun st p => p.later st) fun w v H1 d1 _ r1 e1 h1 => ?_
  refine lift_then (P := fun c H => PQ X.K c H Q) e1 h1 (fun st p => p.later st) fun w2 v2 H2 d2 st2 r2 e2 h2 => ?_
  refine hs c d2 H2 w w2 v v2 _ _ e2.wd (r1.step st2 e1.st e1.ok) r2 (T.AllB.imp (fun d3 z hz => ?_) (fun _ _ _ y => y) (T.allB_bind.mp h2))
  intro vz H3 st3 so3 rz
  have e3 := e2.step st3 so3
  cases z with
  | bl k =>
    cases rz
    refine ⟨k, rfl, ?_⟩
    cases k with
    | false => exact iteF (PQ.now e3.wd (PQ.later st3 hz) (.bl false))
    | true =>
      refine iteT (lift_then (P := fun c H => PQ X.K c H Q) e3 (T.AllB.imp (fun _ _ y => y.later st3) (fun _ _ _ y => y.later st3) hz) (fun st p => p.later st) fun w4 v4 H4 d4 st4 r4 e4 h4 => ?_)
      exact hs' c d4 H4 w2 w4 v2 v4 Q _ e4.wd ((r2.step st3 e2.st e2.ok).step st4 e3.st e3.ok) r4 h4
  | _ => exact hz.elim
theorem trb_chain {op op' : CmpOp} (ho : OpR X (compareOp op) r) (ho' : OpR X (compareOp op') r') (hs : Sem2 X.K r g) (hs' : Sem2 X.K r' g') (ha : TrE X E a fa) (hb : TrE X E b fb) (hc : TrE X E cc fc)
    (hm : lastMarks [op, op'] [b, cc] = false := by with_unfolding_all rfl) : TrB X E (.Compare a [op, op'] [b, cc] pos) (fBl (fCh g g' fa fb fc)) := trb_of (pt_chain ho ho' ha hb hc hm) (chain_ok hs hs')
end
def mulTA (x y : W) : T W := match y with
  | .int 1 => mul1 x (.int 1)
  | .int k => mulT x (.int k)
  | _ => .bad
theorem sem_mulTA {K : PySem.W.Frag} : Sem2 K (fun x y H Q => rRep1 K x y H Q ∨ rRepT K x y H Q) mulTA := sem_or1 sem_mul1 sem_mulT fun x y => by
  unfold mulTA
  split
  · exact .inl rfl
  · exact .inr rfl
  · rename_i h1 h2
    right
    cases x <;> cases y <;> first | rfl | exact absurd rfl (h2 _)
theorem op_mulTA {X : Cx} : OpR X (binaryOp .Mult) (fun x y H Q => rRep1 X.K x y H Q ∨ rRepT X.K x y H Q) := opR_or op_rep1 op_repT
section
variable {X : Cx} {E : XK} {elt tg iter : Expr} {ifs : List Expr} {scope : Scope} {own : List (Str × Nat)} {pos spos py : Pos} {fi : En → T (List W)} {ns : List Nat} {G : W → En → Option En} {tt : En → T Bool} {fe : En → T W}
theorem tr_setLc {i : Nat} {y : Str} (hc : X.calm = true) (hN : X.N.Nodup) (hy : X.N[i]? = some y) (hyl : X.env.scope.names.lookup y = some .local) (hsw : swapsWith (.ListComp elt [⟨tg, iter, ifs, 0⟩] scope pos) (some (.Name y py)) spos.line X.env = pure true)
    (hi : TrI X (wOf E) tg iter fi) (ok : BlkOk X.N X.env.scope scope own) (hs : ∀ i ∈ ns, i ∈ own.map (·.2))
    (hg : ∀ (s : Shared) (H : Hp) (C : Addr) (cl : List (Str × Addr)) (fp : List Addr), TrG (X.blk s H scope (compEnvC scope cl C X.env) fp) tg ns G) (ht : ∀ (s : Shared) (H : Hp) (C : Addr) (cl : List (Str × Addr)) (fp : List Addr), TrTs (X.blk s H scope (compEnvC scope cl C X.env) fp) ifs tt)
    (he : ∀ (s : Shared) (H : Hp) (C : Addr) (cl : List (Str × Addr)) (fp : List Addr), TrE (X.blk s H scope (compEnvC scope cl C X.env) fp) noW elt fe) (hf : ∀ x, foldedSetIterable iter X.env x = pure x := by intro _; rfl) :
    TrS X E (.Assign [.Name y py] (.ListComp elt [⟨tg, iter, ifs, 0⟩] scope pos) spos) (sSet i (fComp (own.map (·.2)) fi G tt fe)) := ps_imp (ps_setLc (g := liftG X.K ns G) (tt := liftB X.K noW tt) (te := liftE X.K noW fe) hc hN hy hyl hsw hi ok hg ht he hf) fun D σ H q => by
  obtain ⟨c, d, oa, ρ, e, q⟩ := q
  refine comp_ok (E := wOf E) hs σ H _ (lift_thenS (P := fun c H => PSq X.K c H D) e q (fun st p => p.later (.of st e.wd)) fun w v H1 d1 _ r1 e1 h1 => ?_)
  exact h1 c oa _ H1 .refl (e1.set r1)
end
@[simp] theorem sumW_lst (ns : List Int) : sumW [.lst (ns.map W.int)] = .ok (.int ns.sum) := by simp [sumW]
@[simp] theorem sumW_tup (ns : List Int) : sumW [.tup (ns.map W.int)] = .ok (.int ns.sum) := by simp [sumW]
@[simp] theorem tupOfW_lst (ws : List W) : tupOfW [.lst ws] = .ok (.tup ws) := rfl
@[simp] theorem tupOfW_tup (ws : List W) : tupOfW [.tup ws] = .ok (.tup ws) := rfl
@[simp] theorem lstOfW_lst (ws : List W) : lstOfW [.lst ws] = .ok (.lst ws) := rfl
@[simp] theorem lstOfW_tup (ws : List W) : lstOfW [.tup ws] = .ok (.lst ws) := rfl
@[simp] theorem max2_int (i j : Int) : maxW [.int i, .int j] = .ok (.int (if j > i then j else i)) := rfl
@[simp] theorem min2_int (i j : Int) : minW [.int i, .int j] = .ok (.int (if j < i then j else i)) := rfl
end PF
namespace PF
open PySem PySem.Spec PyProof.Rows L2
theorem ask_all {α : Type} {P : Nat → α → Prop} {E : Nat → Nat → List W → Prop} {n d : Nat} {k : Nat → T α} (h : 0 < d) (g : ∀ i, i < n → (k i).AllB P E (d - 1)) : (T.ask n k).AllB P E d := ⟨d - 1, by omega, g⟩
theorem draw_run {n : Int} {b : Nat} (h : 0 < n) (hb : n.natAbs < 2 ^ b) (h0 : 0 < b) (h9 : b ≤ 9000) : F__law_draw [.stt, .int n] = .ask n.toNat fun i => .ok (.int i) := by
  simp [F__law_draw, manyOk_is h hb h0 h9]
/-- a draw of n, n small -/
theorem draw_is {n : Int} (h : 0 < n) (hb : n < 2 ^ 60) : F__law_draw [.stt, .int n] = .ask n.toNat fun i => .ok (.int i) := draw_run (b := 60) h (by omega) (by decide) (by decide)
@[simp] theorem sFor_eq (fi : En → T (List W)) (G : W → En → Option En) (gb : En → T (Fl × En)) (ρ : En) : sFor fi G gb ρ = (fi ρ).bind fun ws => forL G gb ws ρ := rfl
theorem rng1_is {n : Int} (h0 : 0 ≤ n) (h1 : n ≤ 2 ^ 60) : rng1 [.int n] = .ok (intsFrom 0 n.toNat) := by
  unfold rng1
  exact if_pos (rngOk_is (by omega) h1)
theorem rng2_is {a b : Int} (h0 : -(2 ^ 60) ≤ a ∧ a ≤ 2 ^ 60) (h1 : -(2 ^ 60) ≤ b ∧ b ≤ 2 ^ 60) : rng2 [.int a, .int b] = .ok (intsFrom a (b - a).toNat) := by
  unfold rng2
  exact if_pos (by rw [rngOk_is h0.1 h0.2, rngOk_is h1.1 h1.2]; rfl)
theorem ints_len : ∀ (n : Nat) (lo : Int), (intsFrom lo n).length = n
  | 0, lo => rfl
  | n + 1, lo => by simp [intsFrom, ints_len n]
theorem forL_all {G : W → En → Option En} {gb : En → T (Fl × En)} {E : Nat → Nat → List W → Prop} (I : List W → Nat → En → Prop) (step : ∀ w ws d ρ, I (w :: ws) d ρ → ∃ ρ1, G w ρ = some ρ1 ∧ (gb ρ1).AllB (fun d x => ∃ ρ2, x = (.nx, ρ2) ∧ I ws d ρ2) E d) :
    ∀ (ws : List W) (d : Nat) (ρ : En), I ws d ρ → (forL G gb ws ρ).AllB (fun d x => ∃ ρ2, x = (.nx, ρ2) ∧ I [] d ρ2) E d
  | [], d, ρ, h => ⟨ρ, rfl, h⟩
  | w :: ws, d, ρ, h => by
    obtain ⟨ρ1, e, s⟩ := step w ws d ρ h
    unfold forL
    rw [e]
    refine T.allB_bind.mpr (T.AllB.imp (fun d1 x hx => ?_) (fun _ _ _ y => y) s)
    obtain ⟨ρ2, rfl, h2⟩ := hx
    exact forL_all I step ws d1 ρ2 h2
@[simp] theorem noX_ask {α : Type} (n : Nat) (k : Nat → T α) : noX (T.ask n k) = .ask n fun i => noX (k i) := rfl
/-- a comprehension whose turns say f -/
theorem compL_map {G : W → En → Option En} {tt : En → T Bool} {fe : En → T W} {ρ : En} {α : Type} (m f : α → W) : ∀ (as : List α), (∀ a ∈ as, ∃ ρ1, G (m a) ρ = some ρ1 ∧ tt ρ1 = .ok true ∧ fe ρ1 = .ok (f a)) → compL G tt fe ρ (as.map m) = .ok (as.map f)
  | [], _ => rfl
  | a :: as, h => by
    obtain ⟨ρ1, h1, h2, h3⟩ := h a (List.mem_cons_self ..)
    have ih := compL_map m f as fun b hb => h b (List.mem_cons_of_mem _ hb)
    simp only [List.map_cons, compL, h1, h2, h3, noX_ok, T.bind_ok, if_true, ih]
/-- one over enumerate -/
theorem compL_enum {G : W → En → Option En} {tt : En → T Bool} {fe : En → T W} {ρ : En} {α : Type} (m : α → W) (f : Int → α → W) : ∀ (as : List α) (k : Int), (∀ (i : Nat) a, as[i]? = some a → ∃ ρ1, G (.tup [.int (k + i), m a]) ρ = some ρ1 ∧ tt ρ1 = .ok true ∧ fe ρ1 = .ok (f (k + i) a)) → compL G tt fe ρ (enumF k (as.map m)) = .ok (as.mapIdx fun i a => f (k + i) a)
  | [], k, _ => rfl
  | a :: as, k, h => by
    obtain ⟨ρ1, h1, h2, h3⟩ := h 0 a rfl
    have ih := compL_enum m f as (k + 1) fun i b hb => by
      have := h (i + 1) b (by simpa using hb)
      have e : k + ((i + 1 : Nat) : Int) = k + 1 + (i : Int) := by omega
      rw [e] at this
      exact this
    have e1 : k + ((0 : Nat) : Int) = k := by simp
    simp only [e1] at h1 h3
    simp only [List.map_cons, enumF, compL, h1, h2, h3, noX_ok, T.bind_ok, if_true, ih, List.mapIdx_cons, e1]
    congr 2
    apply List.ext_getElem?
    intro i
    simp only [List.getElem?_mapIdx]
    have e : k + 1 + (i : Int) = k + ((i + 1 : Nat) : Int) := by omega
    rw [e]
@[simp] theorem blsW_of : ∀ (bs : List Bool), blsW (bs.map W.bl) = some bs
  | [] => rfl
  | b :: bs => by simp [blsW, blsW_of bs]
@[simp] theorem allW_of (bs : List Bool) : allW [.lst (bs.map W.bl)] = .ok (.bl (bs.all id)) := by simp [allW]
@[simp] theorem anyW_of (bs : List Bool) : anyW [.lst (bs.map W.bl)] = .ok (.bl (bs.any id)) := by simp [anyW]
def low (n : Nat) (w : W) : Prop := ∃ d, w.toD = some d ∧ d.canLay0 = true ∧ d.depth ≤ n
def lows (n : Nat) (ws : List W) : Prop := ∃ ds, toDs ws = some ds ∧ PyData.canLayAll0 ds = true ∧ PyData.depthAll ds ≤ n
theorem low_int (i : Int) : low 1 (.int i) := ⟨.int i, rfl, rfl, by simp [PyData.depth]⟩
theorem low_bl (i : Bool) : low 1 (.bl i) := ⟨.bool i, rfl, rfl, by simp [PyData.depth]⟩
theorem low_non : low 1 .non := ⟨.none, rfl, rfl, by simp [PyData.depth]⟩
theorem lows_of {n : Nat} : ∀ {ws : List W}, (∀ w ∈ ws, low n w) → lows n ws
  | [], _ => ⟨[], rfl, rfl, by simp [PyData.depthAll]⟩
  | w :: ws, h => by
    obtain ⟨d, h1, h2, h3⟩ := h w (List.mem_cons_self ..)
    obtain ⟨ds, g1, g2, g3⟩ := lows_of fun u hu => h u (List.mem_cons_of_mem _ hu)
    refine ⟨d :: ds, ?_, ?_, ?_⟩
    · simp [toDs, h1, g1]
    · simp only [PyData.canLayAll0, h2, g2, Bool.and_self]
    · simp only [PyData.depthAll]
      omega
theorem low_tup {n : Nat} {ws : List W} (h : ∀ w ∈ ws, low n w) : low (n + 1) (.tup ws) := by
  obtain ⟨ds, g1, g2, g3⟩ := lows_of h
  refine ⟨.tuple ds, by simp [W.toD, g1], by simp only [PyData.canLay0]; exact g2, by simp only [PyData.depth]; omega⟩
theorem low_lst {n : Nat} {ws : List W} (h : ∀ w ∈ ws, low n w) : low (n + 1) (.lst ws) := by
  obtain ⟨ds, g1, g2, g3⟩ := lows_of h
  refine ⟨.list ds, by simp [W.toD, g1], by simp only [PyData.canLay0]; exact g2, by simp only [PyData.depth]; omega⟩
theorem low_ints (ns : List Int) : low 2 (.tup (ns.map W.int)) := low_tup fun w hw => by
  obtain ⟨i, _, rfl⟩ := List.mem_map.mp hw
  exact low_int i
theorem low_intsL (ns : List Int) : low 2 (.lst (ns.map W.int)) := low_lst fun w hw => by
  obtain ⟨i, _, rfl⟩ := List.mem_map.mp hw
  exact low_int i
theorem eqO_same {n : Nat} {w : W} (h : low n w) (hn : n ≤ 64) : eqO w w = some true := by
  obtain ⟨d, h1, h2, h3⟩ := h
  have hs : SeqAt.shaped d = true := by
    unfold SeqAt.shaped
    rw [h2, decide_eq_true (by omega)]
    rfl
  unfold eqO
  rw [h1]
  simp only [hs, Bool.and_self, if_true]
  rw [PySem.SeqAt.eqv_refl d h2]
theorem eq_same {n : Nat} {w : W} (h : low n w) (hn : n ≤ 64) : eqW w w = .ok (.bl true) := by
  unfold eqW
  rw [eqO_same h hn]
theorem ne_same {n : Nat} {w : W} (h : low n w) (hn : n ≤ 64) : neW w w = .ok (.bl false) := by
  unfold neW
  rw [eqO_same h hn]
  rfl
@[simp] theorem eqO_int (i j : Int) : eqO (.int i) (.int j) = some (i == j) := rfl
@[simp] theorem eqW_int (i j : Int) : eqW (.int i) (.int j) = .ok (.bl (i == j)) := rfl
@[simp] theorem neW_int (i j : Int) : neW (.int i) (.int j) = .ok (.bl !(i == j)) := rfl
@[simp] theorem ne_ints (ns : List Int) : neW (.tup (ns.map W.int)) (.tup (ns.map W.int)) = .ok (.bl false) := ne_same (low_ints ns) (by decide)
@[simp] theorem eq_ints (ns : List Int) : eqW (.tup (ns.map W.int)) (.tup (ns.map W.int)) = .ok (.bl true) := eq_same (low_ints ns) (by decide)
@[simp] theorem ne_intsL (ns : List Int) : neW (.lst (ns.map W.int)) (.lst (ns.map W.int)) = .ok (.bl false) := ne_same (low_intsL ns) (by decide)
@[simp] theorem eq_intsL (ns : List Int) : eqW (.lst (ns.map W.int)) (.lst (ns.map W.int)) = .ok (.bl true) := eq_same (low_intsL ns) (by decide)
@[simp] theorem ne_non : neW .non .non = .ok (.bl false) := rfl
@[simp] theorem eq_non : eqW .non .non = .ok (.bl true) := rfl
end PF
namespace PF
open PySem PySem.Spec PyProof.Rows L2
structure FnG (P : Program) (w : World) (K : PySem.W.Frag) (mg : Str → Option Value) (base : Heap) (k : Nat) (f : Addr) (fd : FuncData) (ps : List Str) (sp : Sp) : Prop where
  len : ∀ vs H Q E, sp vs H Q E → vs.length = ps.length
  go : ∀ (A : Around) (o : List PySem.Env) (s : Shared) (H : Hp) (ar : Args) (us : List Value) (vs : List V) (Q : VK) (E : XK), A.guards = some [] → Room k A → Env0 P w K mg base A o s H → BindsTo s fd ar (ps.zip us) → Vals vs us → sp vs H Q E →
    codeAny (model P w) A (.call (.ref f) ar) (CR (L2.CX P w) o P w H s Q E) s
theorem FnG.of {P : Program} {w : World} {K : PySem.W.Frag} {mg : Str → Option Value} {base : Heap} {k : Nat} {f : Addr} {fd : FuncData} {ps : List Str} {sp : Sp} (F : FnOk P w K mg base (L2.CX P w) k f fd ps sp) : FnG P w K mg base k f fd ps sp :=
  ⟨F.len, fun A o s H ar us vs Q E _ hr e b r h => F.run A o s H ar us vs Q E hr e b r h⟩
section
variable {P : Program} {w : World} {K : PySem.W.Frag} {mg : Str → Option Value} {base : Heap} {x qual : Str} {params : Arguments} {body : List Stmt} {scope : Scope} {dvs : List V} {kws : List (Str × V)} {f : Addr} {fd : FuncData}
theorem gdef {N ps : List Str} {k : Nat} {sp : Sp} (F : FunD K x qual params body scope dvs kws f fd) (S : FnScope N ps scope) (len : ∀ vs H Q E, sp vs H Q E → vs.length = ps.length)
    (bd : ∀ (cdv : Value) (A : Around) (o : List PySem.Env) (s : Shared) (H : Hp) (vs : List V) (Q : VK) (E : XK), fd.code = cdv → A.guards = some [] → Room k (A.deeper (envOfC qual scope s.heap.objs.size f cdv)) → sp vs H Q E →
      ∃ t, PSs (cxOf (L2.CX P w) P w K mg base N qual scope f cdv A o s H E) body t ∧ t { nx := fun _ H' => Q .non H', rt := Q } (start N vs) H) : FnG P w K mg base (k + 1) f fd ps sp := by
  obtain ⟨oc, od, dV, kV, dc, pm, an, cdv, ct, osl, rfl, lk, hcd, _, _⟩ := F.ex
  refine ⟨len, fun A o s H ar us vs Q E hg hr e0 hb r q => ?_⟩
  have hlen := len _ _ _ _ q
  have kin : K.In s.heap := e0.mod.kin.keeps fun b u e => (e0.bs b u e).1
  have nol : s.heap.NoLimit := e0.mod.nolimit.keeps fun b u e => (e0.bs b u e).1
  have hk : ∀ y ∈ ps.zip us, scope.names.lookup y.1 = some .local ∨ (scope.names.lookup y.1 = some .cell ∧ ((cellsFrom (s.heap.objs.size + 1) scope.names []).lookup y.1).isSome = true) := fun y hy => by
    obtain ⟨n, v⟩ := y
    have hn := S.par n (List.of_mem_zip hy).1
    exact hn.imp id fun z => ⟨z, PySem.W.cellsFrom_some _ _ _ (.inl z)⟩
  refine codeAny_call_function hr.depth (kin _ _ lk) rfl S.co S.gen rfl (PySem.W.codeRec_of kin hcd) (hb _ _ _ _ (wpAny_newFunctionEnv_cells S.kind hk fun env he s1 z => ?_))
  subst he
  refine ⟨nol.keeps z.toInCall.keep, codeAny_func ?_⟩
  obtain ⟨t, ht, hq⟩ := bd cdv A o s H vs Q E rfl hg (hr.deeper _) q
  have J0 : Inv (cxOf (L2.CX P w) P w K mg base N qual scope f cdv A o s H E) [] (start N vs) H s1 := inv_start S hr.hd e0 hlen r z
  refine wpAny_mono (ht.run [] s1 (start N vs) H _ J0 hq) (fun fl s' hs => ?_) fun e s' hs => hs
  match fl, hs with
  | .ret u, ⟨v, σ', H', J, rv, q'⟩ => exact ⟨v, H', J.os, J.bare, J.base, J.hok, rv, q'⟩
  | .next, ⟨σ', H', J, q'⟩ => exact ⟨V.non, H', J.os, J.bare, J.base, J.hok, rfl, q'⟩
  | .brk, ⟨_, _, _, z⟩ => exact z.elim
  | .cont, ⟨_, _, _, z⟩ => exact z.elim
/-- THE RULE, where no guard stands around -/
theorem fn_trG {k : Nat} {N ps : List Str} {g : En → T (Fl × En)} (F : FunD K x qual params body scope [] [] f fd) (S : FnScope N ps scope)
    (hb : ∀ (cdv : Value) (A : Around) (o : List PySem.Env) (s : Shared) (H : Hp) (E : XK), fd.code = cdv → A.guards = some [] → Room k (A.deeper (envOfC qual scope s.heap.objs.size f cdv)) → TrSs (cxOf (L2.CX P w) P w K mg base N qual scope f cdv A o s H E) E body g) :
    FnG P w K mg base (k + 1) f fd ps (SpF K (defF N.length ps.length g)) := by
  refine gdef F S (SpF.len fun ws h => ?_) fun cdv A o s H vs Q E hcd hg hr h => ⟨_, hb cdv A o s H E hcd hg hr, ?_⟩
  · unfold defF
    rw [if_neg]
    intro z
    exact h (eq_of_beq z)
  · obtain ⟨c, d, ws, hT, wd, r, h⟩ := h
    obtain ⟨_, h⟩ := T.AllB.ite h
    refine ⟨c.bare, d, fun _ => 0, startE N.length ws, start_ok ⟨⟨wd.ok.inS, wd.ok.inla, wd.ok.inca⟩, wd.st, wd.av⟩ hT rfl (RepL.weak (c := c.bare) (c1 := c) rfl (fun _ h => h) r), T.AllB.imp (fun d1 x hx => ?_) (fun _ _ _ y => y.ofBare) (T.allB_bind.mp h)⟩
    obtain ⟨fl, ρ'⟩ := x
    intro c' oa' σ' H' fw e'
    have so : StOk c d1 H' := e'.st.to fw
    have st : Step c H H' := ⟨fun b o hb h1 h2 h3 => fw.step b o hb h1 h2 (fun z => by cases z) h3, fun b ps hb => fw.tbl b ps hb fun z => by cases z⟩
    cases fl with
    | nx => exact hx _ H' st so .non
    | rt w => exact fun v rv => hx v H' st so (Rep.weak (c := c) (c1 := c') fw.S (fun b hb => fw.sub b hb fun z => by cases z) rv)
    | bk => exact hx.elim
    | ct => exact hx.elim
end
/-- the module's name x is a def that does what the run F does -/
def FnGs (P : Program) (w : World) (K : PySem.W.Frag) (mg : Str → Option Value) (base : Heap) (k : Nat) (x : Str) (ps : List Str) (F : List W → T W) : Prop :=
  ∃ f fd, FnG P w K mg base k f fd ps (SpF K F) ∧ mg x = some (.ref f) ∧ PySem.W.keepIn K (.ref f) = true ∧ Binds K fd ps []
theorem FnIs.toG {P : Program} {w : World} {K : PySem.W.Frag} {mg : Str → Option Value} {base : Heap} {k : Nat} {x : Str} {ps : List Str} {F : List W → T W} (h : FnIs P w K mg base k x ps F) : FnGs P w K mg base k x ps F := by
  obtain ⟨f, fd, a, b, c, d⟩ := h
  exact ⟨f, fd, .of a, b, c, d⟩
section
variable {X : Cx} {E : WX} {e : Expr} {es : List Expr} {fs : En → T (List W)} {pos p : Pos} {F : List W → T W} {k : Nat} {f : Addr} {fd : FuncData} {ps : List Str} {x : Str} {sp : Sp}
theorem run_g {pins : List (Addr × Obj)} {σ : L2.St} {H : Hp} {s : Shared} {Q : VK} {us : List Value} {vs : List V} {E' : XK} (G : FnG X.prog X.w X.K X.mg X.base k f fd ps sp) (hg : X.A.guards = some []) (hr : Room k X.A) (hb : Binds X.K fd ps []) (hx : PassesAt (L2.CX X.prog X.w) X σ E')
    (I : Inv X pins σ H s) (r : Vals vs us) (h : sp vs H Q E') : wpAny (model X.prog X.w) X.A (call (.ref f) us) (EP X pins σ Q) X.xe s := by
  have hl : (us ++ []).length = ps.length := by rw [List.append_nil, ← r.length]; exact G.len _ _ _ _ h
  have bt := hb s us I.kIn hl
  rw [List.append_nil] at bt
  refine wpAny_call (codeAny_mono (G.go X.A X.stack s H ⟨us, []⟩ us vs Q E' hg hr I.env0 bt r h) fun r s' hq => ?_)
  match r, hq with
  | .error e, hq => exact hx pins H s e s' I hq
  | .ok (.ret u), hq => exact I.after hq
  | .ok .next, hq => exact False.elim hq
  | .ok .brk, hq => exact False.elim hq
  | .ok .cont, hq => exact False.elim hq
theorem pe_g {t : TA} {EE : L2.St → XK} (G : FnG X.prog X.w X.K X.mg X.base k f fd ps sp) (hgd : X.A.guards = some []) (hr : Room k X.A) (hg : Gl X x) (hm : X.mg x = some (.ref f)) (hk : PySem.W.keepIn X.K (.ref f) = true) (hb : Binds X.K fd ps []) (hx : ∀ σ, PassesAt (L2.CX X.prog X.w) X σ (EE σ))
    (ha : PA X (e :: es) t) (hdb : (x == ("__debug__" : Str)) = false := by decide) (he : starEach (e :: es) X.env = (false, eval e X.env) :: starEach es X.env := by rfl) (hpl : (backTo pos (starEach es X.env)).any (·.1) = false := by rfl) :
    PE X (.Call (.Name x p) (e :: es) [] pos) (fun σ H Q => t σ H fun vs H1 => sp vs H1 Q (EE σ)) := by
  constructor
  intro pins s σ H Q I h
  refine wpAny_Call_Name_kw (ld_glob I hg hm (PySem.W.callWith_K (h₀ := X.base) I.ok.mod.kin hk (thn (ha.run pos pins s σ H _ I h) fun us s1 z => ?_) he hpl) hdb)
  obtain ⟨vs, H1, I1, r, q⟩ := z
  exact ⟨I1.kIn, run_g G hgd hr hb (hx σ) I1 r q⟩
theorem tr_callG (h : FnGs X.prog X.w X.K X.mg X.base k x ps F) (hgd : X.A.guards = some []) (hr : Room k X.A) (tk : Takes X E) (hg : Gl X x) (ha : TrA X E (e :: es) fs)
    (hdb : (x == ("__debug__" : Str)) = false := by decide) (he : starEach (e :: es) X.env = (false, eval e X.env) :: starEach es X.env := by rfl) (hpl : (backTo pos (starEach es X.env)).any (·.1) = false := by rfl) :
    TrE X E (.Call (.Name x p) (e :: es) [] pos) (fL fs F) := by
  obtain ⟨f, fd, G, hm, hk, hb⟩ := h
  refine pe_imp (pe_g (EE := fun σ => WE E σ) G hgd hr hg hm hk hb (fun σ => passAt tk σ) ha hdb he hpl) fun σ H Q h => ?_
  obtain ⟨c, d, oa, ρ, e, h⟩ := h
  exact liftA_then (P := fun c H => PQ X.K c H Q) e h (fun st p => p.later st) fun w v H1 d1 _ r1 e1 h1 => ⟨c, d1, w, e1.tT, e1.wd, r1, h1⟩
/-- f() -/
theorem tr_callG0 (h : FnGs X.prog X.w X.K X.mg X.base k x ps F) (hgd : X.A.guards = some []) (hr : Room k X.A) (tk : Takes X E) (hg : Gl X x)
    (hdb : (x == ("__debug__" : Str)) = false := by decide) : TrE X E (.Call (.Name x p) [] [] pos) (fun _ => F []) := by
  obtain ⟨f, fd, G, hm, hk, hb⟩ := h
  constructor
  intro pins s σ H Q I h
  obtain ⟨c, d, oa, ρ, e, h⟩ := h
  refine wpAny_Call_Name_kw (ld_glob I hg hm (PySem.W.callWith_K0 I.kIn hk (run_g (us := []) (vs := []) G hgd hr hb (passAt tk σ) I .nil ⟨c, d, [], e.tT, e.wd, .nil, h⟩)) hdb)
end
theorem end_call {P : Program} {w : World} {K : PySem.W.Frag} {mg mb : Str → Option Value} {k : Nat} {fa a : Addr} {fd : FuncData} {x : Str} {sp : Sp} {s₁ : Shared} {vs : List Value} {ns : List Int}
    (KX : K.In s₁.heap) (hns : s₁.heap.Ns mainGlobals mg) (hb : s₁.heap.Ns builtinsNs mb) (hbb : ∀ x : Str, x ≠ "__name__" → mb x = bootBuiltins x) (hlim : s₁.heap.NoLimit) (hg : s₁.gens = #[])
    (ha : s₁.heap.get? a = some { cls := .type "list", data := .seq vs.toArray }) (hi : IntsAre vs ns) (hl : ns.length ≤ sizeLine) (hr : Room k callerA)
    (F : ∀ base : Heap, K.In base → base.Ns mainGlobals mg → FnG P w K mg base k fa fd [x] sp) (hbind : ∀ (s : Shared) (u : Value), BindsTo s fd ⟨[u], []⟩ [(x, u)])
    (hsp : ∀ H : Hp, Only H → SqL K H a (ns.map V.int) → sp [.ref a] H (fun v _ => v = .bl true) fun _ _ _ => False)
    (hCX : ∀ H e s', L2.CX P w [] H s₁ (fun _ _ _ => False) e s' → False) :
    codeAny (model P w) callerA (.call (.ref fa) ⟨[.ref a], []⟩) (fun r s' => r = .ok (.ret (.bool true)) ∧ OldK s₁.heap s'.heap ∧ s'.os = s₁.os ∧ AllBare s'.gens) s₁ := by
  have core : ∀ H : Hp, Only H → SqL K H a (ns.map V.int) → HOk P w H s₁.heap → (∀ b, H b ≠ none → b = a) → (H a ≠ none → K.lookup a = none) →
      codeAny (model P w) callerA (.call (.ref fa) ⟨[.ref a], []⟩) (fun r s' => r = .ok (.ret (.bool true)) ∧ OldK s₁.heap s'.heap ∧ s'.os = s₁.os ∧ AllBare s'.gens) s₁ := fun H hO hS hok hA hK => by
    have only : ∀ {b : Addr}, (b = a → False) → H b = none := fun {b} n => by
      cases z : H b with
      | none => rfl
      | some u => exact (n (hA b (by rw [z]; exact nofun))).elim
    have dict : ∀ {b : Addr} {u : Obj} {es : Array DictEntry} {ep : Nat}, s₁.heap.get? b = some u → u.data = .dict es ep → H b = none := fun {b u es ep} e dd => only fun z => by
      rw [z, ha] at e
      cases e
      cases (show Data.seq vs.toArray _ = Data.dict es ep from dd)
    have nsK : ∀ {b : Addr} {m : Str → Option Value}, s₁.heap.Ns b m → (hidT s₁.heap H).Ns b m := fun {b m} z => by
      obtain ⟨u, es, ep, e, dd, r⟩ := z
      exact ⟨u, es, ep, hidT_get e (dict e dd), dd, r⟩
    have kb : K.In (hidT s₁.heap H) := fun b u e => hidT_get (KX b u e) (by
      cases z : H b with
      | none => rfl
      | some v =>
        have q : b = a := hA b (by rw [z]; exact nofun)
        rw [q] at e z
        rw [hK (by rw [z]; exact nofun)] at e
        cases e)
    have hM : Mod K mg (hidT s₁.heap H) := ⟨kb, nsK hns, ⟨mb, nsK hb, hbb⟩, by
      obtain ⟨mc, h1, h2⟩ := hlim
      exact ⟨mc, nsK h1, h2⟩⟩
    have e0 : Env0 P w K mg (hidT s₁.heap H) callerA [] s₁ H := ⟨rfl, hM, fun b u e => of_hidT e, Nat.le_of_eq (hidT_size _ _), trivial, fun b hb => (by cases hb), hok, .of_eq hg⟩
    refine codeAny_mono ((F _ kb (nsK hns)).go callerA [] s₁ H ⟨[.ref a], []⟩ [.ref a] [.ref a] _ _ rfl hr e0 (hbind s₁ (.ref a)) (.cons rfl .nil) (hsp H hO hS)) fun r s' h => ?_
    match r, h with
    | .error e, h => exact (hCX H e s' h).elim
    | .ok .next, h => exact False.elim h
    | .ok .brk, h => exact False.elim h
    | .ok .cont, h => exact False.elim h
    | .ok (.ret u), h =>
      obtain ⟨v, H', os, bare, un, hok', rv, q⟩ := h
      have q : v = .bl true := q
      rw [q] at rv
      have rv : u = Value.bool true := rv
      rw [rv]
      refine ⟨rfl, OldK.of_keep fun b u e => ?_, os, bare⟩
      rcases hO b with z | ⟨ob, xs, z⟩
      · exact un.keep b u e z (fun z => (by cases z)) (fun z => (by cases z))
      · have z1 := (hok b _ z).1
        have z2 := (hok' b _ (un.frzs b ob _ z)).1
        rw [e] at z1
        cases z1
        exact z2
  have rv := vals_ints hi
  cases hk : K.lookup a with
  | some o =>
    have e := KX a o hk
    rw [ha] at e
    cases e
    exact core (fun _ => none) (fun _ => .inl rfl) (.inr ⟨_, vs.toArray, _, hk, rfl, rfl, rfl, by rw [List.size_toArray, hi.length]; exact hl, by simpa using rv⟩) (fun b u z => by cases z) (fun b z => (z rfl).elim) fun z => (z rfl).elim
  | none =>
    have at_ : ∀ b, b = a ∨ b ≠ a := fun b => Decidable.em _
    refine core (fun b => if b = a then some (.frz { cls := .type "list", data := .seq vs.toArray } (.lst (ns.map V.int))) else none) (fun b => ?_) (.inl (.inr ⟨{ cls := .type "list", data := .seq vs.toArray }, if_pos rfl⟩)) (fun b u z => ?_) (fun b z => ?_) fun _ => hk
    · rcases at_ b with q | q
      · exact .inr ⟨_, _, if_pos q⟩
      · exact .inl (if_neg q)
    · rcases at_ b with q | q
      · have z := (if_pos q).symm.trans z
        cases z
        rw [q]
        exact ⟨ha, by rw [List.length_map]; exact hl, vs, _, rv, ha⟩
      · have z := (if_neg q).symm.trans z
        cases z
    · rcases at_ b with q | q
      · exact q
      · exact absurd (if_neg q) z
theorem walk_g {l : PySem.W.OpenLaw} {n k : Nat} {q : Program} {loose : List Str} {XP : (Str → Option Value) → Heap → Prop} {YP : World → Heap → Prop} {d : DefRec} {x : Str}
    (hn : l.most = some n) (hz : n ≤ sizeLine) (hdf : d.params.defaults = []) (hr : Room k callerA)
    (F : ∀ (w : World) (mg : Str → Option Value) (fa : Addr) (h : Heap), YP w h → h.Ns mainGlobals mg → mg d.name = some (.ref fa) →
      ∃ (K : PySem.W.Frag) (fd : FuncData) (sp : Sp), K.In h ∧ (∀ (s : Shared) (u : Value), BindsTo s fd ⟨[u], []⟩ [(x, u)]) ∧
        (∀ (H : Hp) (a : Addr) (ns : List Int), ns.length ≤ n → Only H → SqL K H a (ns.map V.int) → sp [.ref a] H (fun v _ => v = .bl true) fun _ _ _ => False) ∧
        ∀ base : Heap, K.In base → base.Ns mainGlobals mg → FnG l.prog w K mg base k fa fd [x] sp) :
    PySem.W.WalkO q loose XP YP l.row.toRowW d [] (fun f vs => PySem.call f vs) := by
  refine Att.attach_call hn hdf fun w' t₀ t₁ mg' mb' fa' o' pm' cd' dc a' vs' ns' G' Y' h1 h2 h3 h4 h5 h6 h7 h8 => ?_
  obtain ⟨K', fd', sp', kx, hb', hs', hF'⟩ := F w' mg' fa' _ Y' G'.T.g h4
  exact end_call kx G'.T.g G'.T.b G'.T.builtins G'.T.nolimit h8 h5 h6 (Nat.le_trans h7 hz) hr hF' hb' (fun H hO hS => hs' H a' ns' h7 hO hS) fun H e s' h => cx_none h
end PF
namespace PF
open PySem PySem.Spec PyProof.Rows L2
def rRepr (K : PySem.W.Frag) : List V → Hp → VK → Prop := fun vs H Q => ∃ (v : V) (d : PyData), vs = [v] ∧ Dp K H v d ∧ d.showable = true ∧ d.hasDict = false ∧ d.depth ≤ 60 ∧ d.shown.length ≤ sizeLine ∧ Q (.str d.shown) H
theorem cr_repr {X : Cx} (hgd : X.A.guards = some []) (hu : X.A.units + 64 < cLine) : CallR X (.builtin "repr") (rRepr X.K) := by
  intro pins s σ H vs us Q I r h
  obtain ⟨v, d, rfl, hd, h1, h2, h3, h4, q⟩ := h
  obtain ⟨u, rfl, ru⟩ := vals1 r
  cases hd with
  | non =>
    cases ru
    refine PySem.P.repr_of_none ⟨.str _, H, I.tok _, ⟨_, rfl⟩, ?_⟩
    simpa [PyData.shown] using q
  | bl b =>
    cases ru
    refine PySem.P.repr_of_bool ⟨.str _, H, I.tok _, ⟨_, rfl⟩, ?_⟩
    simpa [PyData.shown] using q
  | int i =>
    obtain ⟨t, rfl⟩ := ru
    refine PySem.P.repr_of_int (by simpa [PyData.showable] using h1) ⟨.str _, H, I.tok _, ⟨_, rfl⟩, ?_⟩
    simpa [PyData.shown] using q
  | str x =>
    obtain ⟨t, rfl⟩ := ru
    refine PySem.P.repr_of_str ⟨.str _, H, I.tok _, ⟨_, rfl⟩, ?_⟩ (by simpa [PyData.shown] using h4)
    simpa [PyData.shown] using q
  | lst hs ha =>
    cases ru
    obtain ⟨as, rd⟩ := Dp.reads I _ _ _ (Dp.lst hs ha) rfl
    exact repr_of_reads' rd h1 (PyData.noDict_hsm h2) hgd (by omega) (fun _ _ e => e) (fun h' u tk hk => ⟨.str _, H, I.kept hk, ⟨_, rfl⟩, q⟩) h4
  | tup hs ha =>
    cases ru
    obtain ⟨as, rd⟩ := Dp.reads I _ _ _ (Dp.tup hs ha) rfl
    exact repr_of_reads' rd h1 (PyData.noDict_hsm h2) hgd (by omega) (fun _ _ e => e) (fun h' u tk hk => ⟨.str _, H, I.kept hk, ⟨_, rfl⟩, q⟩) h4
@[irreducible] def reprOk (d : PyData) : Bool := d.showable && !d.hasDict && decide (d.depth ≤ 60) && decide (d.shown.length ≤ 16777216)
def reprW : List W → T W
  | [w] => match w.toD with
    | some d => if reprOk d then .ok (.str d.shown) else .bad
    | none => .bad
  | _ => .bad
theorem sem_repr {K : PySem.W.Frag} : SemL K (rRepr K) reprW := fun c d H x v Q E' wd rx q => by
  cases rx with
  | nil => exact q.elim
  | cons r rr =>
    cases rr with
    | cons _ _ => exact q.elim
    | nil =>
      simp only [reprW] at q
      split at q
      · rename_i e he
        obtain ⟨hz, q⟩ := T.AllB.ite q
        unfold reprOk at hz
        simp only [Bool.and_eq_true, decide_eq_true_eq, Bool.not_eq_true'] at hz
        exact ⟨_, e, rfl, r.dp he, hz.1.1.1, hz.1.1.2, hz.1.2, by rw [sizeLine_eq]; exact hz.2, PQ.now wd q (.str _)⟩
      · exact q.elim
theorem bo_repr : bootBuiltins "repr" = some (.builtin "repr") := by decide +kernel
def eqS (x y : W) : T W := match x, y with
  | .str a, .str b => .ok (.bl (decide (a = b)))
  | _, _ => eqW x y
def neS (x y : W) : T W := match x, y with
  | .str a, .str b => .ok (.bl (!decide (a = b)))
  | _, _ => neW x y
theorem dec_str {a b : Str} : decide (V.str a = V.str b) = decide (a = b) := by
  by_cases h : a = b <;> simp [h]
theorem sem_eqS {K : PySem.W.Frag} : Sem2 K (fun x y H Q => rEq x y H Q ∨ rEqD K x y H Q) eqS := fun c d H x y v u Q E' wd rx ry q => by
  unfold eqS at q
  split at q
  · cases rx
    cases ry
    exact .inl ⟨rfl, by rw [dec_str]; exact PQ.now wd q (.bl _)⟩
  · exact .inr (sem_eq c d H x y v u Q E' wd rx ry q)
theorem sem_neS {K : PySem.W.Frag} : Sem2 K (fun x y H Q => rNe x y H Q ∨ rNeD K x y H Q) neS := fun c d H x y v u Q E' wd rx ry q => by
  unfold neS at q
  split at q
  · cases rx
    cases ry
    exact .inl ⟨rfl, by rw [dec_str]; exact PQ.now wd q (.bl _)⟩
  · exact .inr (sem_ne c d H x y v u Q E' wd rx ry q)
theorem op_eqS {X : Cx} (hu : X.A.units + 64 < cLine) : OpR X (compareOp .Eq) (fun x y H Q => rEq x y H Q ∨ rEqD X.K x y H Q) := opR_or op_eq (op_eqD hu)
theorem op_neS {X : Cx} (hu : X.A.units + 64 < cLine) : OpR X (compareOp .NotEq) (fun x y H Q => rNe x y H Q ∨ rNeD X.K x y H Q) := opR_or op_ne (op_neD hu)
@[simp] theorem eqS_str (s : Str) : eqS (.str s) (.str s) = .ok (.bl true) := by simp [eqS]
@[simp] theorem neS_str (s : Str) : neS (.str s) (.str s) = .ok (.bl false) := by simp [neS]
@[simp] theorem eqS_int (i j : Int) : eqS (.int i) (.int j) = .ok (.bl (i == j)) := rfl
@[simp] theorem neS_int (i j : Int) : neS (.int i) (.int j) = .ok (.bl !(i == j)) := rfl
@[simp] theorem eqS_tup (ws : List W) (y : W) : eqS (.tup ws) y = eqW (.tup ws) y := by cases y <;> rfl
@[simp] theorem neS_tup (ws : List W) (y : W) : neS (.tup ws) y = neW (.tup ws) y := by cases y <;> rfl
@[simp] theorem eqS_lst (ws : List W) (y : W) : eqS (.lst ws) y = eqW (.lst ws) y := by cases y <;> rfl
@[simp] theorem neS_lst (ws : List W) (y : W) : neS (.lst ws) y = neW (.lst ws) y := by cases y <;> rfl
@[simp] theorem eqS_non (y : W) : eqS .non y = eqW .non y := by cases y <;> rfl
@[simp] theorem neS_non (y : W) : neS .non y = neW .non y := by cases y <;> rfl
@[simp] theorem eqS_bl (b : Bool) (y : W) : eqS (.bl b) y = eqW (.bl b) y := by cases y <;> rfl
@[simp] theorem neS_bl (b : Bool) (y : W) : neS (.bl b) y = neW (.bl b) y := by cases y <;> rfl
def fStar (fa : En → T W) (fs : En → T (List W)) : En → T (List W) := fun ρ => (fa ρ).bind fun x => (seqW x).bind fun xs => (fs ρ).bind fun ys => .ok (xs ++ ys)
section
variable {X : Cx} {E : WX} {e : Expr} {es : List Expr} {fa : En → T W} {fs : En → T (List W)} {pos p : Pos}
theorem tra_star (ha : TrE X E e fa) (hr : TrA X E es fs) (hs : starEach (.Starred e p :: es) X.env = (true, eval e X.env) :: starEach es X.env := by rfl) : TrA X E (.Starred e p :: es) (fStar fa fs) := pa_imp (StX.pa_star ha hr hs) fun σ H Q h => by
  obtain ⟨c, d, oa, ρ, e, h⟩ := h
  refine lift_then (P := fun c H => PQL X.K c H Q) e h (fun st p => p.later st) fun w v H1 d1 _ r1 e1 h1 => ?_
  have fin : ∀ {ws : List W} {vs : List V}, RepL X.K c H1 ws vs → ((fs ρ).bind fun ys => T.ok (ws ++ ys)).AllB (PQL X.K c H1 Q) (PX X.K c H1 fun cls dx H' => E cls dx σ H') d1 → liftA X.K E fs σ H1 fun ys H2 => Q (vs ++ ys) H2 := fun rl h => by
    refine liftA_then (P := fun c H => PQL X.K c H Q) e1 h (fun st p => p.later st) fun w2 v2 H2 d2 st2 r2 e2 h2 => ?_
    exact h2 _ H2 (.refl c H2) e2.st ((rl.step st2 e1.st e1.ok).append r2)
  cases r1 with
  | tup hq rl => exact ⟨_, _, rfl, .inl hq, fin rl h1⟩
  | lst n hq rl => exact ⟨_, _, rfl, .inr (SqL.of hq), fin rl h1⟩
  | _ => exact h1.elim
end
theorem RepL.erase {K : PySem.W.Frag} {c : Cc} {H : Hp} : ∀ {ws : List W} {vs : List V} (n : Nat), RepL K c H ws vs → RepL K c H (ws.eraseIdx n) (vs.eraseIdx n)
  | _, _, _, .nil => .nil
  | _, _, 0, .cons _ r => r
  | _, _, n + 1, .cons h r => .cons h (RepL.erase n r)
theorem RepL.dropLast {K : PySem.W.Frag} {c : Cc} {H : Hp} {ws : List W} {vs : List V} (r : RepL K c H ws vs) : RepL K c H ws.dropLast vs.dropLast := by
  rw [List.dropLast_eq_take, List.dropLast_eq_take, r.length]
  exact r.take _
/-- pop(i), i a place from 0 on -/
def popW (ws : List W) (xs : List W) : Option (W × List W) := match xs with
  | [.int i] => if 0 ≤ i ∧ i.toNat < ws.length ∧ ws.length ≤ 16777216 then match ws[i.toNat]? with
      | some w => some (w, ws.eraseIdx i.toNat)
      | none => none
    else none
  | _ => none
theorem seqIx_at {i : Int} {n : Nat} (h : 0 ≤ i) (h2 : i.toNat < n) : seqIndex? i n = some i.toNat := by
  unfold seqIndex?
  simp only []
  have e1 : ¬ i < 0 := by omega
  simp [e1]
  omega
def sPop (i : Nat) (fs : En → T (List W)) (G : W → En → Option En) : En → T (Fl × En) := fun ρ => match ρ[i]? with
  | some (.own ws) => (fs ρ).bind fun xs => match popW ws xs with
    | some (w, us) => match G w (ρ.set i (.own us)) with
      | some ρ' => .ok (.nx, ρ')
      | none => .bad
    | none => .bad
  | _ => .bad
section
variable {X : Cx} {E : XK} {e a tg : Expr} {G : W → En → Option En} {ns : List Nat} {fs : En → T (List W)} {pos : Pos}
theorem tr_popAt {i : Nat} {apos cpos : Pos} (ho : PE X e (tVar i)) (ha : TrA X (wOf E) [a] fs) (hg : TrG X tg ns G) (hb : attributeBase e "pop" X.env (eval e X.env) = eval e X.env := by rfl)
    (h1 : (((backTo cpos (starEach [a] X.env)).all fun x => !x.1) && ((backToKw cpos (keywordEach [] X.env)).all fun x => x.1.isSome) && decide (([a].length + ([] : List Keyword).length + if ([] : List Keyword).isEmpty = true then 0 else 1) < 30)) = true := by rfl) (h2 : (apos.endLine == cpos.line) = true := by rfl)
    (h3 : starEach [a] X.env = (false, eval a X.env) :: starEach [] X.env := by rfl) (h4 : ((backTo cpos (starEach [] X.env)).any fun x => x.1) = false := by rfl)
    (hs : swapsWithSole [tg] (.Call (.Attribute e "pop" apos) [a] [] cpos) pos.line X.env = pure false := by rfl) (hw : swappedStores [tg] (.Call (.Attribute e "pop" apos) [a] [] cpos) X.env = pure none := by rfl)
    (ht : (assignEach [tg] X.env).map (·.2) = [assign tg X.env] := by rfl) :
    TrS X E (.Assign [tg] (.Call (.Attribute e "pop" apos) [a] [] cpos) pos) (sPop i fs G) := ps_imp (ps_asg (pe_bm PySem.F.plainAttrs_list PySem.F.slot_list_pop PySem.F.type_list_pop mt_popAt ho ha hb h1 h2 h3 h4) hg hs hw ht) fun D σ H q => by
  obtain ⟨c, d, oa, ρ, e, q⟩ := q
  unfold sPop at q
  split at q
  · rename_i ws hw
    obtain ⟨m1, m2, vs, m3, m4⟩ := e.own i ws hw
    refine ⟨_, m2, .inl ⟨rfl, _, SqL.of m3⟩, liftA_thenS (P := fun c H => PSq X.K c H D) e q (fun st p => p.later (.of st e.wd)) fun us zs H1 d1 st1 r1 e1 h1 => ?_⟩
    cases r1 with
    | nil => exact h1.elim
    | cons r rr =>
      cases rr with
      | cons _ _ => cases r <;> exact h1.elim
      | nil =>
        cases r with
        | int k =>
          obtain ⟨m1', m2', vs', m3', m4'⟩ := e1.own i ws hw
          simp only [popW] at h1
          split at h1
          · rename_i w us hp
            split at hp
            · rename_i hk
              split at hp
              · rename_i y hy
                simp only [Option.some.injEq, Prod.mk.injEq] at hp
                obtain ⟨rfl, rfl⟩ := hp
                obtain ⟨v, hv, rv⟩ := m4'.get hy
                obtain ⟨e2, fw2⟩ := e1.ownUpd hw (m4'.erase k.toNat)
                split at h1
                · rename_i ρ' hG
                  refine ⟨_, _, k, k.toNat, v, rfl, rfl, m3', by omega, by omega, ?_, hv, c, d1, oa, _, y, ρ', e2, fw2.rep _ _ rv, hG, fun σ' _ e' => h1 c oa σ' _ fw2 e'⟩
                  exact seqIx_at hk.1 (by rw [← m4'.length]; exact hk.2.1)
                · exact h1.elim
              · cases hp
            · cases hp
          · exact h1.elim
        | _ => exact h1.elim
  · exact q.elim
def sPop0 (i : Nat) (G : W → En → Option En) : En → T (Fl × En) := fun ρ => match ρ[i]? with
  | some (.own ws) => match ws[ws.length - 1]? with
    | some w => match G w (ρ.set i (.own ws.dropLast)) with
      | some ρ' => .ok (.nx, ρ')
      | none => .bad
    | none => .bad
  | _ => .bad
theorem tr_pop0 {i : Nat} {apos cpos : Pos} (ho : PE X e (tVar i)) (hg : TrG X tg ns G) (hb : attributeBase e "pop" X.env (eval e X.env) = eval e X.env := by rfl) (h2 : (apos.endLine == cpos.line) = true := by rfl)
    (hs : swapsWithSole [tg] (.Call (.Attribute e "pop" apos) [] [] cpos) pos.line X.env = pure false := by rfl) (hw : swappedStores [tg] (.Call (.Attribute e "pop" apos) [] [] cpos) X.env = pure none := by rfl)
    (ht : (assignEach [tg] X.env).map (·.2) = [assign tg X.env] := by rfl) :
    TrS X E (.Assign [tg] (.Call (.Attribute e "pop" apos) [] [] cpos) pos) (sPop0 i G) := ps_imp (ps_asg (pe_bm0 PySem.F.plainAttrs_list PySem.F.slot_list_pop PySem.F.type_list_pop mt_pop ho hb h2) hg hs hw ht) fun D σ H q => by
  obtain ⟨c, d, oa, ρ, e, q⟩ := q
  unfold sPop0 at q
  split at q
  · rename_i ws hw
    obtain ⟨m1, m2, vs, m3, m4⟩ := e.own i ws hw
    split at q
    · rename_i y hy
      split at q
      · rename_i ρ' hG
        obtain ⟨v, hv, rv⟩ := m4.get hy
        obtain ⟨e2, fw2⟩ := e.ownUpd hw m4.dropLast
        refine ⟨_, m2, .inl ⟨rfl, _, SqL.of m3⟩, _, _, v, rfl, rfl, m3, by rw [← m4.length]; exact hv, c, d, oa, _, y, ρ', e2, fw2.rep _ _ rv, hG, fun σ' _ e' => q c oa σ' _ fw2 e'⟩
      · exact q.elim
    · exact q.elim
  · exact q.elim
end
section
variable {X : Cx} {E : XK} {e : Expr} {f : En → T W} {pos pos' p p2 : Pos}
theorem tr_ownOf {i : Nat} {x : Str} (hN : X.N.Nodup) (hi : X.N[i]? = some x) (hx : L2.Loc X.env.scope x) (hg : Gl X "list") (hm : X.mg "list" = none) (he : TrE X (wOf E) e f)
    (hs : swapsWith (.Call (.Name "list" p) [e] [] p2) (some (.Name x pos')) pos.line X.env = pure false := by rfl) (hst : starEach [e] X.env = (false, eval e X.env) :: starEach [] X.env := by rfl) (hpl : (backTo p2 (starEach [] X.env)).any (·.1) = false := by rfl)
    (hf : X.fn x = true ∨ X.env.scope.names.lookup x = some .local := by first | exact .inl rfl | exact .inr rfl | assumption) : TrS X E (.Assign [.Name x pos'] (.Call (.Name "list" p) [e] [] p2) pos) (sOwnOf i f) :=
  ps_imp (ps_set hN hi hx (pe_callTy call_list_of hg hm bo_list (pa_cons he pa_nil hst) (by decide) (by decide) hst hpl) hs hf) fun D σ H q => by
  obtain ⟨c, d, oa, ρ, e, q⟩ := q
  refine lift_thenS (P := fun c H => PSq X.K c H D) e q (fun st p => p.later (.of st e.wd)) fun w v H1 d1 _ r1 e1 h1 => ?_
  have fin : ∀ {ws : List W} {vs : List V} {p : Addr}, RepL X.K c H1 ws vs → H1 p = none → (T.ok (Fl.nx, ρ.set i (.own ws)) : T (Fl × En)).AllB (PSq X.K c H1 D) (PXs X.K c H1 E) d1 → D.nx (σ.set i (some (.ref p))) (L2.upd H1 p (.lst vs)) := fun r hp h =>
    h _ _ _ _ (Fwd.mine hp e1.wd) ((e1.mine hp).ownSet (List.mem_cons_self ..) upd_same ((r.more hp (.new hp) e1.st e1.ok).mine) (EnvOk.ownNe e1 hp))
  cases r1 with
  | tup hq rl => exact ⟨_, _, rfl, .inr hq, fun p hp => fin rl hp h1⟩
  | lst n hq rl => exact ⟨_, _, rfl, .inl (SqL.of hq), fun p hp => fin rl hp h1⟩
  | _ => exact h1.elim
end
end PF
namespace PF
open PySem PySem.Spec PyProof.Rows L2
def sOwnParOf (i j : Nat) (f : En → T W) (fs : En → T (List W)) : En → T (Fl × En) := fun ρ => (f ρ).bind fun w => (seqW w).bind fun ws => (fs ρ).bind fun us => match us with
  | [u] => .ok (.nx, (ρ.set i (.own ws)).set j (.val u))
  | _ => .bad
theorem tr_ownParOf {X : Cx} {E : XK} {st : Stmt} {f : En → T W} {fs : En → T (List W)} {i j : Nat} (ne : i ≠ j) (hp : PS X st (tPar i j (tCons (tCB (fun xs H Q => ∃ p ys, xs = [.ref p] ∧ (SqL X.K H p ys ∨ SqT X.K H p ys) ∧ ∀ l, H l = none → Q (.ref l) (L2.upd H l (.lst ys))) (tCons (liftE X.K (wOf E) f) tNil)) (liftA X.K (wOf E) fs)))) : TrS X E st (sOwnParOf i j f fs) := ps_imp hp fun D σ H q => by
  obtain ⟨c, d, oa, ρ, e, q⟩ := q
  refine lift_thenS (P := fun c H => PSq X.K c H D) e q (fun st p => p.later (.of st e.wd)) fun w v H0 d0 _ r0 e00 h0 => ?_
  have fin : ∀ {ws : List W} {vs : List V} {p : Addr}, RepL X.K c H0 ws vs → H0 p = none → ((fs ρ).bind fun us => match us with
      | [u] => .ok (.nx, (ρ.set i (.own ws)).set j (.val u))
      | _ => .bad : T (Fl × En)).AllB (PSq X.K c H0 D) (PXs X.K c H0 E) d0 → liftA X.K (wOf E) fs σ (L2.upd H0 p (.lst vs)) fun ys H1 => ∃ v w, V.ref p :: ys = [v, w] ∧ D.nx ((σ.set i (some v)).set j (some w)) H1 := fun {ws vs p} r hp h => by
    have e0 := e00.mine (xs := vs) hp
    have q0 := T.AllB.imp (fun _ _ y => PSq.later (Fwd.mine (o := .lst vs) hp e00.wd) y) (fun _ _ _ y => y.fwd (Fwd.mine (o := .lst vs) hp e00.wd)) h
    refine liftA_thenS (P := fun c H => PSq X.K c H D) e0 q0 (fun st p => p.later (.of st e0.wd)) fun us zs H1 d1 st1 r1 e1 h1 => ?_
    cases r1 with
    | nil => exact h1.elim
    | cons r' rr =>
      cases rr with
      | cons _ _ => exact h1.elim
      | nil =>
        have n1 := st_ne e00.st hp
        simp only [List.mem_cons, not_or] at n1
        have hq : H1 p = some (.lst vs) := st1.keep p _ upd_same n1.1 n1.2.2.1 nofun
        exact ⟨_, _, rfl, h1 _ _ _ H1 .refl ((e1.ownSet (D := p) (i := i) (List.mem_cons_self ..) hq (((r.more hp (.new hp) e00.st e00.ok).mine).step st1 e0.st e0.ok) (EnvOk.ownNe e00 hp)).set r')⟩
  cases r0 with
  | tup hq rl => exact ⟨_, _, rfl, .inr hq, fun p hp => fin rl hp h0⟩
  | lst n hq rl => exact ⟨_, _, rfl, .inl (SqL.of hq), fun p hp => fin rl hp h0⟩
  | _ => exact h0.elim
end PF
namespace PF
open PySem PySem.Spec PyProof.Rows L2
def wLen (i : Nat) (ρ : En) : Nat := match ρ[i]? with
  | some (.own ws) => ws.length
  | some (.val (.lst ws)) => ws.length
  | some (.val (.tup ws)) => ws.length
  | _ => 0
def wGap (i j : Nat) (ρ : En) : Nat := match ρ[i]?, ρ[j]? with
  | some (.val (.int a)), some (.val (.int b)) => (b - a).toNat
  | _, _ => 0
def T.chk {α : Type} (p : α → Bool) : T α → Nat → Bool
  | .ok a, _ => p a
  | .exc _ _, _ => false
  | .bad, _ => false
  | .ask _ _, 0 => false
  | .ask n k, e + 1 => (List.range n).all fun i => T.chk p (k i) e
theorem T.chk_all {α : Type} {p : α → Bool} {E : Nat → Nat → List W → Prop} : ∀ {t : T α} {d : Nat}, t.chk p d = true → t.AllB (fun _ a => p a = true) E d
  | .ok a, d, h => h
  | .exc _ _, d, h => by cases h
  | .bad, d, h => by cases h
  | .ask n k, 0, h => by cases h
  | .ask n k, d + 1, h => by
    have h : ((List.range n).all fun i => T.chk p (k i) d) = true := h
    refine ⟨d, rfl, fun i hi => T.chk_all ?_⟩
    exact List.all_eq_true.mp h i (List.mem_range.mpr hi)
theorem T.AllB.more {α : Type} {P : Nat → α → Prop} {E : Nat → Nat → List W → Prop} : ∀ {t : T α} {d e : Nat}, t.AllB (fun _ a => P 0 a) (fun _ c fs => E 0 c fs) d → d ≤ e → t.AllB (fun _ a => P 0 a) (fun _ c fs => E 0 c fs) e
  | .ok a, d, e, h, _ => h
  | .exc _ _, d, e, h, _ => h
  | .bad, d, e, h, _ => h
  | .ask n k, d, e, h, l => by
    obtain ⟨d', rfl, h⟩ := h
    exact ⟨e - 1, by omega, fun i hi => T.AllB.more (h i hi) (by omega)⟩
def yes : Fl × En → Bool
  | (.rt (.bl true), _) => true
  | _ => false
theorem yes_is {x : Fl × En} (h : yes x = true) : ∃ ρ, x = (.rt (.bl true), ρ) := by
  obtain ⟨fl, ρ⟩ := x
  match fl, h with
  | .rt (.bl true), _ => exact ⟨ρ, rfl⟩
/-- the written end of a law -/
theorem law_tail {t : T (Fl × En)} {d k : Nat} (h : t.chk yes k = true) (hk : k ≤ d) : t.AllB (fun _ x => ∃ ρ, x = (.rt (.bl true), ρ)) (fun _ _ _ => False) d := by
  have h1 : t.AllB (fun _ a => yes a = true) (fun _ _ _ => False) k := T.chk_all h
  have h2 := T.AllB.more (P := fun _ a => yes a = true) (E := fun _ _ _ => False) h1 hk
  exact T.AllB.imp (fun _ x hx => yes_is hx) (fun _ _ _ z => z) h2
theorem compL_filter {G : W → En → Option En} {tt : En → T Bool} {fe : En → T W} {ρ : En} {α : Type} (m f : α → W) (t : α → Bool) : ∀ (as : List α), (∀ a ∈ as, ∃ ρ1, G (m a) ρ = some ρ1 ∧ tt ρ1 = .ok (t a) ∧ (t a = true → fe ρ1 = .ok (f a))) → compL G tt fe ρ (as.map m) = .ok ((as.filter t).map f)
  | [], _ => rfl
  | a :: as, h => by
    obtain ⟨ρ1, h1, h2, h3⟩ := h a (List.mem_cons_self ..)
    have ih := compL_filter m f t as fun b hb => h b (List.mem_cons_of_mem _ hb)
    cases ht : t a with
    | true => simp only [List.map_cons, compL, h1, h2, h3 ht, ht, noX_ok, T.bind_ok, if_true, ih, List.filter_cons]
    | false => simp only [List.map_cons, compL, h1, h2, ht, noX_ok, T.bind_ok, if_false, Bool.false_eq_true, ih, List.filter_cons]
inductive All2 {α : Type} (R : α → W → Prop) : List α → List W → Prop
  | nil : All2 R [] []
  | cons {a : α} {w : W} {as : List α} {ws : List W} : R a w → All2 R as ws → All2 R (a :: as) (w :: ws)
/-- a comprehension with draws -/
theorem compL_draw {G : W → En → Option En} {tt : En → T Bool} {fe : En → T W} {ρ : En} {α : Type} {R : α → W → Prop} {E : Nat → Nat → List W → Prop} (c : Nat) (m : α → W) : ∀ (as : List α) {P : Nat → List W → Prop} {d : Nat},
    (∀ a ∈ as, ∃ ρ1, G (m a) ρ = some ρ1 ∧ tt ρ1 = .ok true ∧ ∀ (Q : Nat → W → Prop) (d : Nat), c ≤ d → (∀ w d', R a w → d ≤ d' + c → Q d' w) → (noX (fe ρ1)).AllB Q E d) → c * as.length ≤ d → (∀ ws d', All2 R as ws → d ≤ d' + c * as.length → P d' ws) → (compL G tt fe ρ (as.map m)).AllB P E d
  | [], P, d, _, _, h => h [] d .nil (by omega)
  | a :: as, P, d, h, hd, hP => by
    obtain ⟨ρ1, h1, h2, h3⟩ := h a (List.mem_cons_self ..)
    rw [List.length_cons, Nat.mul_add, Nat.mul_one] at hd hP
    simp only [List.map_cons, compL, h1, h2, noX_ok, T.bind_ok, if_true]
    refine T.allB_bind.mpr (h3 _ d (by omega) fun w d' hw hd' => T.allB_bind.mpr ?_)
    exact compL_draw c m as (fun b hb => h b (List.mem_cons_of_mem _ hb)) (by omega) fun ws d'' hws hd'' => hP (w :: ws) d'' (.cons hw hws) (by omega)
theorem fComp_eq (vs : List Nat) (fi : En → T (List W)) (G : W → En → Option En) (tt : En → T Bool) (fe : En → T W) (ρ : En) : fComp vs fi G tt fe ρ = (fi ρ).bind fun ws => if sizeOk ws then (compL G tt fe (wipeE ρ vs) ws).bind fun xs => .ok (.lst xs) else .bad := rfl
theorem fCh_eq (g g' : W → W → T W) (fa fb fc : En → T W) (ρ : En) : fCh g g' fa fb fc ρ = (fa ρ).bind fun x => (fb ρ).bind fun y => (g x y).bind fun z => match z with
  | .bl true => (fc ρ).bind fun w => g' y w
  | .bl false => .ok (.bl false)
  | _ => .bad := rfl
theorem fSl_eq (fa : En → T W) (fl fh : En → T (Option Int)) (ρ : En) : fSl fa fl fh ρ = (fa ρ).bind fun x => (fl ρ).bind fun l => (fh ρ).bind fun u => slW x l u := rfl
theorem pNo_eq (ρ : En) : pNo ρ = .ok none := rfl
theorem pSome_eq (f : En → T W) (ρ : En) : pSome f ρ = (f ρ).bind fun x => (pInt x).bind fun i => .ok (some i) := rfl
theorem fStar_eq (fa : En → T W) (fs : En → T (List W)) (ρ : En) : fStar fa fs ρ = (fa ρ).bind fun x => (seqW x).bind fun xs => (fs ρ).bind fun ys => .ok (xs ++ ys) := rfl
theorem defF_eq (n np : Nat) (g : En → T (Fl × En)) (ws : List W) (h : (ws.length == np) = true) : defF n np g ws = (g (startE n ws)).bind endOf := by
  unfold defF
  rw [if_pos h]
theorem whileL_all {t : En → T Bool} {gb : En → T (Fl × En)} {E : Nat → Nat → List W → Prop} {Z : Nat → En → Prop} (I : Nat → Nat → En → Prop)
    (step : ∀ m d ρ, I m d ρ → (t ρ).AllB (fun d b => if b then ∃ m', m = m' + 1 ∧ (gb ρ).AllB (fun d x => ∃ ρ2, x = (.nx, ρ2) ∧ I m' d ρ2) E d else Z d ρ) E d) :
    ∀ (m n d : Nat) (ρ : En), m < n → I m d ρ → (whileL t gb n ρ).AllB (fun d x => ∃ ρ2, x = (.nx, ρ2) ∧ Z d ρ2) E d
  | m, 0, d, ρ, h, _ => by omega
  | m, n + 1, d, ρ, h, hi => by
    unfold whileL
    refine T.allB_bind.mpr (T.AllB.imp (fun d1 b hb => ?_) (fun _ _ _ y => y) (step m d ρ hi))
    cases b with
    | false => exact ⟨ρ, rfl, hb⟩
    | true =>
      obtain ⟨m', rfl, hb⟩ := hb
      refine T.allB_bind.mpr (T.AllB.imp (fun d2 x hx => ?_) (fun _ _ _ y => y) hb)
      obtain ⟨ρ2, rfl, h2⟩ := hx
      exact whileL_all I step m' n d2 ρ2 (by omega) h2
theorem toDs_ints : ∀ ns : List Int, toDs (ns.map W.int) = some (ns.map PyData.int)
  | [] => rfl
  | n :: ns => by simp [toDs, toDs_ints ns, W.toD]
theorem shaped_intsT (ns : List Int) : SeqAt.shaped (.tuple (ns.map PyData.int)) = true := by
  have h := dep_ints ns
  unfold SeqAt.shaped
  rw [Bool.and_eq_true]
  exact ⟨lay_ints ns, decide_eq_true (by simp only [PyData.depth]; omega)⟩
theorem eqO_intsT (xs ys : List Int) : eqO (.tup (xs.map W.int)) (.tup (ys.map W.int)) = some (decide (xs = ys)) := by
  unfold eqO
  simp only [W.toD, toDs_ints, Option.map_some, shaped_intsT, Bool.and_self, if_true]
  simp only [PyData.eqv, PySem.W.ked_eqvAll]
theorem eqO_intsL (xs ys : List Int) : eqO (.lst (xs.map W.int)) (.lst (ys.map W.int)) = some (decide (xs = ys)) := by
  unfold eqO
  simp only [W.toD, toDs_ints, Option.map_some, shaped_ints, Bool.and_self, if_true]
  simp only [PyData.eqv, PySem.W.ked_eqvAll]
theorem eqW_intsT (xs ys : List Int) : eqW (.tup (xs.map W.int)) (.tup (ys.map W.int)) = .ok (.bl (decide (xs = ys))) := by
  unfold eqW
  rw [eqO_intsT]
theorem neW_intsT (xs ys : List Int) : neW (.tup (xs.map W.int)) (.tup (ys.map W.int)) = .ok (.bl (!decide (xs = ys))) := by
  unfold neW
  rw [eqO_intsT]
theorem eqW_intsL (xs ys : List Int) : eqW (.lst (xs.map W.int)) (.lst (ys.map W.int)) = .ok (.bl (decide (xs = ys))) := by
  unfold eqW
  rw [eqO_intsL]
theorem neW_intsL (xs ys : List Int) : neW (.lst (xs.map W.int)) (.lst (ys.map W.int)) = .ok (.bl (!decide (xs = ys))) := by
  unfold neW
  rw [eqO_intsL]
theorem eqW_none {α : Type} (as : List α) : eqW (.lst (as.map fun _ => W.int 1)) (.lst []) = .ok (.bl as.isEmpty) := by
  have e : (as.map fun _ => W.int 1) = (as.map fun _ => (1 : Int)).map W.int := by rw [List.map_map]; rfl
  rw [e, show (W.lst [] : W) = .lst (([] : List Int).map W.int) from rfl, eqW_intsL]
  cases as <;> simp
theorem neW_none {α : Type} (as : List α) : neW (.lst (as.map fun _ => W.int 1)) (.lst []) = .ok (.bl (!as.isEmpty)) := by
  have e : (as.map fun _ => W.int 1) = (as.map fun _ => (1 : Int)).map W.int := by rw [List.map_map]; rfl
  rw [e, show (W.lst [] : W) = .lst (([] : List Int).map W.int) from rfl, neW_intsL]
  cases as <;> simp
theorem greatest_ge {ns : List Int} {x : Int} (h : x ∈ ns) : x ≤ greatest ns := by
  cases ns with
  | nil => cases h
  | cons n ns =>
    obtain ⟨a, b, _⟩ := foldl_max_ge ns n
    rcases List.mem_cons.mp h with rfl | h
    · exact a
    · exact b x h
theorem greatest_mem {n : Int} {ns : List Int} : greatest (n :: ns) ∈ n :: ns := by
  obtain ⟨_, _, c⟩ := foldl_max_ge ns n
  rcases c with c | c
  · exact List.mem_cons.mpr (.inl c)
  · exact List.mem_cons.mpr (.inr c)
theorem all2_ints {R : Nat → Int → Prop} : ∀ {as : List Nat} {ws : List W}, All2 (fun a w => ∃ x, w = W.int x ∧ R a x) as ws → as.Nodup → ∃ f : Nat → Int, ws = as.map (fun i => W.int (f i)) ∧ ∀ a ∈ as, R a (f a)
  | _, _, .nil, _ => ⟨fun _ => 0, rfl, fun a h => by cases h⟩
  | _, _, .cons (a := a) (as := as) h r, nd => by
    obtain ⟨x, rfl, hx⟩ := h
    obtain ⟨f, e, hf⟩ := all2_ints r (List.nodup_cons.mp nd).2
    have na := (List.nodup_cons.mp nd).1
    refine ⟨fun i => if i = a then x else f i, ?_, fun b hb => ?_⟩
    · rw [List.map_cons, e]
      simp only [if_true]
      congr 1
      refine List.map_congr_left fun i hi => ?_
      have : i ≠ a := fun z => na (z ▸ hi)
      simp [this]
    · rcases List.mem_cons.mp hb with rfl | hb
      · simpa using hx
      · have : b ≠ a := fun z => na (z ▸ hb)
        simp [this]
        exact hf b hb
/-- drawn ints, one for each of 0, 1, .. -/
theorem compL_ints {G : W → En → Option En} {tt : En → T Bool} {fe : En → T W} {ρ : En} {E : Nat → Nat → List W → Prop} {P : Nat → List W → Prop} {n d : Nat} {m : Nat → W} (R : Nat → Int → Prop) (c : Nat)
    (h : ∀ a, a < n → ∃ ρ1, G (m a) ρ = some ρ1 ∧ tt ρ1 = .ok true ∧ ∀ (Q : Nat → W → Prop) (d : Nat), c ≤ d → (∀ x d', R a x → d ≤ d' + c → Q d' (.int x)) → (noX (fe ρ1)).AllB Q E d) (hd : c * n ≤ d)
    (hP : ∀ (f : Nat → Int) d', (∀ a, a < n → R a (f a)) → d ≤ d' + c * n → P d' ((List.range n).map fun i => W.int (f i))) : (compL G tt fe ρ ((List.range n).map m)).AllB P E d := by
  refine compL_draw (R := fun a w => ∃ x, w = W.int x ∧ R a x) c m (List.range n) (fun a ha => ?_) (by rw [List.length_range]; exact hd) fun ws d' hw hd' => ?_
  · obtain ⟨ρ1, h1, h2, h3⟩ := h a (List.mem_range.mp ha)
    exact ⟨ρ1, h1, h2, fun Q d hd hQ => h3 Q d hd fun x d' hx hd' => hQ _ d' ⟨x, rfl, hx⟩ hd'⟩
  · obtain ⟨f, e, hf⟩ := all2_ints hw List.nodup_range
    rw [e]
    rw [List.length_range] at hd'
    exact hP f d' (fun a ha => hf a (List.mem_range.mpr ha)) hd'
def Sh (n k : Nat) (w : W) : Prop := ∃ d, w.toD = some d ∧ d.showable = true ∧ d.hasDict = false ∧ d.depth ≤ k ∧ d.shown.length ≤ n ∧ d.canLay0 = true
def Shs (n k : Nat) (ws : List W) : Prop := ∃ ds, toDs ws = some ds ∧ PyData.showableAll ds = true ∧ PyData.hasDictAll ds = false ∧ PyData.depthAll ds ≤ k ∧ (∀ t ∈ PyData.shownAll ds, t.length ≤ n) ∧ (PyData.shownAll ds).length = ws.length ∧ PyData.canLayAll0 ds = true
theorem Sh.mono {n k n' k' : Nat} {w : W} (h : Sh n k w) (hn : n ≤ n') (hk : k ≤ k') : Sh n' k' w := by
  obtain ⟨d, h1, h2, h3, h4, h5, h6⟩ := h
  exact ⟨d, h1, h2, h3, by omega, by omega, h6⟩
theorem sh_int {i : Int} (h : i.natAbs < 2 ^ 400) : Sh 402 1 (.int i) := by
  have hl : i.natAbs.log2 < 400 := by
    by_cases h0 : i.natAbs = 0
    · rw [h0]; decide
    · exact (Nat.log2_lt h0).mpr h
  refine ⟨.int i, rfl, by simp [PyData.showable]; omega, by simp [PyData.hasDict], by simp [PyData.depth], ?_, rfl⟩
  have := int_text_length_le (a := i) (k := 400) (by decide) hl
  show (Str.ofString (toString i)).length ≤ 402
  rw [PySem.ofString_length]
  omega
theorem sh_bl (b : Bool) : Sh 402 1 (.bl b) := ⟨.bool b, rfl, by simp [PyData.showable], by simp [PyData.hasDict], by simp [PyData.depth], by cases b <;> decide +kernel, rfl⟩
theorem sh_non : Sh 402 1 .non := ⟨.none, rfl, by simp [PyData.showable], by simp [PyData.hasDict], by simp [PyData.depth], by decide +kernel, rfl⟩
theorem shs_of {n k : Nat} : ∀ {ws : List W}, (∀ w ∈ ws, Sh n k w) → Shs n k ws
  | [], _ => ⟨[], rfl, by simp [PyData.showableAll], by simp [PyData.hasDictAll], by simp [PyData.depthAll], fun t ht => (by simp [PyData.shownAll] at ht), by simp [PyData.shownAll], rfl⟩
  | w :: ws, h => by
    obtain ⟨d, a1, a2, a3, a4, a5, a6⟩ := h w (List.mem_cons_self ..)
    obtain ⟨ds, b1, b2, b3, b4, b5, b6, b7⟩ := shs_of fun u hu => h u (List.mem_cons_of_mem _ hu)
    refine ⟨d :: ds, by simp [toDs, a1, b1], by simp [PyData.showableAll, a2, b2], by simp [PyData.hasDictAll, a3, b3], by simp only [PyData.depthAll]; omega, fun t ht => ?_, by simp [PyData.shownAll, b6], by simp only [PyData.canLayAll0, a6, b7, Bool.and_self]⟩
    simp only [PyData.shownAll, List.mem_cons] at ht
    rcases ht with rfl | ht
    · exact a5
    · exact b5 t ht
theorem piled_le {n : Nat} : ∀ {ts : List Str}, (∀ t ∈ ts, t.length ≤ n) → piled ts ≤ (n + 2) * ts.length
  | [], _ => by simp [piled_nil]
  | t :: ts, h => by
    have h1 := h t (List.mem_cons_self ..)
    have h2 := piled_le (n := n) fun u hu => h u (List.mem_cons_of_mem _ hu)
    rw [piled_cons, List.length_cons, Nat.mul_add]
    omega
theorem listText_le (ts : List Str) : (listText ts).length ≤ piled ts + 2 := by
  unfold listText
  rw [strLen_append]
  have e1 : ((("]" : String) : Str)).length = 1 := rfl
  have e2 : ((("[" : String) : Str)).length = 1 := rfl
  cases ts with
  | nil =>
    show (("[" : String) : Str).length + _ ≤ _
    rw [e1, e2]
    omega
  | cons t ts =>
    have e : textFrom 0 "[" (t :: ts) = textFrom 1 ((("[" : String) : Str) ++ (("" : String) : Str) ++ t) ts := rfl
    have e3 : ((("" : String) : Str)).length = 0 := rfl
    rw [e, textFrom_length_pos _ _ _ (by decide), strLen_append, strLen_append, e1, e2, e3, piled_cons]
    omega
theorem tupleText_le (ts : List Str) : (tupleText ts).length ≤ piled ts + 3 := by
  unfold tupleText
  rw [strLen_append, strLen_append]
  have e1 : ((("(" : String) : Str)).length = 1 := rfl
  have e3 : (((if ts.length == 1 then ",)" else ")" : String) : Str)).length ≤ 2 := by split <;> decide
  cases ts with
  | nil =>
    have : (Str.join ", " []).length = 0 := rfl
    rw [e1, this]
    omega
  | cons t ts =>
    have := join_length_add (t :: ts) (by simp)
    rw [e1]
    omega
theorem sh_tup {n k : Nat} {ws : List W} (h : ∀ w ∈ ws, Sh n k w) : Sh ((n + 2) * ws.length + 4) (k + 1) (.tup ws) := by
  obtain ⟨ds, b1, b2, b3, b4, b5, b6, b7⟩ := shs_of h
  refine ⟨.tuple ds, by simp [W.toD, b1], by simp only [PyData.showable]; exact b2, by simp only [PyData.hasDict]; exact b3, by simp only [PyData.depth]; omega, ?_, by simp only [PyData.canLay0]; exact b7⟩
  simp only [PyData.shown]
  have h1 := tupleText_le (PyData.shownAll ds)
  have h2 := piled_le b5
  rw [b6] at h2
  omega
theorem sh_lst {n k : Nat} {ws : List W} (h : ∀ w ∈ ws, Sh n k w) : Sh ((n + 2) * ws.length + 4) (k + 1) (.lst ws) := by
  obtain ⟨ds, b1, b2, b3, b4, b5, b6, b7⟩ := shs_of h
  refine ⟨.list ds, by simp [W.toD, b1], by simp only [PyData.showable]; exact b2, by simp only [PyData.hasDict]; exact b3, by simp only [PyData.depth]; omega, ?_, by simp only [PyData.canLay0]; exact b7⟩
  simp only [PyData.shown]
  have h1 := listText_le (PyData.shownAll ds)
  have h2 := piled_le b5
  rw [b6] at h2
  omega
theorem repr_is {n k : Nat} {w : W} (h : Sh n k w) (hn : n ≤ 16777216) (hk : k ≤ 60) : ∃ s, reprW [w] = .ok (.str s) := by
  obtain ⟨d, h1, h2, h3, h4, h5, h6⟩ := h
  refine ⟨d.shown, ?_⟩
  have : reprOk d = true := by
    unfold reprOk
    rw [h2, h3, decide_eq_true (by omega), decide_eq_true (by omega)]
    rfl
  simp only [reprW, h1, this, if_true]
theorem sh_ints {ns : List Int} {N : Nat} (hl : ns.length ≤ N) (h : ∀ x ∈ ns, -(2 ^ 399) < x ∧ x < 2 ^ 399) : Sh (404 * N + 4) 2 (.tup (ns.map W.int)) := by
  refine (sh_tup (n := 402) (k := 1) fun w hw => ?_).mono ?_ (by omega)
  · obtain ⟨i, hi, rfl⟩ := List.mem_map.mp hw
    have := h i hi
    exact sh_int (by omega)
  · rw [List.length_map]
    have := Nat.mul_le_mul_left 404 hl
    omega
theorem Sh.low {n k : Nat} {w : W} (h : Sh n k w) : low k w := by
  obtain ⟨d, h1, h2, h3, h4, h5, h6⟩ := h
  exact ⟨d, h1, h6, h4⟩
end PF
namespace PF
open PySem PySem.Spec PyProof.Rows L2
def rInT (K : PySem.W.Frag) (neg : Bool) : R2 := fun x y H Q => ∃ d ds, Dp K H x d ∧ Dp K H y (.tuple ds) ∧ SeqAt.shaped d = true ∧ SeqAt.shaped (.tuple ds) = true ∧ Q (.bl (if neg then !ds.any fun z => PyData.eqv z d else ds.any fun z => PyData.eqv z d)) H
theorem op_inT {X : Cx} (hu : X.A.units + 65 < cLine) : OpR X (compareOp .In) (rInT X.K false) := by
  intro pins s σ H x y v u Q I rx ry h
  obtain ⟨d, ds, hd, he, sd, se, q⟩ := h
  obtain ⟨as, ra⟩ := Dp.reads I d x v hd rx
  obtain ⟨bs, rb⟩ := Dp.reads I (.tuple ds) y u he ry
  exact SeqAt.in_tuple_reads rb ra (SeqAt.canLay_of_shaped se) (SeqAt.canLay_of_shaped sd) (room_in_shaped sd hu) ⟨.bl _, H, I, rfl, q⟩
theorem op_ninT {X : Cx} (hu : X.A.units + 65 < cLine) : OpR X (compareOp .NotIn) (rInT X.K true) := by
  intro pins s σ H x y v u Q I rx ry h
  obtain ⟨d, ds, hd, he, sd, se, q⟩ := h
  obtain ⟨as, ra⟩ := Dp.reads I d x v hd rx
  obtain ⟨bs, rb⟩ := Dp.reads I (.tuple ds) y u he ry
  exact SeqAt.notIn_tuple_reads rb ra (SeqAt.canLay_of_shaped se) (SeqAt.canLay_of_shaped sd) (room_in_shaped sd hu) ⟨.bl _, H, I, rfl, q⟩
def seqD : PyData → Option (List PyData)
  | .list ds => some ds
  | .tuple ds => some ds
  | _ => none
/-- whether x is among y's things -/
def inO (x y : W) : Option Bool := match x.toD, y.toD with
  | some d, some e => match seqD e with
    | some ds => if SeqAt.shaped d && SeqAt.shaped e then some (ds.any fun z => PyData.eqv z d) else none
    | none => none
  | _, _ => none
def inW (x y : W) : T W := match inO x y with
  | some b => .ok (.bl b)
  | none => .bad
def ninW (x y : W) : T W := match inO x y with
  | some b => .ok (.bl !b)
  | none => .bad
theorem inO_some {x y : W} {b : Bool} (h : inO x y = some b) : ∃ d e ds, x.toD = some d ∧ y.toD = some e ∧ seqD e = some ds ∧ SeqAt.shaped d = true ∧ SeqAt.shaped e = true ∧ (ds.any fun z => PyData.eqv z d) = b := by
  unfold inO at h
  split at h
  · rename_i d e h1 h2
    split at h
    · rename_i ds h3
      split at h
      · rename_i hc
        obtain ⟨c1, c2⟩ := Bool.and_eq_true_iff.mp hc
        exact ⟨d, e, ds, h1, h2, h3, c1, c2, Option.some.inj h⟩
      · cases h
    · cases h
  · cases h
theorem seqD_is {e : PyData} {ds : List PyData} (h : seqD e = some ds) : e = .list ds ∨ e = .tuple ds := by
  cases e <;> first | cases h | skip
  · exact .inl rfl
  · exact .inr rfl
theorem sem_in {K : PySem.W.Frag} : Sem2 K (fun x y H Q => rInD K x y H Q ∨ rInT K false x y H Q) inW := fun c d H x y v u Q E' wd rx ry q => by
  unfold inW at q
  split at q
  · rename_i b hb
    obtain ⟨d1, e1, ds, h1, h2, h3, s1, s2, eb⟩ := inO_some hb
    have q := PQ.now wd q (.bl _)
    rw [← eb] at q
    rcases seqD_is h3 with rfl | rfl
    · exact .inl ⟨d1, ds, rx.dp h1, ry.dp h2, s1, s2, q⟩
    · exact .inr ⟨d1, ds, rx.dp h1, ry.dp h2, s1, s2, q⟩
  · exact q.elim
theorem sem_nin {K : PySem.W.Frag} : Sem2 K (fun x y H Q => rNotInD K x y H Q ∨ rInT K true x y H Q) ninW := fun c d H x y v u Q E' wd rx ry q => by
  unfold ninW at q
  split at q
  · rename_i b hb
    obtain ⟨d1, e1, ds, h1, h2, h3, s1, s2, eb⟩ := inO_some hb
    have q := PQ.now wd q (.bl _)
    rw [← eb] at q
    rcases seqD_is h3 with rfl | rfl
    · exact .inl ⟨d1, ds, rx.dp h1, ry.dp h2, s1, s2, q⟩
    · exact .inr ⟨d1, ds, rx.dp h1, ry.dp h2, s1, s2, q⟩
  · exact q.elim
theorem Room.units65 {k : Nat} {A : Around} (r : Room k A) : A.units + 65 < cLine := by
  have := r.un
  omega
theorem op_inW {X : Cx} (hu : X.A.units + 65 < cLine) : OpR X (compareOp .In) (fun x y H Q => rInD X.K x y H Q ∨ rInT X.K false x y H Q) := opR_or (op_inD hu) (op_inT hu)
theorem op_ninW {X : Cx} (hu : X.A.units + 65 < cLine) : OpR X (compareOp .NotIn) (fun x y H Q => rNotInD X.K x y H Q ∨ rInT X.K true x y H Q) := opR_or (op_notInD hu) (op_ninT hu)
def sPar3 (i j l : Nat) (fs : En → T (List W)) : En → T (Fl × En) := fun ρ => (fs ρ).bind fun xs => match xs with
  | [x, y, z] => .ok (.nx, ((ρ.set i (.val x)).set j (.val y)).set l (.val z))
  | _ => .bad
theorem tr_par3 {X : Cx} {E : XK} {st : Stmt} {fs : En → T (List W)} {i j l : Nat} (hp : PS X st (tPar3 i j l (liftA X.K (wOf E) fs))) : TrS X E st (sPar3 i j l fs) := ps_imp hp fun D σ H q => by
  obtain ⟨c, d, oa, ρ, e, q⟩ := q
  refine liftA_thenS (P := fun c H => PSq X.K c H D) e q (fun st p => p.later (.of st e.wd)) fun w v H1 d1 _ r1 e1 h1 => ?_
  cases r1 with
  | nil => exact h1.elim
  | cons r1 r2 =>
    cases r2 with
    | nil => exact h1.elim
    | cons r2 r3 =>
      cases r3 with
      | nil => exact h1.elim
      | cons r3 r4 =>
        cases r4 with
        | nil => exact ⟨_, _, _, rfl, h1 c oa _ H1 .refl (((e1.set r1).set r2).set r3)⟩
        | cons _ _ => exact h1.elim
@[simp] theorem sPar3_eq (i j l : Nat) (fs : En → T (List W)) (ρ : En) : sPar3 i j l fs ρ = (fs ρ).bind fun xs => match xs with
  | [x, y, z] => .ok (.nx, ((ρ.set i (.val x)).set j (.val y)).set l (.val z))
  | _ => .bad := rfl
end PF
namespace PF
open PySem PySem.Spec PyProof.Rows L2
/-- a loop that goes on, or returns w at the first thing of which t holds -/
theorem forL_any {G : W → En → Option En} {gb : En → T (Fl × En)} {α : Type} {I : En → Prop} (m : α → W) (t : α → Bool) (w : W) : ∀ (as : List α), (∀ a ∈ as, ∀ ρ, I ρ → ∃ ρ1, G (m a) ρ = some ρ1 ∧ (t a = true → ∃ ρ2, gb ρ1 = .ok (.rt w, ρ2)) ∧ (t a = false → ∃ ρ2, gb ρ1 = .ok (.nx, ρ2) ∧ I ρ2)) →
    ∀ ρ, I ρ → (as.any t = true → ∃ ρ2, forL G gb (as.map m) ρ = .ok (.rt w, ρ2)) ∧ (as.any t = false → ∃ ρ2, forL G gb (as.map m) ρ = .ok (.nx, ρ2) ∧ I ρ2)
  | [], _, ρ, h => ⟨fun z => (by cases z), fun _ => ⟨ρ, rfl, h⟩⟩
  | a :: as, step, ρ, h => by
    obtain ⟨ρ1, g, s1, s2⟩ := step a (List.mem_cons_self ..) ρ h
    cases ht : t a with
    | true =>
      obtain ⟨ρ2, e⟩ := s1 ht
      refine ⟨fun _ => ⟨ρ2, ?_⟩, fun z => ?_⟩
      · simp only [List.map_cons, forL, g, e, T.bind_ok]
      · simp [ht] at z
    | false =>
      obtain ⟨ρ2, e, h2⟩ := s2 ht
      have ih := forL_any m t w as (fun b hb => step b (List.mem_cons_of_mem _ hb)) ρ2 h2
      simp only [List.any_cons, ht, Bool.false_or]
      refine ⟨fun z => ?_, fun z => ?_⟩
      · obtain ⟨ρ3, e3⟩ := ih.1 z
        exact ⟨ρ3, by simp only [List.map_cons, forL, g, e, T.bind_ok, e3]⟩
      · obtain ⟨ρ3, e3, h3⟩ := ih.2 z
        exact ⟨ρ3, by simp only [List.map_cons, forL, g, e, T.bind_ok, e3], h3⟩
end PF
namespace PF
open PySem PySem.Spec PyProof.Rows L2
def lexI : List Int → List Int → Bool
  | [], [] => false
  | [], _ :: _ => true
  | _ :: _, [] => false
  | x :: xs, y :: ys => if x = y then lexI xs ys else decide (x < y)
theorem lexI_asym : ∀ {x y : List Int}, lexI x y = true → lexI y x = false
  | [], [], h => by cases h
  | [], _ :: _, _ => rfl
  | _ :: _, [], h => by cases h
  | x :: xs, y :: ys, h => by
    unfold lexI at h ⊢
    by_cases e : x = y
    · rw [if_pos e] at h
      rw [if_pos e.symm]
      exact lexI_asym h
    · rw [if_neg e] at h
      rw [if_neg (Ne.symm e)]
      have := of_decide_eq_true h
      exact decide_eq_false (by omega)
theorem lexI_tri : ∀ {x y : List Int}, lexI x y = false → lexI y x = false → x = y
  | [], [], _, _ => rfl
  | [], _ :: _, h, _ => by cases h
  | _ :: _, [], _, h => by cases h
  | x :: xs, y :: ys, h, g => by
    unfold lexI at h g
    by_cases e : x = y
    · rw [if_pos e] at h
      rw [if_pos e.symm] at g
      rw [e, lexI_tri h g]
    · rw [if_neg e] at h
      rw [if_neg (Ne.symm e)] at g
      have := of_decide_eq_false h
      have := of_decide_eq_false g
      omega
theorem lexI_trans : ∀ {x y z : List Int}, lexI x y = true → lexI y z = true → lexI x z = true
  | [], [], _, h, _ => by cases h
  | _ :: _, [], _, h, _ => by cases h
  | [], _ :: _, [], _, h => by cases h
  | [], _ :: _, _ :: _, _, _ => rfl
  | _ :: _, _ :: _, [], _, h => by cases h
  | x :: xs, y :: ys, z :: zs, h, g => by
    unfold lexI at h g ⊢
    by_cases e : x = y
    · rw [if_pos e] at h
      by_cases e2 : y = z
      · rw [if_pos e2] at g
        rw [if_pos (e.trans e2)]
        exact lexI_trans h g
      · rw [if_neg e2] at g
        rw [if_neg (by rw [e]; exact e2), e]
        exact g
    · rw [if_neg e] at h
      have h := of_decide_eq_true h
      by_cases e2 : y = z
      · rw [if_neg (by rw [← e2]; exact e), ← e2]
        exact decide_eq_true h
      · rw [if_neg e2] at g
        have g := of_decide_eq_true g
        rw [if_neg (by omega)]
        exact decide_eq_true (by omega)
theorem lexI_le {x y z : List Int} (h1 : lexI y x = false) (h2 : lexI z y = false) : lexI z x = false := by
  cases h : lexI z x with
  | false => rfl
  | true =>
    cases g : lexI x y with
    | true =>
      have := lexI_trans h g
      rw [this] at h2
      cases h2
    | false =>
      have e := lexI_tri g h1
      rw [e] at h
      rw [h] at h2
      cases h2
def insK (x : List Int) : List (List Int) → List (List Int)
  | [] => [x]
  | y :: ys => if lexI y x then y :: insK x ys else x :: y :: ys
def sortK : List (List Int) → List (List Int)
  | [] => []
  | x :: xs => insK x (sortK xs)
theorem insK_perm (x : List Int) : ∀ l, (insK x l).Perm (x :: l)
  | [] => .refl _
  | y :: ys => by
    unfold insK
    split
    · exact ((insK_perm x ys).cons y).trans (.swap x y ys)
    · exact .refl _
theorem sortK_perm : ∀ l, (sortK l).Perm l
  | [] => .refl _
  | x :: xs => (insK_perm x _).trans ((sortK_perm xs).cons x)
abbrev SrtK (l : List (List Int)) : Prop := l.Pairwise fun x y => lexI y x = false
theorem insK_srt {x : List Int} : ∀ {l}, SrtK l → SrtK (insK x l)
  | [], _ => List.pairwise_singleton _ _
  | y :: ys, h => by
    obtain ⟨h1, h2⟩ := List.pairwise_cons.mp h
    unfold insK
    cases hl : lexI y x with
    | true =>
      rw [if_pos rfl]
      refine List.pairwise_cons.mpr ⟨fun z hz => ?_, insK_srt h2⟩
      rcases List.mem_cons.mp ((insK_perm x ys).mem_iff.mp hz) with rfl | hz
      · exact lexI_asym hl
      · exact h1 z hz
    | false =>
      rw [if_neg (by simp)]
      refine List.pairwise_cons.mpr ⟨fun z hz => ?_, h⟩
      rcases List.mem_cons.mp hz with rfl | hz
      · exact hl
      · exact lexI_le hl (h1 z hz)
theorem sortK_srt : ∀ l, SrtK (sortK l)
  | [] => List.Pairwise.nil
  | x :: xs => insK_srt (sortK_srt xs)
theorem srtK_uniq {l m : List (List Int)} (h : SrtK l) (g : SrtK m) (p : l.Perm m) : l = m := List.Perm.eq_of_pairwise (fun a b _ _ h1 h2 => lexI_tri h2 h1) h g p
def TupI (h : Heap) (v : Value) (ns : List Int) : Prop := ∃ (a : Addr) (o : Obj) (its : List Value) (n : Nat), v = .ref a ∧ h.get? a = some o ∧ o.cls = .type "tuple" ∧ o.data = .seq its.toArray n ∧ IntsAre its ns
theorem TupI.keeps {h h' : Heap} {v : Value} {ns : List Int} (t : TupI h v ns) (k : ∀ b o, h.get? b = some o → o.cls = .type "tuple" → h'.get? b = some o) : TupI h' v ns := by
  obtain ⟨a, o, its, n, e, ho, hc, hd, hi⟩ := t
  exact ⟨a, o, its, n, e, k _ _ ho hc, hc, hd, hi⟩
def numV : Value → Int
  | .int i _ => i
  | _ => 0
def kH (h : Heap) (v : Value) : List Int := match v with
  | .ref a => match h.get? a with
    | some o => match o.data with
      | .seq its _ => its.toList.map numV
      | _ => []
    | none => []
  | _ => []
theorem ints_num : ∀ {its : List Value} {ns : List Int}, IntsAre its ns → its.map numV = ns
  | _, _, .nil => rfl
  | _, _, .cons n t h => by
    rw [List.map_cons, ints_num h]
    rfl
theorem TupI.kH {h : Heap} {v : Value} {ns : List Int} (t : TupI h v ns) : kH h v = ns := by
  obtain ⟨a, o, its, n, rfl, ho, hc, hd, hi⟩ := t
  unfold PF.kH
  simp only [ho, hd]
  exact ints_num hi
section
variable {prog : Program} {w : World} {A : Around} {E : Value → Shared → Prop} {s : Shared} {Q : Bool → Shared → Prop}
theorem kat_ints {b fin : Bool} : ∀ {xs ys : List Value} {ns ms : List Int} (i : Nat), IntsAre xs ns → IntsAre ys ms → fin = decide (ns.length < ms.length) → Q (lexI ns ms) s → PySem.W.KatLex prog w A b fin Q (xs.zip ys) i s
  | _, _, _, _, i, .nil, .nil, hf, q => PySem.W.kat_nil (by rw [hf]; exact q)
  | _, _, _, _, i, .nil, .cons m u _, hf, q => PySem.W.kat_nil (by rw [hf]; exact q)
  | _, _, _, _, i, .cons n t _, .nil, hf, q => PySem.W.kat_nil (by rw [hf]; exact q)
  | _, _, _, _, i, .cons n t (ns := ns) hx, .cons m u (ns := ms) hy, hf, q => by
    refine PySem.W.kat_cons (SeqAt.EqAt.int_int n t m u prog w _ _ ?_)
    refine PySem.W.kat_go (fun e => ?_) (fun e => ?_)
    · have e : n = m := by simpa using e
      refine PySem.W.kat_yes (kat_ints (i + 1) hx hy (by rw [hf]; simp) ?_)
      unfold lexI at q
      rw [if_pos e] at q
      exact q
    · have e : ¬ n = m := by simpa using e
      unfold lexI at q
      rw [if_neg e] at q
      exact PySem.W.kat_no (TS.oneLt_ints _ q)
theorem tup_cmp {vs : List Value} (hp : ∀ v ∈ vs, TupI s.heap v (kH s.heap v)) : SrtO.Cmp prog w A s (tuples' true) (fun p => p.1 ∈ vs) (SrtO.lt2 fun v u => lexI (kH s.heap v) (kH s.heap u)) := by
  intro p q hm hm'
  have h1 := hp _ hm
  have h2 := hp _ hm'
  show wpAny (model prog w) A (keyLt' (tuples' true) p.1 q.1) (fun r s' => s' = s ∧ r = lexI (kH s.heap p.1) (kH s.heap q.1)) (fun _ _ => False) s
  generalize kH s.heap p.1 = x at h1 ⊢
  generalize kH s.heap q.1 = y at h2 ⊢
  obtain ⟨a, o, its, n, e, ho, hc, hd, hi⟩ := h1
  obtain ⟨a', o', its', n', e', ho', hc', hd', hi'⟩ := h2
  rw [e, e']
  refine PySem.W.kat_lt ho hd ho' hd' ?_
  have l1 := hi.length
  have l2 := hi'.length
  exact kat_ints 0 hi hi' (by simp only [List.size_toArray]; rw [l1, l2]) ⟨rfl, rfl⟩
theorem tup_firsts {h : Heap} : ∀ {vs : List Value}, (∀ v ∈ vs, ∃ ns, TupI h v ns ∧ ns ≠ []) → ∃ fs : List Value, PySem.W.KatTups h vs fs ∧ fs.length = vs.length ∧ ∀ f ∈ fs, ∃ x t, f = Value.int x t
  | [], _ => ⟨[], PySem.W.KatTups.nil, rfl, fun _ hm => by simp at hm⟩
  | v :: vs, hp => by
    obtain ⟨fs, h1, h2, h3⟩ := tup_firsts (vs := vs) fun u hm => hp u (List.mem_cons_of_mem _ hm)
    obtain ⟨ns, ⟨a, o, its, n, rfl, ho, hc, hd, hi⟩, hne⟩ := hp v (List.mem_cons_self ..)
    cases hi with
    | nil => exact absurd rfl hne
    | cons x t r =>
      refine ⟨.int x t :: fs, PySem.W.KatTups.cons ho hc hd rfl h1, by rw [List.length_cons, List.length_cons, h2], fun f hm => ?_⟩
      rcases List.mem_cons.mp hm with rfl | hm
      · exact ⟨x, t, rfl⟩
      · exact h3 f hm
theorem tup_sortable {a : Addr} {vs : List Value} {k : Value → List Int} (h0 : 0 < vs.length) (hp : ∀ v ∈ vs, TupI s.heap v (k v) ∧ k v ≠ []) (ha : ∀ o, s.heap.get? a = some o → o.cls ≠ .type "tuple") : SrtO.SortableO prog w A s a vs fun v u => lexI (k v) (k u) := by
  intro h' keep
  have hp' : ∀ v ∈ vs, TupI h' v (k v) := fun v hm => (hp v hm).1.keeps fun b o e c => keep b o (fun z => by subst z; exact ha o e c) e
  obtain ⟨fs, h1, h2, h3⟩ := tup_firsts fun v hm => ⟨_, hp' v hm, (hp v hm).2⟩
  refine ⟨tuples' true, fun Q E hq => ?_, fun p q hm hm' => ?_⟩
  · refine PySem.W.kat_kind (T := .type "int") h1 (by omega) (fun f hm => ?_) (by rfl) ?_
    · obtain ⟨x, t, rfl⟩ := h3 f hm
      exact PySem.W.Looks.now
    · have e : (Value.type "int" != Value.type "tuple") = true := by first | decide +kernel | rfl | decide
      rw [e]
      exact hq
  · have c := tup_cmp (prog := prog) (w := w) (A := A) (s := { s with heap := h' }) (vs := vs) (fun v hv => by rw [(hp' v hv).kH]; exact hp' v hv) p q hm hm'
    have e1 : kH h' p.1 = k p.1 := (hp' _ hm).kH
    have e2 : kH h' q.1 = k q.1 := (hp' _ hm').kH
    refine wpAny_mono c (fun r s' z => ⟨z.1, z.2.trans ?_⟩) fun _ _ z => z
    show lexI (kH h' p.1) (kH h' q.1) = lexI (k p.1) (k q.1)
    rw [e1, e2]
end
theorem swoI (k : Value → List Int) : SrtO.Swo fun v u => lexI (k v) (k u) := ⟨fun _ _ h => lexI_asym h, fun _ _ _ h1 h2 => lexI_le h1 h2⟩
theorem sorted_tups {prog : Program} {w : World} {A : Around} {E : Value → Shared → Prop} {s : Shared} {l : Addr} {vs : List Value} {k : Value → List Int} {Q : Value → Shared → Prop} (hl : s.heap.IsList l vs.toArray) (hz : vs.length ≤ sizeLine) (hp : ∀ v ∈ vs, TupI s.heap v (k v) ∧ k v ≠ [])
    (h : ∀ (h' : Heap) (d : Addr) (out : List Value), SrtO.Srtd (fun v u => lexI (k v) (k u)) out → out.Perm vs → (∀ b o, s.heap.get? b = some o → h'.get? b = some o) → s.heap.objs.size ≤ d → (∃ n, h'.get? d = some (seqObj "list" out.toArray n)) → Q (.ref d) { s with heap := h' }) :
    wpAny (model prog w) A (call (.builtin "sorted") [.ref l]) Q E s := by
  refine SrtO.sorted_ord (swoI k) hl hz (fun h2 h₁ a ha kk => ?_) fun out hs hb => ?_
  · refine tup_sortable (s := { s with heap := h₁ }) (by omega) (fun v hm => ⟨(hp v hm).1.keeps fun b o e _ => (kk b o e).2, (hp v hm).2⟩) fun o e => ?_
    have e' : some o = some (seqObj "list" vs.toArray 0) := e.symm.trans ha
    cases e'
    exact fun c => absurd (Value.type.inj c) (by decide)
  · exact h _ _ out hs hb.perm (fun b o e => sortedAll_old e) (Nat.le_succ _) (sortedAll_at s.heap vs out.toArray)
inductive PT (K : PySem.W.Frag) (H : Hp) : List (List Int) → List V → Prop
  | nil : PT K H [] []
  | cons {ns : List Int} {t : Addr} {kss : List (List Int)} {xs : List V} : SqT K H t (ns.map V.int) → PT K H kss xs → PT K H (ns :: kss) (.ref t :: xs)
def rSortT (K : PySem.W.Frag) : List V → Hp → VK → Prop := fun vs H Q => ∃ (a : Addr) (xs : List V) (kss : List (List Int)), vs = [V.ref a] ∧ SqL K H a xs ∧ PT K H kss xs ∧ (∀ ns ∈ kss, ns ≠ []) ∧ ∀ ys p, PT K H (sortK kss) ys → H p = none → Q (.ref p) (L2.upd H p (.lst ys))
section
variable {X : Cx} {pins : List (Addr × Obj)} {σ : L2.St} {H : Hp} {s : Shared}
theorem ints_of : ∀ {ns : List Int} {us : List Value}, Vals (ns.map V.int) us → IntsAre us ns
  | [], _, .nil => .nil
  | n :: ns, _, .cons r t => by
    obtain ⟨u, rfl⟩ := r
    exact .cons n u (ints_of t)
theorem PT.tups (I : Inv X pins σ H s) : ∀ {kss : List (List Int)} {xs : List V} {us : List Value}, PT X.K H kss xs → Vals xs us → xs = us.map backV ∧ us.map (kH s.heap) = kss ∧ (∀ u ∈ us, ∃ t, u = .ref t ∧ TupI s.heap u (kH s.heap u) ∧ SqT X.K H t ((kH s.heap u).map V.int))
  | _, _, _, .nil, .nil => ⟨rfl, rfl, fun u h => by cases h⟩
  | _, _, _, .cons (ns := ns) (t := t) hs r, .cons (b := u) ru rr => by
    have ru : u = Value.ref t := ru
    subst ru
    obtain ⟨e1, e2, e3⟩ := PT.tups I r rr
    obtain ⟨its, rv, ⟨o, ho, hc, n, hd⟩, _⟩ := I.tuple hs
    have ti : TupI s.heap (.ref t) ns := ⟨t, o, its, n, rfl, ho, hc, hd, ints_of rv⟩
    refine ⟨by rw [e1]; rfl, by rw [List.map_cons, e2, ti.kH], fun v hv => ?_⟩
    rcases List.mem_cons.mp hv with rfl | hv
    · exact ⟨t, rfl, by rw [ti.kH]; exact ti, by rw [ti.kH]; exact hs⟩
    · exact e3 v hv
theorem PT.back {K : PySem.W.Frag} {h : Heap} : ∀ {out : List Value}, (∀ u ∈ out, ∃ t, u = Value.ref t ∧ SqT K H t ((kH h u).map V.int)) → PT K H (out.map (kH h)) (out.map backV)
  | [], _ => .nil
  | u :: out, hp => by
    obtain ⟨t, rfl, hs⟩ := hp u (List.mem_cons_self ..)
    exact .cons hs (PT.back fun v hv => hp v (List.mem_cons_of_mem _ hv))
theorem cr_sortT : CallR X (.builtin "sorted") (rSortT X.K) := by
  intro pins s σ H vs us Q I r h
  obtain ⟨a, xs, kss, rfl, hs, hp, hne, q⟩ := h
  obtain ⟨its, rv, hl, hz⟩ := I.list hs
  obtain ⟨u, rfl, ru⟩ := vals1 r
  obtain rfl : u = Value.ref a := ru
  obtain ⟨e1, e2, e3⟩ := PT.tups I hp rv
  refine sorted_tups (k := kH s.heap) hl.isList (by rw [← rv.length]; exact hz) (fun v hv => ?_) fun h' d out h1 h2 kp hd hn => ?_
  · obtain ⟨t, _, ti, _⟩ := e3 v hv
    exact ⟨ti, hne _ (by rw [← e2]; exact List.mem_map.mpr ⟨v, hv, rfl⟩)⟩
  · have h3 : ∀ u ∈ out, ∃ t, u = Value.ref t ∧ SqT X.K H t ((kH s.heap u).map V.int) := fun u hu => by
      obtain ⟨t, e, _, z⟩ := e3 u (h2.mem_iff.mp hu)
      exact ⟨t, e, z⟩
    obtain ⟨n, hn⟩ := hn
    have ek : out.map (kH s.heap) = sortK kss := by
      refine srtK_uniq (List.pairwise_map.mpr h1) (sortK_srt kss) ?_
      exact (h2.map _).trans (by rw [e2]; exact (sortK_perm kss).symm)
    have pb := PT.back h3
    rw [ek] at pb
    refine ⟨.ref d, L2.upd H d (.lst (out.map backV)), I.laid (t' := s.toks) kp hd ⟨?_, out, n, vals_back fun u hu => ?_, hn⟩, rfl, q _ d pb (I.hok.fresh hd)⟩
    · rw [List.length_map, h2.length_eq, ← rv.length]
      exact hz
    · obtain ⟨t, e, _⟩ := h3 u hu
      exact ⟨t, e⟩
end
def rowsW : List W → Option (List (List Int))
  | [] => some []
  | .tup us :: ws => match intsW us, rowsW ws with
    | some (n :: ns), some kss => some ((n :: ns) :: kss)
    | _, _ => none
  | _ => none
theorem rowsW_map : ∀ {ws : List W} {kss : List (List Int)}, rowsW ws = some kss → ws = kss.map (fun ns => W.tup (ns.map W.int)) ∧ ∀ ns ∈ kss, ns ≠ []
  | [], kss, h => by
    cases h
    exact ⟨rfl, fun _ h => by cases h⟩
  | w :: ws, kss, h => by
    cases w with
    | tup us =>
      simp only [rowsW] at h
      split at h
      · rename_i n ns ks h1 h2
        cases h
        obtain ⟨e, hn⟩ := rowsW_map h2
        refine ⟨by rw [e, intsW_map h1]; rfl, fun x hx => ?_⟩
        rcases List.mem_cons.mp hx with rfl | hx
        · simp
        · exact hn x hx
      · cases h
    | _ => cases h
theorem rowsW_of : ∀ {kss : List (List Int)}, (∀ ns ∈ kss, ns ≠ []) → rowsW (kss.map (fun ns => W.tup (ns.map W.int))) = some kss
  | [], _ => rfl
  | [] :: kss, h => absurd rfl (h [] (List.mem_cons_self ..))
  | (n :: ns) :: kss, h => by
    have ih := rowsW_of fun x hx => h x (List.mem_cons_of_mem _ hx)
    have e : intsW ((n :: ns).map W.int) = some (n :: ns) := intsW_of _
    simp only [List.map_cons] at e ⊢
    simp only [rowsW, e, ih]
def sortedW : List W → T W
  | [.lst ws] => match rowsW ws with
    | some kss => .ok (.lst ((sortK kss).map fun ns => W.tup (ns.map W.int)))
    | none => .bad
  | _ => .bad
theorem RepL.pt {K : PySem.W.Frag} {c : Cc} {H : Hp} : ∀ {kss : List (List Int)} {xs : List V}, RepL K c H (kss.map fun ns => W.tup (ns.map W.int)) xs → PT K H kss xs
  | [], _, .nil => .nil
  | ns :: kss, _, .cons h r => by
    cases h with
    | tup hs rl =>
      rw [rl.ints] at hs
      exact .cons hs (RepL.pt r)
theorem PT.rep {K : PySem.W.Frag} {c : Cc} {H : Hp} : ∀ {kss : List (List Int)} {xs : List V}, PT K H kss xs → RepL K c H (kss.map fun ns => W.tup (ns.map W.int)) xs
  | _, _, .nil => .nil
  | _, _, .cons h r => .cons (.tup h (RepL.ofInts _)) (PT.rep r)
theorem sem_sorted {K : PySem.W.Frag} : SemL K (rSortT K) sortedW := fun c d H x v Q E' wd rx q => by
  cases rx with
  | nil => exact q.elim
  | cons r rr =>
    cases rr with
    | cons _ _ => cases r <;> exact q.elim
    | nil =>
      cases r with
      | lst n hq rl =>
        simp only [sortedW] at q
        split at q
        · rename_i kss hk
          obtain ⟨e, hn⟩ := rowsW_map hk
          rw [e] at rl
          refine ⟨_, _, kss, rfl, SqL.of hq, rl.pt, hn, fun ys p hp hf => ?_⟩
          exact q _ _ (.new hf) (wd.st.new hf) (.lst (wd.fresh hf) upd_same ((hp.rep).step (.new hf) wd.st wd.ok))
        · exact q.elim
      | _ => exact q.elim
theorem bo_sorted : bootBuiltins "sorted" = some (.builtin "sorted") := by decide +kernel
end PF
namespace PF
open PySem PySem.Spec PyProof.Rows L2
def SqB (K : PySem.W.Frag) (b : Bool) (H : Hp) (a : Addr) (xs : List V) : Prop := match b with
  | true => SqT K H a xs
  | false => SqL K H a xs
def hpB (b : Bool) (h : Heap) (a : Addr) (its : Array Value) : Prop := match b with
  | true => h.IsTuple a its
  | false => h.IsList a its
def itB (b : Bool) (h : Heap) (it a : Addr) (i : Nat) : Prop := match b with
  | true => h.IsTupleIter it a i
  | false => h.IsListIter it a i
def obB (b : Bool) (a : Addr) : Obj := { cls := .type (match b with | true => "tuple_iterator" | false => "list_iterator"), data := .fields #[.ref a, .int 0 0] }
theorem seqB {X : Cx} {pins : List (Addr × Obj)} {σ : L2.St} {H : Hp} {s : Shared} {b : Bool} {a : Addr} {xs : List V} (I : Inv X pins σ H s) (h : SqB X.K b H a xs) : ∃ its, Vals xs its ∧ hpB b s.heap a its.toArray := by
  cases b with
  | true =>
    obtain ⟨its, rv, p, _⟩ := I.tuple h
    exact ⟨its, rv, p⟩
  | false =>
    obtain ⟨its, rv, p, _⟩ := I.list h
    exact ⟨its, rv, p.isList⟩
theorem seqB_inj {X : Cx} {pins : List (Addr × Obj)} {σ : L2.St} {H : Hp} {s : Shared} {b : Bool} {a : Addr} {xs ys : List V} (I : Inv X pins σ H s) (h : SqB X.K b H a xs) (g : SqB X.K b H a ys) : xs = ys := by
  cases b with
  | true => exact I.tuple_inj h g
  | false => exact I.list_inj h g
theorem hpB.lt {b : Bool} {h : Heap} {a : Addr} {its : Array Value} (p : hpB b h a its) : a < h.objs.size := by
  cases b with
  | true =>
    obtain ⟨_, q, _⟩ := id (show h.IsTuple a its from p)
    exact Heap.lt_size q
  | false =>
    obtain ⟨_, q, _⟩ := id (show h.IsList a its from p)
    exact Heap.lt_size q
theorem itB.keep {b : Bool} {h h' : Heap} {it a : Addr} {i : Nat} (p : itB b h it a i) (k : ∀ o, h.get? it = some o → h'.get? it = some o) : itB b h' it a i := by
  cases b with
  | true => exact Heap.IsTupleIter.at (show h.IsTupleIter it a i from p) k
  | false => exact Heap.IsListIter.at (show h.IsListIter it a i from p) k
theorem itB.obj {b : Bool} {h : Heap} {it a : Addr} {i : Nat} (p : itB b h it a i) : ∃ o fs, h.get? it = some o ∧ o.data = .fields fs := by
  cases b with
  | true =>
    obtain ⟨o, q, _, d⟩ := (show h.IsTupleIter it a i from p)
    exact ⟨o, _, q, d⟩
  | false =>
    obtain ⟨o, q, _, d⟩ := (show h.IsListIter it a i from p)
    exact ⟨o, _, q, d⟩
theorem drawsB {prog : Program} {w : World} {A : Around} (hh : A.handled = none) (b : Bool) (it a : Addr) (n : a ≠ it) (its : Array Value) : Draws prog w A it [it, a] its.size (fun i v => its[i]? = some v) (fun i h => itB b h it a i ∧ hpB b h a its) := by
  cases b with
  | true => exact Draws.tuple hh it a n its
  | false => exact Draws.list hh it a n its
theorem beginsB (b : Bool) (a : Addr) (its : Array Value) : Begins (.ref a) (obB b a) fun h => hpB b h a its := by
  cases b with
  | true => exact begins_tuple a its
  | false => exact begins_list a its
theorem itB.first {b : Bool} {h : Heap} {it a : Addr} (p : h.get? it = some (obB b a)) : itB b h it a 0 := by
  cases b with
  | true => exact ⟨_, p, rfl, rfl⟩
  | false => exact ⟨_, p, rfl, rfl⟩
/-- two rows of either kind, item by item in new pairs -/
def ItzB (K : PySem.W.Frag) (b1 b2 : Bool) (a b : Addr) (n m : Nat) : It :=
  ⟨fun i H => (i < n ∧ i < m) ∧ ∃ (xs ys : List V) (x y : V), SqB K b1 H a xs ∧ SqB K b2 H b ys ∧ (xs.length = n ∧ ys.length = m) ∧ xs[i]? = some x ∧ ys[i]? = some y,
    fun i H v H' => ∃ T x y, v = .ref T ∧ H T = none ∧ H' = upd H T (.tup [x, y]) ∧ (∀ xs, SqB K b1 H a xs → xs[i]? = some x) ∧ ∀ ys, SqB K b2 H b ys → ys[i]? = some y,
    fun i H => (n ≤ i ∨ m ≤ i) ∧ ∃ xs ys : List V, SqB K b1 H a xs ∧ SqB K b2 H b ys ∧ xs.length = n ∧ ys.length = m⟩
theorem in5 {P : Addr → Prop} {z TI TO i1 i2 : Addr} (h1 : P z) (h2 : P TI) (h3 : P TO) (h4 : P i1) (h5 : P i2) : ∀ c, c ∈ [z, TI, TO, i1, i2] → P c := fun c hc => by
  simp only [List.mem_cons, List.not_mem_nil, or_false] at hc
  rcases hc with e | e | e | e | e <;> (rw [e]; assumption)
theorem turn_zB {P : Program} {w : World} {K : PySem.W.Frag} {elts : List Expr} {kk : Nat} {tpos : Pos} {b1 b2 : Bool} {a b z TI TO i1 i2 : Addr} (n m : Nat) (D : ZipSep2 z TI TO i1 i2 [i1, a] [i2, b]) (na : a ≠ i1) (nb : b ≠ i2) :
    Turn P w K (.Tuple elts kk tpos) (ItzB K b1 b2 a b n m) [z, TI, TO, i1, i2] z (fun i h => IsZip h z TI TO .none ∧ IsTupOf2 h TI (.ref i1) (.ref i2) ∧ (∃ x y, IsTupOf2 h TO x y) ∧ itB b1 h i1 a i ∧ itB b2 h i2 b i ∧ i ≤ n ∧ i ≤ m) where
  mem := List.mem_cons_self ..
  obj := fun i h st => by
    obtain ⟨hz, hTI, ⟨x, y, hTO⟩, p1, p2, _⟩ := st
    obtain ⟨o1, f1, e1, d1⟩ := p1.obj
    obtain ⟨o2, f2, e2, d2⟩ := p2.obj
    refine in5 ⟨_, hz, fun v q => nomatch q⟩ ⟨_, hTI, fun v q => nomatch q⟩ ⟨_, hTO, fun v q => nomatch q⟩ ⟨o1, e1, fun v q => ?_⟩ ⟨o2, e2, fun v q => ?_⟩
    · rw [d1] at q
      cases q
    · rw [d2] at q
      cases q
  keep := fun i h h' st k => by
    obtain ⟨hz, hTI, ⟨x, y, hTO⟩, p1, p2, le⟩ := st
    exact ⟨k z (by simp) _ hz, k TI (by simp) _ hTI, ⟨x, y, k TO (by simp) _ hTO⟩, p1.keep (k i1 (by simp)), p2.keep (k i2 (by simp)), le⟩
  item := by
    intro X hP hw hK hc i pins s σ H E I hf st hg
    subst hP hw hK
    obtain ⟨hz, hTI, ⟨x0, y0, hTO⟩, p1, p2, _⟩ := st
    obtain ⟨hi, xs, ys, x, y, qx, qy, hl, hx, hy⟩ := hg
    obtain ⟨its, rv, r1⟩ := seqB I qx
    obtain ⟨its2, rv2, r2⟩ := seqB I qy
    obtain ⟨u, hu, ru⟩ := rv.get hx
    obtain ⟨u2, hu2, ru2⟩ := rv2.get hy
    have l1 := rv.length
    have l2 := rv2.length
    have zl : z < s.heap.objs.size := Heap.lt_size hz
    have D1 := drawsB (prog := X.prog) (w := X.w) (A := X.A.in1) (I.ok.hd hc) b1 i1 a na its.toArray
    have D2 := drawsB (prog := X.prog) (w := X.w) (A := X.A.in1) (I.ok.hd hc) b2 i2 b nb its2.toArray
    refine wpAny_pyNext_zipD2_item D D1 D2 hz hTI hTO ⟨p1, r1⟩ ⟨p2, r2⟩ (by simp; omega) (by simp; omega) fun x1 x2 h' tk g1 g2 z' TO' s1 s2 hT hsz hk => ?_
    have eu : x1 = u := by
      have g1 : its[i]? = some x1 := by simpa using g1
      rw [hu] at g1
      exact (Option.some.inj g1).symm
    have eu2 : x2 = u2 := by
      have g2 : its2[i]? = some x2 := by simpa using g2
      rw [hu2] at g2
      exact (Option.some.inj g2).symm
    subst eu eu2
    refine ⟨_, rfl, wpAny_letOwnedTupleGo_zip (s := { s with heap := h', toks := tk }) z' fun h'' z'' sb => ?_⟩
    have hT2 : h''.get? s.heap.objs.size = some { cls := .type "tuple", data := .seq #[x1, x2] } := (sb.2 _ (Nat.ne_of_gt zl)).trans hT
    have nw : ObjOk X.prog X.w (upd H s.heap.objs.size (.tup [x, y])) h'' s.heap.objs.size (.tup [x, y]) := ⟨by show 2 ≤ sizeLine; decide, [x1, x2], .cons ru (.cons ru2 .nil), ⟨_, hT2, rfl, _, rfl⟩⟩
    have out : ∀ c o, c ∉ [z, TI, TO, i1, i2] → s.heap.get? c = some o → h''.get? c = some o := fun c o hb q => by
      simp only [List.mem_cons, List.not_mem_nil, or_false, not_or] at hb
      exact (sb.2 c hb.1).trans (hk c o hb.1 hb.2.2.1 hb.2.2.2.1 hb.2.2.2.2 q)
    have I1 : Inv X pins σ (upd H s.heap.objs.size (.tup [x, y])) { s with heap := h'', toks := tk } := I.turnedNew (ch := [z, TI, TO, i1, i2]) out hf (Nat.le_refl _) nw
    refine ⟨.ref s.heap.objs.size, _, I1, rfl, ⟨_, x, y, rfl, I.hok.fresh (Nat.le_refl _), rfl, fun l q => by rw [seqB_inj I q qx]; exact hx, fun l q => by rw [seqB_inj I q qy]; exact hy⟩, ⟨z'', ?_, ⟨x1, x2, ?_⟩, ?_, ?_, hi.1, hi.2⟩, fun c hcm => ?_⟩
    · exact (sb.2 _ D.TIz).trans (hk _ _ D.TIz D.TITO D.TIi1 D.TIi2 hTI)
    · exact (sb.2 _ D.TOz).trans TO'
    · exact s1.1.keep fun o q => (sb.2 _ (Ne.symm D.zi1)).trans q
    · exact s2.1.keep fun o q => (sb.2 _ (Ne.symm D.zi2)).trans q
    · obtain ⟨_, _, e1, _⟩ := p1.obj
      obtain ⟨_, _, e2, _⟩ := p2.obj
      have hlt : c < s.heap.objs.size := in5 (P := fun c => c < s.heap.objs.size) zl (Heap.lt_size hTI) (Heap.lt_size hTO) (Heap.lt_size e1) (Heap.lt_size e2) c hcm
      rw [upd_ne (Nat.ne_of_lt hlt)]
      exact (hf c hcm).1
  done := by
    intro X hP hw hK hc i pins s σ H E I hf st hg
    subst hP hw hK
    obtain ⟨hz, hTI, ⟨x0, y0, hTO⟩, p1, p2, le1, le2⟩ := st
    obtain ⟨he, xs, ys, qx, qy, lx, ly⟩ := hg
    obtain ⟨its, rv, r1⟩ := seqB I qx
    obtain ⟨its2, rv2, r2⟩ := seqB I qy
    have l1 := rv.length
    have l2 := rv2.length
    have D1 := drawsB (prog := X.prog) (w := X.w) (A := X.A.in1) (I.ok.hd hc) b1 i1 a na its.toArray
    have D2 := drawsB (prog := X.prog) (w := X.w) (A := X.A.in1) (I.ok.hd hc) b2 i2 b nb its2.toArray
    refine wpAny_pyNext_zipD2_end D D1 D2 hz hTI hTO ⟨p1, r1⟩ ⟨p2, r2⟩ (by simp; omega) (by simp; omega) (by simp; omega) fun h' tk hk => ⟨rfl, I.turnedL (ch := [z, TI, TO, i1, i2]) (fun c o hb q => ?_) hf⟩
    simp only [List.mem_cons, List.not_mem_nil, or_false, not_or] at hb
    exact hk c o hb.1 hb.2.2.1 hb.2.2.2.1 hb.2.2.2.2 q
  self := fun A i s Q E st h => wpAny_pyIter_zip st.1 h
theorem sep_zB {I l m : Nat} (h1 : l < I) (h2 : m < I) : ZipSep2 (I + 4) (I + 2) (I + 3) I (I + 1) [I, l] [I + 1, m] := by
  have no : ∀ {x y z : Nat}, x ≠ y → x ≠ z → x ∉ [y, z] := fun a b q => by
    rcases List.mem_cons.mp q with q | q
    · exact a q
    · exact b (List.mem_singleton.mp q)
  have mm : ∀ {x y : Nat}, x ∈ [x, y] := List.mem_cons_self ..
  exact ⟨by show (_ : Nat) ≠ _; omega, by show (_ : Nat) ≠ _; omega, by show (_ : Nat) ≠ _; omega, by show (_ : Nat) ≠ _; omega, mm, no (by omega) (by omega), no (by omega) (by omega), by show (_ : Nat) ≠ _; omega, mm, no (by omega) (by omega), no (by omega) (by omega), no (by omega) (by omega), no (by omega) (by omega)⟩
def iZB (K : PySem.W.Frag) (ta : TA) : TI := fun σ H R => ta σ H fun vs H1 => ∃ b1 b2 a b xs ys, vs = [.ref a, .ref b] ∧ SqB K b1 H1 a xs ∧ SqB K b2 H1 b ys ∧ R (ItzB K b1 b2 a b xs.length ys.length) H1
theorem pi_zB {X : Cx} {e e2 : Expr} {ta : TA} {p pos tpos : Pos} {elts : List Expr} {kk : Nat} (hg : Gl X "zip") (hm : X.mg "zip" = none) (ha : PA X [e, e2] ta)
    (hs : starEach [e, e2] X.env = (false, eval e X.env) :: starEach [e2] X.env := by rfl) (hpl : (backTo pos (starEach [e2] X.env)).any (·.1) = false := by rfl) :
    PI X (.Tuple elts kk tpos) (.Call (.Name "zip" p) [e, e2] [] pos) (iZB X.K ta) := by
  refine ⟨fun pins s σ H R I h => Call_ (ld_blt I hg hm PyProof.Rows.boot_zip (PyProof.Rows.callWith_type1 (thn (ha.run pos pins s σ H _ I h) fun us s1 ⟨vs, H1, I1, r1, q1⟩ => ?_) hs hpl))⟩
  obtain ⟨b1, b2, a, b, xs, ys, rfl, qx, qy, q⟩ := q1
  cases r1 with
  | cons r rr =>
    cases rr with
    | cons r' rr =>
      cases rr
      cases r
      cases r'
      obtain ⟨its, rv, p1⟩ := seqB I1 qx
      obtain ⟨its2, rv2, p2⟩ := seqB I1 qy
      have la := p1.lt
      have lb := p2.lt
      refine zip_begins2 (beginsB b1 a its.toArray) (beginsB b2 b its2.toArray) p1 p2 fun h' hz hTI hTO g1 g2 hsz hk => wpAny_pyIter_zip hz ?_
      have I2 : Inv X pins σ H1 { s1 with heap := h' } := I1.kept (t' := s1.toks) hk
      have fp : ∀ c, s1.heap.objs.size ≤ c → FpOk X pins H1 c := fun c hle => I1.fpOk hle (I1.hok.fresh hle)
      exact ⟨_, [s1.heap.objs.size + 4, s1.heap.objs.size + 2, s1.heap.objs.size + 3, s1.heap.objs.size, s1.heap.objs.size + 1], _, _, H1, rfl, I2, turn_zB xs.length ys.length (sep_zB la lb) (Nat.ne_of_lt la) (Nat.ne_of_lt (Nat.lt_succ_of_lt lb)), ⟨hz, hTI, ⟨_, _, hTO⟩, .first g1, .first g2, Nat.zero_le _, Nat.zero_le _⟩, in5 (fp _ (Nat.le_add_right _ _)) (fp _ (Nat.le_add_right _ _)) (fp _ (Nat.le_add_right _ _)) (fp _ (Nat.le_refl _)) (fp _ (Nat.le_add_right _ _)), q⟩
def isTW : W → Option (Bool × List W)
  | .tup ws => some (true, ws)
  | .lst ws => some (false, ws)
  | _ => none
/-- zip of rows of either kind -/
def zbW : List W → T (List W)
  | [x, y] => match isTW x, isTW y with
    | some (_, ws), some (_, us) => .ok (zipF ws us)
    | _, _ => .bad
  | _ => .bad
section
variable {K : PySem.W.Frag} {c : Cc} {d : Nat} {H H1 : Hp}
/-- a row that is plain data -/
def RowB (K : PySem.W.Frag) (c : Cc) (H : Hp) (b : Bool) (a : Addr) (vs : List V) : Prop := match b with
  | true => SqT K H a vs
  | false => a ∉ c.A ∧ H a = some (.lst vs)
theorem RowB.sq {b : Bool} {a : Addr} {vs : List V} (h : RowB K c H b a vs) : SqB K b H a vs := by
  cases b with
  | true => exact h
  | false => exact SqL.of h.2
theorem RowB.fwd {c' : Cc} {H' : Hp} {b : Bool} {a : Addr} {vs : List V} (ok : CcOk c) (mo : MOk c H) (h : RowB K c H b a vs) (fw : Fwd K c H c' H') : SqB K b H' a vs := by
  cases b with
  | true => exact fw.sq a vs h
  | false => exact SqL.of (fw.step _ _ h.2 (ok.neS h.1) (ok.nela h.1) (fun z => h.1 (mo.inA _ z)) nofun)
theorem it_zB {b1 b2 : Bool} {a b : Addr} {vs us : List V} {ws zs : List W} (ok : CcOk c) (mo : MOk c H) (hq : RowB K c H b1 a vs) (rl : RepL K c H ws vs) (hp : RowB K c H b2 b us) (rm : RepL K c H zs us) : ItOk K c H (ItzB K b1 b2 a b vs.length us.length) (zipF ws zs) := fun c' H' d' i fw wd => by
  have hq' := hq.fwd ok mo fw
  have hp' := hp.fwd ok mo fw
  refine ⟨fun w hw => ?_, fun hi => ?_⟩
  · obtain ⟨w1, w2, h1, h2, rfl⟩ := zipF_get _ _ _ _ hw
    obtain ⟨v, hv, rv⟩ := rl.get h1
    obtain ⟨u, hu, ru⟩ := rm.get h2
    refine ⟨⟨⟨(List.getElem?_eq_some_iff.mp hv).1, (List.getElem?_eq_some_iff.mp hu).1⟩, vs, us, v, u, hq', hp', ⟨rfl, rfl⟩, hv, hu⟩, fun x H2 y => ?_⟩
    obtain ⟨T, x', y', rfl, hT, rfl, y1, y2⟩ := y
    have ex := y1 vs hq'
    have ey := y2 us hp'
    rw [hv] at ex
    rw [hu] at ey
    cases ex
    cases ey
    exact new_pair wd hT (fw.rep _ _ rv) (fw.rep _ _ ru)
  · rw [zipF_length, rl.length, rm.length] at hi
    exact ⟨by omega, vs, us, hq', hp', rfl, rfl⟩
theorem Rep.row {w : W} {v : V} {b : Bool} {ws : List W} (r : Rep K c H w v) (h : isTW w = some (b, ws)) : ∃ a vs, v = .ref a ∧ RowB K c H b a vs ∧ RepL K c H ws vs := by
  cases r with
  | tup hq rl =>
    cases h
    exact ⟨_, _, rfl, hq, rl⟩
  | lst n hq rl =>
    cases h
    exact ⟨_, _, rfl, ⟨n, hq⟩, rl⟩
  | _ => cases h
end
theorem tri_zB {X : Cx} {E : WX} {e e2 : Expr} {fs : En → T (List W)} {p pos tpos : Pos} {elts : List Expr} {kk : Nat} (hg : Gl X "zip") (hm : X.mg "zip" = none) (ha : TrA X E [e, e2] fs) (hs : starEach [e, e2] X.env = (false, eval e X.env) :: starEach [e2] X.env := by rfl) (hpl : (backTo pos (starEach [e2] X.env)).any (·.1) = false := by rfl) :
    TrI X E (.Tuple elts kk tpos) (.Call (.Name "zip" p) [e, e2] [] pos) (iL zbW fs) := pi_imp (pi_zB hg hm ha hs hpl) fun σ H R q => by
  obtain ⟨c, d, oa, ρ, e, q⟩ := q
  refine liftA_then (P := fun c H => PJ X.K c H R) e q (fun st p => p.later st) fun w v H1 d1 _ r1 e1 h1 => ?_
  cases r1 with
  | nil => exact h1.elim
  | cons r rr =>
    cases rr with
    | nil => exact h1.elim
    | cons r2 rr =>
      cases rr with
      | cons _ _ => exact h1.elim
      | nil =>
        simp only [zbW] at h1
        split at h1
        · rename_i b1 ws b2 us t1 t2
          obtain ⟨a, vs, rfl, w1, l1⟩ := r.row t1
          obtain ⟨b, zs, rfl, w2, l2⟩ := r2.row t2
          exact ⟨b1, b2, a, b, vs, zs, rfl, w1.sq, w2.sq, PJ.now e1.wd h1 (it_zB e1.ok e1.m w1 l1 w2 l2)⟩
        · exact h1.elim
def sAt (i : Nat) (fi fe : En → T W) : En → T (Fl × En) := fun ρ => match ρ[i]? with
  | some (.own ws) => (fe ρ).bind fun w => (fi ρ).bind fun k => match k with
    | .int k => match ixN ws.length k with
      | some j => .ok (.nx, ρ.set i (.own (ws.set j w)))
      | none => .bad
    | _ => .bad
  | _ => .bad
theorem tr_at {X : Cx} {E : XK} {o x e : Expr} {fi fe : En → T W} {i : Nat} {pos pos2 : Pos} (ho : PE X o (tVar i)) (hi : TrE X (wOf E) x fi) (he : TrE X (wOf E) e fe)
    (ha : ∀ v, assign (.Subscript o x pos2) X.env v = (do
      let ov ← holding [v] (eval o X.env)
      let iv ← holding [v, ov] (eval x X.env)
      standAt pos2
      holding [v, ov, iv] (setItem ov iv v)
      release [v, ov, iv] []) := by intro _; rfl)
    (hs : swapsWithSole [.Subscript o x pos2] e pos.line X.env = pure false := by rfl) (hw : swappedStores [.Subscript o x pos2] e X.env = pure none := by rfl) (h1 : (assignEach [.Subscript o x pos2] X.env).map (·.2) = [assign (.Subscript o x pos2) X.env] := by rfl) :
    TrS X E (.Assign [.Subscript o x pos2] e pos) (sAt i fi fe) := ps_imp (ps_asg he (pg_sub ho hi set_list ha) hs hw h1) fun D σ H q => by
  obtain ⟨c, d, oa, ρ, e, q⟩ := q
  unfold sAt at q
  split at q
  · rename_i ws hw
    refine lift_thenS (P := fun c H => PSq X.K c H D) e q (fun st p => p.later (.of st e.wd)) fun w v H1 d1 _ r1 e1 h1 => ?_
    obtain ⟨m1, m2, vs, m3, m4⟩ := e1.own i ws hw
    refine ⟨_, m2, lift_thenS (P := fun c H => PSq X.K c H D) e1 h1 (fun st p => p.later (.of st e1.wd)) fun k kv H2 d2 st2 r2 e2 h2 => ?_⟩
    cases r2 with
    | int k =>
      simp only [] at h2
      split at h2
      · rename_i j hj
        obtain ⟨g1, g2, us, g3, g4⟩ := e2.own i ws hw
        obtain ⟨e3, fw⟩ := e2.ownUpd hw (g4.set j (r1.step st2 e1.st e1.ok))
        exact ⟨_, us, k, j, rfl, rfl, g3, by rw [← g4.length]; exact hj, h2 c oa σ _ fw e3⟩
      · exact h2.elim
    | _ => exact h2.elim
  · exact q.elim
def insI (x : Int) : List Int → List Int
  | [] => [x]
  | y :: ys => if y < x then y :: insI x ys else x :: y :: ys
def sortI : List Int → List Int
  | [] => []
  | x :: xs => insI x (sortI xs)
theorem insI_perm (x : Int) : ∀ l, (insI x l).Perm (x :: l)
  | [] => .refl _
  | y :: ys => by
    unfold insI
    split
    · exact ((insI_perm x ys).cons y).trans (.swap x y ys)
    · exact .refl _
theorem sortI_perm : ∀ l, (sortI l).Perm l
  | [] => .refl _
  | x :: xs => (insI_perm x _).trans ((sortI_perm xs).cons x)
theorem insI_asc {x : Int} : ∀ {l : List Int}, l.Pairwise (· ≤ ·) → (insI x l).Pairwise (· ≤ ·)
  | [], _ => List.pairwise_singleton _ _
  | y :: ys, h => by
    obtain ⟨h1, h2⟩ := List.pairwise_cons.mp h
    unfold insI
    split
    · rename_i hl
      refine List.pairwise_cons.mpr ⟨fun z hz => ?_, insI_asc h2⟩
      rcases List.mem_cons.mp ((insI_perm x ys).mem_iff.mp hz) with rfl | hz
      · omega
      · exact h1 z hz
    · rename_i hl
      refine List.pairwise_cons.mpr ⟨fun z hz => ?_, h⟩
      rcases List.mem_cons.mp hz with rfl | hz
      · omega
      · have := h1 z hz
        omega
theorem sortI_asc : ∀ l : List Int, (sortI l).Pairwise (· ≤ ·)
  | [] => List.Pairwise.nil
  | x :: xs => insI_asc (sortI_asc xs)
theorem asc_uniq {l m : List Int} (h : l.Pairwise (· ≤ ·)) (g : m.Pairwise (· ≤ ·)) (p : l.Perm m) : l = m := List.Perm.eq_of_pairwise (fun a b _ _ h1 h2 => Int.le_antisymm h1 h2) h g p
def sortedI : List W → T W
  | [.lst ws] => match intsW ws with
    | some ns => .ok (.lst ((sortI ns).map W.int))
    | none => .bad
  | _ => .bad
theorem sem_sortedI {K : PySem.W.Frag} : SemL K (rSortedI K) sortedI := fun c d H x v Q E' wd rx q => by
  cases rx with
  | nil => exact q.elim
  | cons r rr =>
    cases rr with
    | cons _ _ => cases r <;> exact q.elim
    | nil =>
      cases r with
      | lst n hq rl =>
        simp only [sortedI] at q
        split at q
        · rename_i ns hk
          rw [intsW_map hk] at rl
          rw [rl.ints] at hq
          refine ⟨_, ns, rfl, SqL.of hq, fun zs p h1 h2 hf => ?_⟩
          rw [asc_uniq h2 (sortI_asc ns) (h1.trans (sortI_perm ns).symm)]
          exact q _ _ (.new hf) (wd.st.new hf) (.lst (wd.fresh hf) upd_same (RepL.ofInts _))
        · exact q.elim
      | _ => exact q.elim
end PF
namespace PF
open PySem PySem.Spec PyProof.Rows L2
section
variable {prog : Program} {w : World} {A : Around} {E : Value → Shared → Prop} {s : Shared}
theorem adjust_back (n : Nat) : Builtin.Slice.sliceAdjust none none (-1) (n : Int) = ((n : Int) - 1, -1) := by
  unfold Builtin.Slice.sliceAdjust
  simp
theorem places_back (n : Nat) : Builtin.Slice.slicePlaces ((n : Int) - 1) (-1) (-1) = n := by
  unfold Builtin.Slice.slicePlaces
  simp
  omega
theorem back_applied {sl : Addr} {vl vu vs : Value} {n : Nat} {Q : Int × Int × Nat → Shared → Prop} (hs : s.heap.IsSliceOf sl vl vu vs) (pl : IsPart vl none) (pu : IsPart vu none) (ps : IsPart vs (some (-1)))
    (h : Q ((n : Int) - 1, -1, n) s) : wpAny (model prog w) A (Builtin.Slice.sliceApplied (.ref sl) (pure (n : Int))) Q E s := by
  obtain ⟨os, hos, hcs, hds⟩ := id hs
  unfold Builtin.Slice.sliceApplied Builtin.Slice.sliceFields
  refine wpAny_bind (wpAny_bind (wpAny_field hos hds (x := vl) rfl (wpAny_bind (wpAny_field hos hds (x := vu) rfl (wpAny_bind (wpAny_field hos hds (x := vs) rfl (wpAny_pure ?_)))))))
  refine wpAny_bind (HT.slicePart_ ps ?_)
  show wpAny _ _ (if ((-1 : Int) == 0) = true then _ else _) _ _ s
  rw [if_neg (by decide)]
  refine wpAny_bind (HT.slicePart_ pl (wpAny_bind (HT.slicePart_ pu (wpAny_bind (wpAny_pure ?_)))))
  show wpAny _ _ (match Builtin.Slice.sliceAdjust none none (-1) (n : Int) with | (lo, hi) => pure (lo, (-1 : Int), Builtin.Slice.slicePlaces lo hi (-1))) _ _ s
  rw [adjust_back n]
  show wpAny _ _ (pure ((n : Int) - 1, (-1 : Int), Builtin.Slice.slicePlaces ((n : Int) - 1) (-1) (-1))) _ _ s
  rw [places_back]
  exact wpAny_pure h
theorem pick_back (xs : Array Value) : ((List.range xs.size).filterMap fun (m : Nat) => xs[(((xs.size : Int) - 1) + (m : Int) * (-1)).toNat]?).toArray = xs.toList.reverse.toArray := by
  have h := PySem.W.krv_pick xs
  unfold slicePick at h
  rw [PySem.W.krv_bounds] at h
  have h : ((sliceRange ((xs.size : Int) - 1) (-1) (-1)).filterMap (xs[·]?)).toArray = _ := h
  rw [PySem.W.krv_sliceRange, List.filterMap_map] at h
  rw [← h]
  have key : ∀ l : List Nat, (∀ m ∈ l, m < xs.size) → (l.filterMap fun (m : Nat) => xs[(((xs.size : Int) - 1) + (m : Int) * (-1)).toNat]?) = l.filterMap ((fun x => xs[x]?) ∘ fun k => xs.size - 1 - k) := fun l => by
    induction l with
    | nil => exact fun _ => rfl
    | cons m l ih =>
      intro hm
      have h1 := hm m (List.mem_cons_self ..)
      have e : (((xs.size : Int) - 1) + (m : Int) * (-1)).toNat = xs.size - 1 - m := by omega
      rw [List.filterMap_cons, List.filterMap_cons, e, ih fun k hk => hm k (List.mem_cons_of_mem _ hk)]
      rfl
  exact congrArg List.toArray (key _ fun m hm => List.mem_range.mp hm)
theorem back_tuple {t sl : Addr} {items : Array Value} {vl vu vs : Value} {Q : Value → Shared → Prop} (ht : IsTup s.heap t items) (hs : s.heap.IsSliceOf sl vl vu vs) (pl : IsPart vl none) (pu : IsPart vu none) (ps : IsPart vs (some (-1)))
    (h : Q (.ref s.heap.objs.size) { s with heap := s.heap.push { cls := .type "tuple", data := .seq items.toList.reverse.toArray } }) (hsz : items.size ≤ sizeLine) : wpAny (model prog w) A (getItem (.ref t) (.ref sl)) Q E s := by
  have hz : PySem.sizeOk (.seq items.toList.reverse.toArray) := by
    show items.toList.reverse.toArray.size ≤ sizeLine
    simpa using hsz
  obtain ⟨os, hos, hcs, hds⟩ := id hs
  have hTs : s.TypeIs (.ref sl) "slice" := ⟨os, hos, hcs⟩
  unfold getItem
  try with_reducible refine wpAny_holding ?_
  first | refine wpAny_bind (wpAny_pure ?_) | skip
  refine wpAny_bind (wpAny_sequenceKey ht.typeIs (by decide) ?_)
  refine wpAny_bind (wpAny_callSpecial?_slot (name := Str.ofString "__getitem__") ht.typeIs PyProof.Rows.slot_tuple_getitem (wpAny_call_entry PyProof.Rows.slot_tuple_getitem ht.typeIs entry_tuple_getitem ?_ (args_tuple_getitem _ _)))
  show wpAny _ _ (Builtin.Tuple.tupleItemsOf (.ref t) >>= _) _ _ s
  refine wpAny_bind (tupleItemsOf_ ht ?_)
  refine wpAny_bind (wpAny_typeOf hTs ?_)
  rw [if_pos (by decide)]
  refine wpAny_bind (back_applied hs pl pu ps ?_)
  show wpAny _ _ (if ((((items.size : Int) - 1) == 0 && (-1 : Int) == 1 && items.size == items.size) = true) then _ else _) _ _ s
  rw [if_neg (by simp), pick_back]
  first
    | exact wpAny_bind (m := Builtin.Tuple.tupleExact _) (wpAny_newObj_type (wpAny_pure ⟨_, rfl, wpAny_pure h⟩) hz)
    | exact wpAny_bind (m := Builtin.Tuple.tupleExact _) (wpAny_newObj_type (wpAny_bind (wpAny_pure (wpAny_pure ⟨_, rfl, wpAny_pure h⟩))) hz)
    | exact wpAny_bind (wpAny_bind (m := Builtin.Tuple.tupleExact _) (wpAny_newObj_type (wpAny_pure (wpAny_pure ⟨_, rfl, wpAny_pure h⟩)) hz))
    | exact wpAny_bind (wpAny_bind (m := Builtin.Tuple.tupleExact _) (wpAny_newObj_type (wpAny_pure ⟨_, rfl, wpAny_pure h⟩) hz))
end
section
variable {X : Cx}
def tBack (K : PySem.W.Frag) (te : TE) : TE := fun σ H Q => te σ H fun x H1 => ∃ a xs, x = .ref a ∧ ((SqL K H1 a xs ∧ ∀ p, H1 p = none → Q (.ref p) (L2.upd H1 p (.lst xs.reverse))) ∨ (SqT K H1 a xs ∧ ∀ p, H1 p = none → Q (.ref p) (L2.upd H1 p (.tup xs.reverse))))
theorem pe_back {e : Expr} {te : TE} {k : Nat} {p1 p2 p3 pos : Pos} (he : PE X e te) : PE X (.Subscript e (.Slice none none (some (.UnaryOp .USub (.Constant (.int 1) k p1) p2)) p3) pos) (tBack X.K te) := by
  refine ⟨fun pins s σ H Q I h => Subscript_ (thn (he.run pins s σ H _ I h) fun v s1 ⟨x, H1, I1, r1, q1⟩ => ?_)⟩
  obtain ⟨a, xs, rfl, q⟩ := q1
  cases r1
  have st : PO X (some (.UnaryOp .USub (.Constant (.int 1) k p1) p2)) (tPart (tUn (rU fun i => .int (-i)) (tC (.int 1)))) := po_some (pe_un un_neg pe_int)
  refine wpAny_Slice (thn (po_none.run pins s1 σ H1 (fun o H2 => o = none ∧ H2 = H1) I1 ⟨rfl, rfl⟩) fun vl s2 ⟨l, H2, I2, pl, el, e2⟩ => ?_)
  subst el e2
  refine thn (po_none.run pins s2 σ H2 (fun o H3 => o = none ∧ H3 = H2) I2 ⟨rfl, rfl⟩) fun vu s3 ⟨u, H3, I3, pu, eu, e3⟩ => ?_
  subst eu e3
  refine thn (st.run pins s3 σ H3 (fun o H4 => o = some (-1) ∧ H4 = H3) I3 ⟨1, rfl, -1, rfl, rfl, rfl⟩) fun vs s4 ⟨o, H4, I4, ps, eo, e4⟩ => ?_
  subst eo e4
  have I5 : Inv X pins σ H4 { s4 with heap := s4.heap.push { cls := .type "slice", data := .fields #[vl, vu, vs] } } := I4.kept (t' := s4.toks) fun b ob q => Heap.get?_push_of_some _ q
  show wpAny (model X.prog X.w) X.A (subscriptTail e (.Slice none none (some (.UnaryOp .USub (.Constant (.int 1) k p1) p2)) p3) (.ref a) (.ref s4.heap.objs.size)) (EP X pins σ Q) X.xe { s4 with heap := s4.heap.push { cls := .type "slice", data := .fields #[vl, vu, vs] } }
  rcases q with ⟨hx, q⟩ | ⟨hx, q⟩
  · obtain ⟨its, r, ht, hz⟩ := I5.list hx
    have hlen := r.length
    refine tail_any (ops := [.ref a, .ref s4.heap.objs.size]) ht.isList.typeIs (PySem.slot_list_getitem.lookup) (wpAny_getItem_list_slice ht.isList (Heap.IsSliceOf.new _ vl vu vs) pl pu ps (by decide) ?_ (by rw [List.size_toArray]; omega)) (by with_unfolding_all rfl)
    rw [PySem.W.krv_pick]
    exact ⟨.ref _, _, I5.laid (t' := s4.toks) (o := .lst xs.reverse) (fun b ob q => Heap.get?_push_of_some _ q) (Nat.le_refl _) ⟨by rw [List.length_reverse]; exact hz, _, 0, r.reverse, Heap.get?_push_size _ rfl⟩, rfl, q _ (I5.hok.fresh (Nat.le_refl _))⟩
  · obtain ⟨its, r, ht, hz⟩ := I5.tuple hx
    have hlen := r.length
    refine tail_any (ops := [.ref a, .ref s4.heap.objs.size]) ht.typeIs (PyProof.Rows.slot_tuple_getitem.lookup) (back_tuple ht (Heap.IsSliceOf.new _ vl vu vs) pl pu ps ?_ (by rw [List.size_toArray]; omega)) (by with_unfolding_all rfl)
    exact ⟨.ref _, _, I5.laid (t' := s4.toks) (o := .tup xs.reverse) (fun b ob q => Heap.get?_push_of_some _ q) (Nat.le_refl _) ⟨by rw [List.length_reverse]; exact hz, _, r.reverse, IsTup.new _ _⟩, rfl, q _ (I5.hok.fresh (Nat.le_refl _))⟩
def backW : W → T W
  | .lst ws => .ok (.lst ws.reverse)
  | .tup ws => .ok (.tup ws.reverse)
  | _ => .bad
theorem tr_back {E : WX} {e : Expr} {f : En → T W} {k : Nat} {p1 p2 p3 pos : Pos} (he : TrE X E e f) : TrE X E (.Subscript e (.Slice none none (some (.UnaryOp .USub (.Constant (.int 1) k p1) p2)) p3) pos) (f1 backW f) := pe_imp (pe_back he) fun σ H Q q => by
  obtain ⟨c, d, oa, ρ, e, q⟩ := q
  refine lift_then (P := fun c H => PQ X.K c H Q) e q (fun st p => p.later st) fun w v H1 d1 _ r1 e1 h1 => ?_
  cases r1 with
  | tup hq rl => exact ⟨_, _, rfl, .inr ⟨hq, fun p hp => h1 _ _ (.new hp) (e1.st.new hp) (.tup (SqT.of upd_same) ((rl.reverse).step (.new hp) e1.st e1.ok))⟩⟩
  | lst n hq rl => exact ⟨_, _, rfl, .inl ⟨SqL.of hq, fun p hp => h1 _ _ (.new hp) (e1.st.new hp) (.lst (e1.wd.fresh hp) upd_same ((rl.reverse).step (.new hp) e1.st e1.ok))⟩⟩
  | _ => exact h1.elim
end
end PF
namespace PF
open PySem PySem.Spec PyProof.Rows L2
/-- what the written part says of an error's class at C; nw, tl: the base's maker and its line -/
structure XCl (K : PySem.W.Frag) (C : Addr) (nw : String) (tl : List Value) : Prop where
  ini : PySem.W.excInitIn K C tl nw = true
  ovr : PySem.W.excOver K C tl = true
  dct : PySem.W.hasDictIn K C = true
  sat : PySem.W.findIn K (.ref C) "__setattr__" = some (some (.builtin "object.__setattr__"))
  sub : PySem.W.subIn K (.ref C) (.type "BaseException") = some true
  typ : PySem.W.typeIn K (.ref C) = some (.type "type")
  kee : PySem.W.keepIn K (.ref C) = true
def xclB (K : PySem.W.Frag) (C : Addr) (nw : String) (tl : List Value) : Bool :=
  PySem.W.excInitIn K C tl nw && (PySem.W.excOver K C tl && (PySem.W.hasDictIn K C && (decide (PySem.W.findIn K (.ref C) "__setattr__" = some (some (.builtin "object.__setattr__"))) &&
    (decide (PySem.W.subIn K (.ref C) (.type "BaseException") = some true) && (decide (PySem.W.typeIn K (.ref C) = some (.type "type")) && PySem.W.keepIn K (.ref C))))))
theorem xclB_ok {K : PySem.W.Frag} {C : Addr} {nw : String} {tl : List Value} (h : xclB K C nw tl = true) : XCl K C nw tl := by
  unfold xclB at h
  simp only [Bool.and_eq_true, decide_eq_true_eq] at h
  obtain ⟨h1, h2, h3, h4, h5, h6, h7⟩ := h
  exact ⟨h1, h2, h3, h4, h5, h6, h7⟩
section
open Builtin Builtin.ObjectAttr PySem.W PySem.Calls
variable {prog : Program} {w : World} {A : Around} {E : Value → Shared → Prop} {R : Result → Shared → Prop} {hp : Heap} {g : Array GenState} {d : Drawn} {t : Nat} {os : OsState}
/-- the first field of an error is set -/
theorem x_osa {K : PySem.W.Frag} {B nw : String} {tl : List Value} {fld : Str} {tk : Tok} {v : Value} {x C : Addr} {fv : Array Value} (SF : StoreFacts B tl "object.__setattr__" "object")
    (KX : K.In hp) (hx : hp.get? x = some { cls := .ref C, data := .fields fv }) (T : XCl K C nw tl) (ha : PySem.W.findIn K (.ref C) fld = some none)
    (hq : ∀ h' tk' dx, (∀ b o, b ≠ x → hp.get? b = some o → h'.get? b = some o) → hp.objs.size ≤ dx → dx ≠ x → h'.get? x = some { cls := .ref C, dict := some dx, data := .fields fv } →
      h'.Ns1 dx (fun y => if y = fld then some v else none) → R (.ok (.ret .none)) ⟨h', g, d, tk', os⟩) :
    codeAny (model prog w) A (.call (.builtin "object.__setattr__") ⟨[.ref x, .str fld tk, v], []⟩) R ⟨hp, g, d, t, os⟩ := by
  have hI : PySem.W.InstAt hp x { cls := .ref C, data := .fields fv } C none := ⟨hx, rfl, rfl, trivial⟩
  have nx : x ≠ hp.objs.size := Nat.ne_of_lt (Heap.lt_size hx)
  have htk : PySem.W.takerIn K C fld = some none := by
    unfold PySem.W.takerIn
    rw [ha]
    rfl
  obtain ⟨cd, hcd, hdc⟩ := PySem.W.any_some T.dct
  have hLc : PySem.W.Looks (model prog w) hp (classData C) cd := PySem.W.looks_clsIn KX hcd
  refine osa_openX (r := none) SF KX hI T.ovr htk fun b => ?_
  show wpAny _ _ (storeInOwnDict (.ref x) (.ref C) (.str fld tk) fld v b) _ _ _
  obtain ⟨nm, bs, mro, ns, qn, hd, sn, sb, ab, col, del⟩ := cd
  have hdc : hd = true := hdc
  subst hdc
  unfold storeInOwnDict ownDictForStores
  repeat (first | with_reducible refine PySem.HandSPX.store_in_new ?_ ?_ | with_reducible refine wpAny_loadPart_at hx ?_ | with_reducible refine hLc.at ?_ | wp_step)
  · exact ⟨_, #[], _, (Heap.get?_update_ne _ _ _ _ nx.symm).trans (Heap.get?_push_at rfl rfl), rfl, fun e he => absurd he (by simp), fun _ => rfl⟩
  · intro h' tk' hn' hs
    have h1 : (hp.push { cls := .type "dict", data := .dict #[] }).get? x = some { cls := .ref C, data := .fields fv } := Heap.get?_push_of_some _ hx
    refine hq h' tk' hp.objs.size (fun b o hb ho => ?_) (Nat.le_refl _) nx.symm ((hs.2 x nx).trans (Heap.get?_update_self _ h1 rfl)) hn'
    exact (hs.2 b (Nat.ne_of_lt (Heap.lt_size ho))).trans ((Heap.get?_update_ne _ _ _ _ hb).trans (Heap.get?_push_of_some _ ho))
end
section
variable {X : Cx} {pins : List (Addr × Obj)} {σ : L2.St} {H : Hp} {s : Shared} {a C : Addr} {fld : Str} {y : V} {u : Value} {E : Value → Shared → Prop} {A : Around} {B nw ini : String} {tl : List Value}
theorem x_ost {Q : Unit → Shared → Prop} (SF : StoreFacts B tl "object.__setattr__" "object") (T : XCl X.K C nw tl) (I : Inv X pins σ H s) (e : H a = some (exo a C none)) (hno : PySem.W.findIn X.K (.ref C) fld = some none) (ry : RelV y u)
    (h : ∀ dx s', H dx = none → dx ≠ a → Inv X pins σ (upd (upd H dx (exd dx [(fld, y)])) a (exo a C (some dx))) s' → Q () s') : wpAny (model X.prog X.w) A (setAttr (.ref a) fld u) Q E s := by
  obtain ⟨t1, ho⟩ := exo_at I.hok e
  obtain ⟨hp, g, d, t, os⟩ := s
  refine PySem.W.set_plain I.kIn (ox := { cls := .ref C, dict := none, data := .fields #[.ref t1, .none, .none, .none, .bool false, .none] }) (od := none) ⟨ho, rfl, rfl, trivial⟩ T.sat ?_
  refine x_osa SF I.kIn ho T hno fun h' tk' dx k dn dne hx hn => ?_
  have ndx : H dx = none := I.hok.fresh dn
  have small : ∀ {b : Addr} {o : Obj}, hp.get? b = some o → b ≠ dx := fun {b o} q => Nat.ne_of_lt (Nat.lt_of_lt_of_le (Heap.lt_size q) dn)
  have nota : ∀ {b : Addr}, H b = none → b ≠ a := fun {b} n z => by
    rw [z, e] at n
    cases n
  have un : Un X.fs [] H (upd (upd H dx (exd dx [(fld, y)])) a (exo a C (some dx))) hp h' := {
    keep := fun b o q n _ _ => k b o (nota n) q
    slot := fun b o q n _ _ => ⟨o.slots, k b o (nota n) q⟩
    free := fun b o q n _ => by rw [upd_ne (nota n), upd_ne (small q)]; exact n
    there := fun b o q _ => by
      rcases Decidable.em (b = a) with z | z
      · exact ⟨_, by rw [z]; exact hx⟩
      · exact ⟨o, k b o z q⟩
    tups := fun b xs q => by rw [upd_ne (at_ne e q exo_tup), upd_ne (ne_of_none q ndx)]; exact q
    frzs := fun b o v q => by rw [upd_ne (at_ne e q exo_frz), upd_ne (ne_of_none q ndx)]; exact q
    tbls := fun b ps q => ⟨#[], by rw [upd_ne (at_ne e q exo_tbl), upd_ne (ne_of_none q ndx), q]; simp⟩ }
  refine h dx _ ndx dne (I.un (t' := tk') un fun b o q => ?_)
  rcases Decidable.em (b = a) with z | z
  · subst z
    rw [upd_same] at q
    cases q
    exact exo_ok hx
  · rw [upd_ne z] at q
    rcases Decidable.em (b = dx) with z2 | z2
    · subst z2
      rw [upd_same] at q
      cases q
      exact exd_ok hn (relO_put (fs := []) ry fun g => True.intro)
    · rw [upd_ne z2] at q
      refine (I.hok b o q).stay (fun c v hc y => k c v ?_ y) (fun c hc => ?_) fun c xs hc => ?_
      · rcases hc with hc | hc
        · rw [hc]
          exact z
        · exact at_ne e hc exo_own
      · rw [upd_ne (at_ne e hc exo_own), upd_ne (ne_of_none hc ndx)]
        exact hc
      · rw [upd_ne (at_ne e hc exo_tup), upd_ne (ne_of_none hc ndx)]
        exact hc
/-- Base.__init__(self, ..) -/
theorem x_init {us : List Value} {Q : Value → Shared → Prop} (FB : ExcBaseFacts B nw ini tl) (T : XCl X.K C nw tl) (I : Inv X pins σ H s) (e : H a = some (exo a C none)) (hl : us.length ≤ sizeLine) (h : ∀ s', Inv X pins σ H s' → Q .none s') :
    wpAny (model X.prog X.w) A (call (.builtin ini) (.ref a :: us)) Q E s := by
  obtain ⟨nm, N', qn, bs, bm, hdct, sn, sub, ab, col, dd, k0, k1, k2, k3, k5, hC, hT⟩ := PySem.W.excInit_of I.kIn T.ini
  obtain ⟨t1, ho⟩ := exo_at I.hok e
  obtain ⟨hp, g, d, t, os⟩ := s
  refine wpAny_call (PySem.HandSPX.init_base FB hT hC ho hl fun h' t2 k hx => h _ ?_)
  have J := I.write (t' := t) (x := a) (e := a) (o := exo a C none) (by rw [e]; exact True.intro) (.inl rfl) k ⟨_, hx⟩ (exo_ok hx)
  have same : upd H a (exo a C none) = H := by
    funext b
    rcases Decidable.em (b = a) with z | z
    · rw [z, upd_same, e]
    · rw [upd_ne z]
  rw [same] at J
  exact J
end
/-- the base's __init__, found by the name bn -/
def BaseIni (X : Cx) (bn : Str) (ini : String) : Prop := ∀ (p1 : Pos) (pl : Sem Bool) (A : Around) (E : Value → Shared → Prop) (pins : List (Addr × Obj)) (s : Shared) (σ : L2.St) (H : Hp) (Q : Value × List Value → Shared → Prop), Inv X pins σ H s →
  (∀ s', Inv X pins σ H s' → Q (.builtin ini, []) s') → wpAny (model X.prog X.w) X.A (eval (.Name bn p1) X.env) (fun ov s₁ => wpAny (model X.prog X.w) X.A (getMethod ov "__init__" pl) Q X.xe s₁) X.xe s
theorem base_own {X : Cx} {bn : Str} {ini : String} {C : Addr} {mc : Value} (hg : Gl X bn) (hm : X.mg bn = some (.ref C)) (hr : PySem.W.readsIn X.K C mc = true) (ga : PySem.W.specialIn X.K (.ref C) "__getattribute__" = some (some (.builtin "type.__getattribute__")))
    (hf : PySem.W.findCls X.K (.ref C) mc "__init__" = some (.val (.builtin ini))) (hh : PySem.W.handedIn (.builtin ini) = true) (hdb : (bn == ("__debug__" : Str)) = false := by decide) : BaseIni X bn ini := fun p1 pl A E pins s σ H Q I h =>
  ld_glob I hg hm (PySem.W.method_cls I.kIn ga (PySem.W.cls_value I.kIn hr hf hh (h _ (I.tok _)))) hdb
theorem base_blt {X : Cx} {B : String} {bn : Str} {ini : String} (hg : Gl X bn) (hm : X.mg bn = none) (hb : bootBuiltins bn = some (.type B)) (ht : typeOf (.type B) = pure (.type "type")) (hs : Manifest.isStub B = false)
    (hf : PySem.W.findCls X.K (.type B) (.type "type") "__init__" = some (.val (.builtin ini))) (hh : PySem.W.handedIn (.builtin ini) = true) (hn : bn ≠ "__name__" := by decide) (hdb : (bn == ("__debug__" : Str)) = false := by decide) : BaseIni X bn ini := fun p1 pl A E pins s σ H Q I h => by
  obtain ⟨m, fr⟩ := I.fr
  exact ld_blt I hg hm hb (PySem.W.method_type fr I.ok.mod.kin ht hs hf hh (h _ (I.tok _))) hn hdb
/-- reading: Base.__init__(self, ..) -/
def tBi (K : PySem.W.Frag) (nw : String) (tl : List Value) (ta : TA) : TE := fun σ H Q => ta σ H fun vs H1 => ∃ (a C : Addr) (ws : List V), vs = .ref a :: ws ∧ ws.length ≤ 1000 ∧ XCl K C nw tl ∧ H1 a = some (exo a C none) ∧ Q .non H1
/-- reading: self.f = e, the first one -/
def tXo (K : PySem.W.Frag) (nw : String) (tl : List Value) (f : Str) (to te : TE) : TS := fun D σ H => te σ H fun y H1 => to σ H1 fun x H2 => ∃ a C : Addr, x = .ref a ∧ XCl K C nw tl ∧ PySem.W.findIn K (.ref C) f = some none ∧
  H2 a = some (exo a C none) ∧ ∀ dx, H2 dx = none → dx ≠ a → D.nx σ (upd (upd H2 dx (exd dx [(f, y)])) a (exo a C (some dx)))
section
variable {X : Cx} {o e : Expr} {es : List Expr} {to te : TE} {ta : TA} {f bn : Str} {p p' p1 p2 pos : Pos} {B nw ini : String} {tl : List Value}
theorem pe_bi {pl : Sem Bool} (FB : ExcBaseFacts B nw ini tl) (hB : BaseIni X bn ini) (ha : PA X (e :: es) ta)
    (hc : eval (.Call (.Attribute (.Name bn p1) "__init__" p2) (e :: es) [] pos) X.env = (do
      let ov ← eval (.Name bn p1) X.env
      standAt p2.atName
      let (f, first) ← holding [ov] (getMethod ov "__init__" pl)
      callWith pos f first (backTo pos (starEach (e :: es) X.env)) (backToKw pos (keywordEach [] X.env))) := by rfl)
    (he : starEach (e :: es) X.env = (false, eval e X.env) :: starEach es X.env := by rfl) (hpl : (backTo pos (starEach es X.env)).any (·.1) = false := by rfl) :
    PE X (.Call (.Attribute (.Name bn p1) "__init__" p2) (e :: es) [] pos) (tBi X.K nw tl ta) := by
  constructor
  intro pins s σ H Q I h
  refine PySem.W.methodCall_KW (hB p1 pl X.A X.xe pins s σ H _ I fun s1 I1 => ?_) hc
  show wpAny _ _ (callWith pos (Value.builtin ini) [] (backTo pos (starEach (e :: es) X.env)) []) _ _ _
  refine PyProof.Rows.callWith_method1 (thn (ha.run pos pins _ σ H _ I1 h) fun us s2 z => ?_) he hpl
  obtain ⟨vs, H2, I2, r, a, C, ws, ev, hl, T, ea, q⟩ := z
  subst ev
  cases r with
  | @cons _ u0 _ ur ra rr =>
    obtain rfl : u0 = Value.ref a := ra
    refine x_init FB T I2 ea ?_ fun s' J => ⟨.non, H2, J, rfl, q⟩
    rw [← Paired.length rr, sizeLine_eq]
    omega
theorem ps_xo (SF : StoreFacts B tl "object.__setattr__" "object") (ho : PE X o to) (he : PE X e te) (hs : swapsWith e (some (.Attribute o f p')) pos.line X.env = pure false := by rfl) : PS X (.Assign [.Attribute o f p'] e pos) (tXo X.K nw tl f to te) := by
  constructor
  intro pins s σ H D I h
  refine plainObj_wpAny_Assign_Attribute (thn (he.run pins s σ H _ I h) fun v s1 z => ?_) hs
  obtain ⟨y, H1, I1, r1, q1⟩ := z
  refine thn (ho.run pins s1 σ H1 _ I1 q1) fun u s2 z => ?_
  obtain ⟨x, H2, I2, r2, a, C, ex, T, hno, ea, q⟩ := z
  subst ex
  obtain rfl : u = Value.ref a := r2
  exact x_ost SF T I2 ea hno r1 fun dx s' n ne J => ⟨σ, _, J, q dx n ne⟩
end
section
variable {X : Cx} {e : Expr} {es : List Expr} {ta : TA} {p pos : Pos} {B nw ini : String} {tl : List Value}
theorem pmk_x {CX : CXT} {x : Str} {C fI : Addr} {k : Nat} {fd : FuncData} {ps : List Str} {sp : Sp} (FB : ExcBaseFacts B nw ini tl) (T : XCl X.K C nw tl) (iC : PySem.W.findIn X.K (.ref C) "__init__" = some (some (.ref fI))) (tI : PySem.W.typeIn X.K (.ref fI) = some (.type "function"))
    (F1 : FnOk X.prog X.w X.K X.mg X.base CX k fI fd ps sp) (hr : Room (k + 1) X.A) (hb : Binds X.K fd ps []) (hx : Passes CX X (fun _ _ _ => False)) (hg : Gl X x) (hm : X.mg x = some (.ref C)) (ha : PA X (e :: es) ta)
    (hdb : (x == ("__debug__" : Str)) = false := by decide) (he : starEach (e :: es) X.env = (false, eval e X.env) :: starEach es X.env := by rfl) (hpl : (backTo pos (starEach es X.env)).any (·.1) = false := by rfl) :
    PMk X (.Call (.Name x p) (e :: es) [] pos) (tMkO C sp [] ta) := by
  intro pins s σ H Q I h
  refine wpAny_Call_Name_kw (ld_glob I hg hm (PySem.W.callWith_K (h₀ := X.base) I.ok.mod.kin T.kee (thn (ha.run pos pins s σ H _ I h) fun us s1 z => ?_) he hpl) hdb)
  obtain ⟨vs, H1, I1, r1, hz, q1⟩ := z
  refine ⟨I1.kIn, ?_⟩
  obtain ⟨nm, N', qn, bs, bm, hdct, sn, sub, ab, col, dd, k0, k1, k2, k3, k5, hC, hT⟩ := PySem.W.excInit_of I1.kIn T.ini
  show wpAny _ _ (call (.ref C) us) _ _ _
  obtain ⟨hp, g, dr, tk, os⟩ := s1
  have big : hp.objs.size ≤ hp.objs.size + 1 := Nat.le_succ _
  have hq := q1 (hp.objs.size + 1) (I1.hok.fresh big)
  rw [List.append_nil] at hq
  have kp : ∀ b o, hp.get? b = some o → ((hp.push (PySem.W.kdv_tup us)).push (PySem.HandSPX.excO C hp.objs.size)).get? b = some o := fun b o z => Heap.get?_push_of_some _ (Heap.get?_push_of_some _ z)
  have at_ : ((hp.push (PySem.W.kdv_tup us)).push (PySem.HandSPX.excO C hp.objs.size)).get? (hp.objs.size + 1) = some (PySem.HandSPX.excO C hp.objs.size) := by heap_get
  have I2 := I1.laid (t' := tk) (a := hp.objs.size + 1) (o := exo (hp.objs.size + 1) C none) kp big (exo_ok at_)
  have r2 : Vals (V.ref (hp.objs.size + 1) :: vs) (Value.ref (hp.objs.size + 1) :: us) := .cons rfl r1
  have hl : (Value.ref (hp.objs.size + 1) :: us ++ []).length = ps.length := by
    rw [List.append_nil, ← r2.length]
    exact F1.len _ _ _ _ hq
  have hus : us.length ≤ sizeLine := by
    rw [← Paired.length r1, sizeLine_eq]
    omega
  have b2 := hb _ (Value.ref (hp.objs.size + 1) :: us) I2.kIn hl
  rw [List.append_nil] at b2
  refine wpAny_call (PySem.HandSPX.call_own FB hT hC (PySem.W.looks_findIn I1.kIn iC) (fun self => PySem.W.bind_fn I1.kIn self tI) hus
    (codeAny_mono (F1.run _ X.stack _ _ ⟨Value.ref (hp.objs.size + 1) :: us, []⟩ _ _ _ (fun _ _ _ => False) (hr.make C us []) (I2.env0.make C us []) b2 r2 hq) fun r s' hq' => ?_))
  match r, hq' with
  | .error er, hq' => exact hx pins σ _ _ er s' I2 hq'
  | .ok .next, hq' => exact False.elim hq'
  | .ok .brk, hq' => exact False.elim hq'
  | .ok .cont, hq' => exact False.elim hq'
  | .ok (.ret u), hq' =>
    obtain ⟨v, H2, os2, bare2, un2, hok2, rv, ev, d, fs, ea, ed, hd1, q2⟩ := hq'
    subst ev
    obtain ⟨h2, g2, d2, t2, os'⟩ := s'
    exact ⟨rv, mk_end (raises_own T.sub T.typ) I1 big kp un2 hok2 os2 bare2 ea ed hd1 q2⟩
end
/-- what __init__(self, x): Base.__init__(self, ".."); self.f = x does -/
def spI (K : PySem.W.Frag) (nw : String) (tl : List Value) (f : Str) : Sp := fun vs H Q _ => ∃ (a C : Addr) (v : V), vs = [.ref a, v] ∧ H a = some (exo a C none) ∧ XCl K C nw tl ∧ PySem.W.findIn K (.ref C) f = some none ∧
  ∀ dx, H dx = none → dx ≠ a → Q .non (upd (upd H dx (exd dx [(f, v)])) a (exo a C (some dx)))
section
variable {P : Program} {w : World} {K : PySem.W.Frag} {mg : Str → Option Value} {base : Heap}
theorem ini_ok {fI : Addr} {fd : FuncData} {qual bn par f txt : Str} {params : Arguments} {sc : Scope} {j : Nat} {p1 p2 p3 p4 p5 p6 p7 p8 p9 p10 : Pos} {B nw ini : String} {tl : List Value}
    (F : FunD K "__init__" qual params [.Expr (.Call (.Attribute (.Name bn p1) "__init__" p2) [.Name "self" p3, .Constant (.str txt) j p4] [] p5) p6, .Assign [.Attribute (.Name "self" p7) f p8] (.Name par p9) p10] sc [] [] fI fd)
    (S : FnScope ["self", par] ["self", par] sc) (FB : ExcBaseFacts B nw ini tl) (SF : StoreFacts B tl "object.__setattr__" "object")
    (hs : Vis sc "self") (hp : Vis sc par) (hpd : (par == ("__debug__" : Str)) = false) (hpc : (par == ("__classdict__" : Str)) = false)
    (hB : ∀ (cdv : Value) (A : Around) (outer : List PySem.Env) (s : Shared) (H : Hp) (E : XK), BaseIni (cxOf (L2.CX P w) P w K mg base ["self", par] qual sc fI cdv A outer s H E) bn ini)
    (hc : ∀ env : PySem.Env, ∃ pl : Sem Bool, eval (.Call (.Attribute (.Name bn p1) "__init__" p2) [.Name "self" p3, .Constant (.str txt) j p4] [] p5) env = (do
      let ov ← eval (.Name bn p1) env
      standAt p2.atName
      let (f, first) ← holding [ov] (getMethod ov "__init__" pl)
      callWith p5 f first (backTo p5 (starEach [.Name "self" p3, .Constant (.str txt) j p4] env)) (backToKw p5 (keywordEach [] env)))) (hw : ∀ env : PySem.Env, swapsWith (.Call (.Attribute (.Name bn p1) "__init__" p2) [.Name "self" p3, .Constant (.str txt) j p4] [] p5) none p6.line env = pure false)
    (hv : ∀ env : PySem.Env, swapsWith (.Name par p9) (some (.Attribute (.Name "self" p7) f p8)) p10.line env = pure false) :
    FnOk P w K mg base (L2.CX P w) 1 fI fd ["self", par] (spI K nw tl f) := by
  refine F.ok (k := 0) S (fun vs H Q E h => ?_) (fun cdv A outer s H vs Q E hr h => ?_)
  · obtain ⟨a, C, v, rfl, _⟩ := h
    rfl
  · obtain ⟨pl, hc⟩ := hc (cxOf (L2.CX P w) P w K mg base ["self", par] qual sc fI cdv A outer s H E).env
    refine ⟨_, pss_cons (ps_expr (pe_bi (pl := pl) FB (hB cdv A outer s H E) (pa_cons (pe_var (i := 0) rfl hs) (pa_cons pe_str pa_nil)) hc) (hw _)) (pss_one (ps_xo (nw := nw) SF (pe_var (i := 0) rfl hs) (pe_var (i := 1) rfl hp hpd hpc) (hv _))), ?_⟩
    obtain ⟨a, C, v, rfl, ea, T, hno, q⟩ := h
    exact ⟨.ref a, rfl, a, C, [.str txt], rfl, (by show 1 ≤ 1000; decide), T, ea, v, rfl, .ref a, rfl, a, C, rfl, T, hno, ea, fun dx n ne => q dx n ne⟩
end
/-- the error with the number n is made by its class's name, of one field -/
structure XIs (P : Program) (w : World) (K : PySem.W.Frag) (mg : Str → Option Value) (base : Heap) (n : Nat) (nw : String) (tl : List Value) : Prop where
  gl : mg (xName n) = some (.ref (He.ga K (xName n)))
  cl : XCl K (He.ga K (xName n)) nw tl
  no : ∀ f ∈ xFlds n, PySem.W.findIn K (.ref (He.ga K (xName n))) f = some none
  ex : ∃ (B ini : String) (fI : Addr) (fd : FuncData) (ps : List Str) (f : Str), xFlds n = [f] ∧ ExcBaseFacts B nw ini tl ∧ PySem.W.findIn K (.ref (He.ga K (xName n))) "__init__" = some (some (.ref fI)) ∧ PySem.W.typeIn K (.ref fI) = some (.type "function") ∧
    FnOk P w K mg base (L2.CX P w) 1 fI fd ps (spI K nw tl f) ∧ Binds K fd ps []
def sRaise (n : Nat) (fs : En → T (List W)) : En → T (Fl × En) := fun ρ => (fs ρ).bind fun ws => match ws with
  | [w] => .exc n [w]
  | _ => .bad
theorem upd_back {H : Hp} {a d : Addr} {o o1 o2 : HO} {z : HO} (na : H a = none) (nd : d ≠ a) : upd (del (upd (upd (upd H a o) d o1) a o2) a) d z = upd H d z := by
  funext b
  rcases Decidable.em (b = d) with q | q
  · rw [q, upd_same, upd_same]
  · rw [upd_ne q, upd_ne q]
    rcases Decidable.em (b = a) with q2 | q2
    · rw [q2, del_same, na]
    · rw [del_ne q2, upd_ne q2, upd_ne q, upd_ne q2]
theorem tr_raise {X : Cx} {E : XK} {n : Nat} {nw : String} {tl : List Value} {e : Expr} {es : List Expr} {fs : En → T (List W)} {p pos pos' : Pos} (h : XIs X.prog X.w X.K X.mg X.base n nw tl) (hc : X.calm = true) (tk : Takes X (wOf E)) (hr : Room 2 X.A) (hg : Gl X (xName n)) (ha : TrA X (wOf E) (e :: es) fs)
    (hdb : (xName n == ("__debug__" : Str)) = false := by decide) (he : starEach (e :: es) X.env = (false, eval e X.env) :: starEach es X.env := by rfl) (hpl : (backTo pos (starEach es X.env)).any (·.1) = false := by rfl) :
    TrS X E (.Raise (some (.Call (.Name (xName n) p) (e :: es) [] pos)) none pos') (sRaise n fs) := by
  obtain ⟨B, ini, fI, fd, ps, f, hf, FB, iC, tI, F1, hb⟩ := h.ex
  have hx : Passes (L2.CX X.prog X.w) X (fun _ _ _ => False) := fun pins σ H s e s' I hh => by
    obtain ⟨_, _, _, _, _, _, _, _, _, _, _, _, z⟩ := hh
    exact z.elim
  refine ps_imp (ps_raise hc tk (pmk_x FB h.cl iC tI F1 hr hb hx hg h.gl ha hdb he hpl)) fun D σ H q => ?_
  obtain ⟨c, d, oa, ρ, e0, q⟩ := q
  refine liftA_thenS (P := fun c H => PSq X.K c H D) e0 q (fun st p => p.later (.of st e0.wd)) fun ws vs H1 d1 _ r1 e1 h1 => ?_
  cases r1 with
  | nil => exact h1.elim
  | cons r rr =>
    rename_i w0 v0 ws0 vs0
    cases rr with
    | cons _ _ => exact h1.elim
    | nil =>
      refine ⟨(by show 1 ≤ 1000; decide), fun a na => ?_⟩
      refine ⟨a, He.ga X.K (xName n), v0, rfl, upd_same, h.cl, h.no f (by rw [hf]; exact List.mem_cons_self ..), fun dx nd ne => ⟨rfl, dx, _, upd_same, by rw [upd_ne ne, upd_same], ?_, ?_⟩⟩
      · rw [upd_ne ne] at nd
        exact nd
      · rw [upd_ne ne] at nd
        rw [upd_back na ne]
        refine h1 c _ _ _ (.of (.new nd) e1.wd) (e1.st.new nd) ⟨rfl, dx, [v0], rfl, ?_, by rw [hf]; rfl, .cons (r.step (.new nd) e1.st e1.ok) .nil⟩
        rw [upd_same, hf]
        rfl
end PF
namespace PF
open PySem PySem.Spec PyProof.Rows L2
/-- one clause: the class, the slot of its name, the suite's reading -/
abbrev Cla := Value × Option Nat × (Addr → Value → Option Addr → TS)
/-- the ends behind a suite: the name goes -/
def goneD (io : Option Nat) (D : Ends) : Ends := match io with
  | none => D
  | some i => { nx := fun σ H => D.nx (σ.set i none) H, rt := D.rt, bk := fun σ H => D.bk (σ.set i none) H, ct := fun σ H => D.ct (σ.set i none) H }
def heldS (io : Option Nat) (a : Addr) (σ : L2.St) : L2.St := match io with
  | none => σ
  | some i => σ.set i (some (.ref a))
/-- what the clauses wish of an error of the body -/
def wCl (K : PySem.W.Frag) (Wo : WX) (D : Ends) : List Cla → WX
  | [] => Wo
  | (c, io, ts) :: r => fun cls dx σ H => ∃ b, PySem.W.exmOne K cls c = some b ∧ (b = true → ∀ a, H a = none → ts a cls dx (goneD io D) (heldS io a σ) H) ∧ (b = false → wCl K Wo D r cls dx σ H)
inductive ClsOk (X : Cx) : List ExceptHandler → List Cla → Prop
  | nil : ClsOk X [] []
  | bare {x : Str} {c : Value} {ts : Addr → Value → Option Addr → TS} {b0 : Stmt} {su : List Stmt} {np ps : Pos} {hds : List ExceptHandler} {l : List Cla} (hc : Names X x c)
      (hsu : ∀ (a : Addr) (oe : Obj) (cls : Value) (dx : Option Addr) (pn : List (Addr × Obj)), Zc cls dx oe → (∃ vs, oe.data = .fields vs) → PSs (X.suite a ((a, oe) :: pn)) (b0 :: su) (ts a cls dx)) (r : ClsOk X hds l) :
      ClsOk X (.ExceptHandler (some (.Name x np)) none (b0 :: su) ps :: hds) ((c, none, ts) :: l)
  | named {x n : Str} {i : Nat} {c : Value} {ts : Addr → Value → Option Addr → TS} {b0 : Stmt} {su : List Stmt} {np ps : Pos} {hds : List ExceptHandler} {l : List Cla} (hc : Names X x c) (hi : X.N[i]? = some n) (hl : X.env.kindOf n = some .local)
      (hsu : ∀ (a : Addr) (oe : Obj) (cls : Value) (dx : Option Addr) (pn : List (Addr × Obj)), Zc cls dx oe → (∃ vs, oe.data = .fields vs) → PSs (X.suite a ((a, oe) :: pn)) (b0 :: su) (ts a cls dx)) (r : ClsOk X hds l) :
      ClsOk X (.ExceptHandler (some (.Name x np)) (some n) (b0 :: su) ps :: hds) ((c, some i, ts) :: l)
section
variable {X : Cx} {body : List Stmt} {h0 : ExceptHandler} {hds : List ExceptHandler} {l : List Cla} {pos : Pos} {tb : WX → TS} {Wo : WX}
theorem ps_tryM (hs : X.stack = X.env :: X.outer) (hf : X.env.frame = some X.env.locals) (hN : X.N.Nodup) (tk : Takes X Wo)
    (hb : ∀ (W : WX) (pn : List (Addr × Obj)) (xe : Value → Shared → Prop), Takes (X.tr pn xe) W → PassesOwn (model X.prog X.w) X.A X.env xe → PSs (X.tr pn xe) body (tb W))
    (hh : ClsOk X (h0 :: hds) l) : PS X (.Try body (h0 :: hds) [] [] pos) (fun D σ H => tb (wCl X.K Wo D l) D σ H) := by
  constructor
  intro pins s σ H D I h
  have ok := I.ok
  have hfr : X.A.frames = some (X.env :: X.outer) := by rw [ok.frames, hs]
  refine wpAny_Try_except (wpAny_mono ((hb (wCl X.K Wo D l) (X.pn ++ pins) (fun e s1 => wpAny (model X.prog X.w) X.A (noteFrame e X.env) (fun _ s2 => wpAny (model X.prog X.w) X.A (setFlight e none) (fun _ s3 =>
    wpAny (model X.prog X.w) X.A (handleBy e X.env (h0 :: hds)) (SP X pins D) X.xe s3) X.xe s2) X.xe s1) (fun u s' xx => ?_) PassesOwn.looking).run [] s σ H D (I.toTry _) h) (fun f s1 hsp => ?_) (fun e s1 he => he))
  · obtain ⟨a, B, sI, pins', σ1, H1, cls, dx, rfl, J', nb, up, sky, na, os, ag, w⟩ := xx
    have J : Inv X pins σ1 H1 sI := J'.ofTry ok
    have sky1 : Sky B (X.env :: X.outer) a (Zc cls dx) X.env.locals s'.heap := by rw [← hs]; exact sky
    show wpAny (model X.prog X.w) X.A (noteFrame (.ref a) X.env) _ _ _
    refine Sky.land Zc.steady hfr hf sky1 fun h3 fl3 up3 => ?_
    have J3 : Inv X pins σ1 H1 { s' with heap := h3 } := J.landed nb fl3.1 (up.trans up3) os ag
    obtain ⟨oe3, vs3, he3, hz3, hd3⟩ := fl3.there
    have nfr : a ∉ frs (X.env :: X.outer) := fun hm => by
      obtain ⟨_, o', e', hnf⟩ := fl3.2.2.1.mem hm
      rw [he3] at e'
      cases e'
      exact hnf _ hd3
    have nL : a ≠ X.env.locals := fun z => nfr (List.mem_filterMap.mpr ⟨X.env, List.mem_cons_self, by rw [hf, z]⟩)
    have nF : a ∉ X.fs := fun hm => by
      obtain ⟨e, he, q⟩ := List.mem_filterMap.mp hm
      exact nfr (List.mem_filterMap.mpr ⟨e, List.mem_cons_of_mem _ he, q⟩)
    have S3 := J3.suite he3 hd3 na nL nF
    have LT : PySem.W.Looks (model X.prog X.w) h3 (typeOf (.ref a)) cls := fun A Q E s k q => wpAny_typeOf_ref (k _ _ he3) (by rw [hz3.1]; exact q)
    have test : ∀ {x : Str} {c : Value} {np : Pos} {Q : Value → Shared → Prop} {E : Value → Shared → Prop}, Names X x c → Q c { s' with heap := h3 } → wpAny (model X.prog X.w) (X.A.mark (some (.ref a))) (eval (.Name x np) X.env) Q E { s' with heap := h3 } := fun {x c np Q E} hc q => by
      obtain ⟨hg, hdbg, hm | ⟨hm, hv, hnn⟩⟩ := hc
      · exact ld_glob (X := X.suite a ((a, oe3) :: (X.pn ++ pins))) S3 hg hm q hdbg
      · exact ld_blt (X := X.suite a ((a, oe3) :: (X.pn ++ pins))) S3 hg hm hv q hnn hdbg
    have walk : ∀ {hds' : List ExceptHandler} {l' : List Cla}, ClsOk X hds' l' → wCl X.K Wo D l' cls dx σ1 H1 → wpAny (model X.prog X.w) X.A (handleBy (.ref a) X.env hds') (SP X pins D) X.xe { s' with heap := h3 } := by
      intro hds' l' hk
      induction hk with
      | nil =>
        intro w
        refine wpAny_handleBy_nil ?_
        obtain ⟨k1, k2, k3, oe, vs, T, oT, ts', he, hz, hd, h1, hr⟩ := id fl3
        unfold PySem.passOn
        refine wpAny_bind (wpAny_field he hd h1 ?_)
        rw [if_neg (by simp : ¬ ((Value.ref T == Value.none) = true))]
        have last : wpAny (model X.prog X.w) X.A (setFlight (.ref a) X.env.frame) (fun _ s4 => wpAny (model X.prog X.w) X.A (throw (.ref a) : Sem Flow) (SP X pins D) X.xe s4) X.xe { s' with heap := h3 } := by
          rw [hf]
          exact HandSPX.setFlight_upZ fl3 fun h4 hh4 up4 => wpAny_throw (tk _ _ ⟨a, B, sI, pins, σ1, H1, cls, dx, rfl, J, nb, (up.trans up3).trans up4, .inr (.inr (by rw [hs]; exact hh4)), na, os, ag, w⟩)
        first
          | exact wpAny_bind (wpAny_pure (wpAny_bind last))
          | exact wpAny_bind last
      | @bare x c ts b0 su np ps hds2 l2 hc hsu r ih =>
        intro w
        obtain ⟨b, hb1, yes, no⟩ := w
        have LM := PySem.W.exm_one (M := model X.prog X.w) (J3.kIn) LT hb1
        refine wpAny_handleBy_cons (codeAny_handlers_test (test hc (LM.here ?_))) (by intro q; cases q)
        match b, yes, no with
        | false, _, no => exact ih (no rfl)
        | true, yes, _ =>
          refine codeAny_handlers_suite (HandSPX.lands_againZ fl3 fun h4 fl4 up4 => ?_)
          have J4 : Inv X pins σ1 H1 { s' with heap := h4 } := J.landed nb fl4.1 ((up.trans up3).trans up4) os ag
          obtain ⟨oe4, vs4, he4, hz4, hd4⟩ := fl4.there
          refine wpAny_mono ((hsu a oe4 cls dx (X.pn ++ pins) hz4 ⟨_, hd4⟩).run [] _ _ H1 _ (J4.suite he4 hd4 na nL nF) (yes rfl a na)) (fun f s6 hsp => ?_) (fun _ _ z => False.elim z)
          match f, hsp with
          | .next, ⟨σ6, H6, S6, q6⟩ => exact ⟨_, _, S6.unsuite ok, q6⟩
          | .brk, ⟨σ6, H6, S6, q6⟩ => exact ⟨_, _, S6.unsuite ok, q6⟩
          | .cont, ⟨σ6, H6, S6, q6⟩ => exact ⟨_, _, S6.unsuite ok, q6⟩
          | .ret u, ⟨v6, σ6, H6, S6, r6, q6⟩ => exact ⟨_, _, _, S6.unsuite ok, r6, q6⟩
      | @named x n i c ts b0 su np ps hds2 l2 hc hi hl hsu r ih =>
        intro w
        obtain ⟨b, hb1, yes, no⟩ := w
        have LM := PySem.W.exm_one (M := model X.prog X.w) (J3.kIn) LT hb1
        refine wpAny_handleBy_cons (codeAny_handlers_test (test hc (LM.here ?_))) (by intro q; cases q)
        match b, yes, no with
        | false, _, no => exact ih (no rfl)
        | true, yes, _ =>
          refine codeAny_handlers_suite_as (HandSPX.lands_againZ fl3 fun h4 fl4 up4 => ?_)
          have J4 : Inv X pins σ1 H1 { s' with heap := h4 } := J.landed nb fl4.1 ((up.trans up3).trans up4) os ag
          obtain ⟨oe4, vs4, he4, hz4, hd4⟩ := fl4.there
          refine store_ok (X := X.suite a ((a, oe4) :: (X.pn ++ pins))) (v := .ref a) (J4.suite he4 hd4 na nL nF) hN hi (.inl hl) rfl (fun s5 S5 => ?_) (.inr hl)
          refine wpAny_mono ((hsu a oe4 cls dx (X.pn ++ pins) hz4 ⟨_, hd4⟩).run [] s5 _ H1 _ S5 (yes rfl a na)) (fun f s6 hsp => ?_) (fun _ _ z => False.elim z)
          have goes : ∀ {σ6 : L2.St} {H6 : Hp} {Q : Shared → Prop}, Inv (X.suite a ((a, oe4) :: (X.pn ++ pins))) [] σ6 H6 s6 → (∀ s7, Inv X pins (σ6.set i none) H6 s7 → Q s7) →
              wpAny (model X.prog X.w) X.A (do bindName X.env n .none; unbindBehindTheSuite X.env n ps) (fun _ s7 => Q s7) X.xe s6 := fun {σ6 H6 Q} S6 hq => gone_ok (S6.unsuite ok) hN hi hl hq
          match f, hsp with
          | .next, ⟨σ6, H6, S6, q6⟩ => exact goes S6 fun s7 J7 => ⟨_, _, J7, q6⟩
          | .brk, ⟨σ6, H6, S6, q6⟩ => exact goes S6 fun s7 J7 => ⟨_, _, J7, q6⟩
          | .cont, ⟨σ6, H6, S6, q6⟩ => exact goes S6 fun s7 J7 => ⟨_, _, J7, q6⟩
          | .ret u, ⟨v6, σ6, H6, S6, r6, q6⟩ => exact goes S6 fun s7 J7 => ⟨_, _, _, J7, r6, q6⟩
    exact walk hh w
  · match f, hsp with
    | .next, ⟨σ', H', J', q⟩ => exact wpAny_execs_nil ⟨σ', H', J'.ofTry ok, q⟩
    | .brk, ⟨σ', H', J', q⟩ => exact ⟨σ', H', J'.ofTry ok, q⟩
    | .cont, ⟨σ', H', J', q⟩ => exact ⟨σ', H', J'.ofTry ok, q⟩
    | .ret u, ⟨v, σ', H', J', r, q⟩ => exact ⟨v, σ', H', J'.ofTry ok, r, q⟩
end
def T.catch {α β : Type} (ok : α → T β) (hd : Nat → List W → T β) : T α → T β
  | .ok a => ok a
  | .exc n fs => hd n fs
  | .bad => .bad
  | .ask n k => .ask n fun i => (k i).catch ok hd
theorem T.allB_catch {α β : Type} {P : Nat → β → Prop} {E : Nat → Nat → List W → Prop} {ok : α → T β} {hd : Nat → List W → T β} : ∀ {t : T α} {d : Nat}, (t.catch ok hd).AllB P E d ↔ t.AllB (fun d a => (ok a).AllB P E d) (fun d n fs => (hd n fs).AllB P E d) d
  | .ok a, d => Iff.rfl
  | .exc n fs, d => Iff.rfl
  | .bad, _ => Iff.rfl
  | .ask n k, d => by
    constructor
    · rintro ⟨e, he, x⟩
      exact ⟨e, he, fun i hi => T.allB_catch.mp (x i hi)⟩
    · rintro ⟨e, he, x⟩
      exact ⟨e, he, fun i hi => T.allB_catch.mpr (x i hi)⟩
/-- a clause's run: which errors it takes, its name's slot, what it tells of the fields -/
structure Hd where
  m : Nat → Bool
  io : Option Nat
  h : Nat → List W → T W
def unE (io : Option Nat) (ρ : En) : En := match io with
  | none => ρ
  | some i => ρ.set i .un
/-- k: what is done with what a clause tells -/
def hdls (k : W → En → Fl × En) : List Hd → Nat → List W → En → T (Fl × En)
  | [], n, fs, _ => .exc n fs
  | x :: r, n, fs, ρ => if x.m n then (x.h n fs).bind fun w => .ok (k w (unE x.io ρ)) else hdls k r n fs ρ
def sTry (ns : List Nat) (k : W → En → Fl × En) (f : En → T W) (hs : List Hd) : En → T (Fl × En) := fun ρ => (f ρ).catch (fun w => .ok (k w ρ)) fun n fs => if ns.contains n then hdls k hs n fs ρ else .bad
def kRet : W → En → Fl × En := fun w ρ => (.rt w, ρ)
def kSet (j : Nat) : W → En → Fl × En := fun w ρ => (.nx, ρ.set j (.val w))
/-- the reading of an expression of the suite: a the error, of the class n, with its fields -/
def liftX (K : PySem.W.Frag) (ns : List Nat) (io : Option Nat) (h : Nat → List W → T W) (a : Addr) (cls : Value) (dx : Option Addr) : TE := fun σ H Q => ∃ (c : Cc) (d n : Nat) (fs : List W), n ∈ ns ∧ Wd c d H ∧ (∀ i, io = some i → σ[i]? = some (some (.ref a))) ∧ RepX K c H n fs cls dx ∧ ∃ E', (h n fs).AllB (PQ K c H Q) E' d
def liftXL (K : PySem.W.Frag) (ns : List Nat) (io : Option Nat) (h : Nat → List W → T (List W)) (a : Addr) (cls : Value) (dx : Option Addr) : TA := fun σ H Q => ∃ (c : Cc) (d n : Nat) (fs : List W), n ∈ ns ∧ Wd c d H ∧ (∀ i, io = some i → σ[i]? = some (some (.ref a))) ∧ RepX K c H n fs cls dx ∧ ∃ E', (h n fs).AllB (PQL K c H Q) E' d
def TrX (X : Cx) (ns : List Nat) (io : Option Nat) (e : Expr) (h : Nat → List W → T W) : Prop := ∀ (a : Addr) (oe : Obj) (cls : Value) (dx : Option Addr) (pn : List (Addr × Obj)), Zc cls dx oe → (∃ vs, oe.data = .fields vs) → PE (X.suite a ((a, oe) :: pn)) e (liftX X.K ns io h a cls dx)
def TrXL (X : Cx) (ns : List Nat) (io : Option Nat) (es : List Expr) (h : Nat → List W → T (List W)) : Prop := ∀ (a : Addr) (oe : Obj) (cls : Value) (dx : Option Addr) (pn : List (Addr × Obj)), Zc cls dx oe → (∃ vs, oe.data = .fields vs) → PA (X.suite a ((a, oe) :: pn)) es (liftXL X.K ns io h a cls dx)
theorem RepX.step {K : PySem.W.Frag} {c : Cc} {d : Nat} {H H' : Hp} {n : Nat} {fs : List W} {cls : Value} {dx : Option Addr} (st : Step c H H') (wd : Wd c d H) (r : RepX K c H n fs cls dx) : RepX K c H' n fs cls dx := by
  obtain ⟨r1, d', vs, r2, r3, r4, r5⟩ := r
  obtain ⟨kvs, hS⟩ := wd.st.S
  obtain ⟨xs, hl⟩ := wd.st.la
  exact ⟨r1, d', vs, r2, st.keep _ _ r3 (ne_of r3 hS (by intro z; cases z)) (ne_of r3 hl (by intro z; cases z)) nofun, r4, r5.step st wd.st wd.ok⟩
def hC (w : W) : Nat → List W → T W := fun _ _ => .ok w
def hF (k : Nat) : Nat → List W → T W := fun _ fs => match fs[k]? with
  | some w => .ok w
  | none => .bad
def hNil : Nat → List W → T (List W) := fun _ _ => .ok []
def hCons (h : Nat → List W → T W) (r : Nat → List W → T (List W)) : Nat → List W → T (List W) := fun n fs => (h n fs).bind fun x => (r n fs).bind fun xs => .ok (x :: xs)
def hL (r : Nat → List W → T (List W)) (g : List W → T W) : Nat → List W → T W := fun n fs => (r n fs).bind g
section
variable {X : Cx} {ns : List Nat} {io : Option Nat} {e : Expr} {es : List Expr} {h : Nat → List W → T W} {r : Nat → List W → T (List W)} {pos : Pos}
theorem trx_const {v : V} {w : W} (he : ∀ Y : Cx, PE Y e (tC v)) (rr : ∀ K c H, Rep K c H w v) : TrX X ns io e (hC w) := fun a oe cls dx pn hz hf => pe_imp (he _) fun σ H Q q => by
  obtain ⟨c, d, n, fs, hn, wd, hi, rx, E', q⟩ := q
  exact PQ.now wd q (rr _ c H)
theorem trx_str {x : Str} {j : Nat} : TrX X ns io (.Constant (.str x) j pos) (hC (.str x)) := trx_const (fun _ => pe_str) fun _ _ _ => .str x
theorem trx_non {j : Nat} : TrX X ns io (.Constant .none j pos) (hC .non) := trx_const (fun _ => pe_non) fun _ _ _ => .non
theorem trx_bl {b : Bool} {j : Nat} : TrX X ns io (.Constant (.bool b) j pos) (hC (.bl b)) := trx_const (fun _ => pe_bl) fun _ _ _ => .bl b
theorem trx_int {i : Int} {j : Nat} : TrX X ns io (.Constant (.int i) j pos) (hC (.int i)) := trx_const (fun _ => pe_int) fun _ _ _ => .int i
theorem trx_nil : TrXL X ns io [] hNil := fun a oe cls dx pn hz hf => pa_imp pa_nil fun σ H Q q => by
  obtain ⟨c, d, n, fs, hn, wd, hi, rx, E', q⟩ := q
  exact q [] H (.refl c H) wd.st .nil
theorem trx_cons (he : TrX X ns io e h) (hr : TrXL X ns io es r) (hs : ∀ env : PySem.Env, starEach (e :: es) env = (false, eval e env) :: starEach es env := by intro _; rfl) : TrXL X ns io (e :: es) (hCons h r) := fun a oe cls dx pn hz hf => pa_imp (pa_cons (he a oe cls dx pn hz hf) (hr a oe cls dx pn hz hf) (hs _)) fun σ H Q q => by
  obtain ⟨c, d, n, fs, hn, wd, hi, rx, E', q⟩ := q
  refine ⟨c, d, n, fs, hn, wd, hi, rx, E', T.AllB.imp (fun d1 w x => ?_) (fun _ _ _ x => x) (T.allB_bind.mp q)⟩
  intro v H1 st so rv
  have wd1 := wd.step st so
  refine ⟨c, d1, n, fs, hn, wd1, hi, rx.step st wd, E', T.AllB.imp (fun d2 ws y => ?_) (fun _ _ _ x => x) (T.allB_bind.mp x)⟩
  intro vs H2 st2 so2 rl
  exact y _ H2 (st.trans st2) so2 (.cons (rv.step st2 wd1.st wd1.ok) rl)
theorem trx_tup {x1} (hr : TrXL X ns io es r) : TrX X ns io (.Tuple es x1 pos) (hL r mkTup) := fun a oe cls dx pn hz hf => pe_imp (pe_tup (hr a oe cls dx pn hz hf)) fun σ H Q q => by
  obtain ⟨c, d, n, fs, hn, wd, hi, rx, E', q⟩ := q
  refine ⟨c, d, n, fs, hn, wd, hi, rx, E', T.AllB.imp (fun d1 ws y => ?_) (fun _ _ _ x => x) (T.allB_bind.mp q)⟩
  intro vs H1 st so rl
  obtain ⟨h2, y⟩ := T.AllB.ite y
  exact ⟨by rw [← rl.length]; exact sizeOk_of h2, fun p n => PQ.tup (wd.step st so) (y.later st) rl n⟩
theorem trx_lst (hr : TrXL X ns io es r) : TrX X ns io (.List es pos) (hL r mkLst) := fun a oe cls dx pn hz hf => pe_imp (pe_lst (hr a oe cls dx pn hz hf)) fun σ H Q q => by
  obtain ⟨c, d, n, fs, hn, wd, hi, rx, E', q⟩ := q
  refine ⟨c, d, n, fs, hn, wd, hi, rx, E', T.AllB.imp (fun d1 ws y => ?_) (fun _ _ _ x => x) (T.allB_bind.mp q)⟩
  intro vs H1 st so rl
  obtain ⟨h2, y⟩ := T.AllB.ite y
  exact ⟨by rw [← rl.length]; exact sizeOk_of h2, fun p n => PQ.lst (wd.step st so) (y.later st) rl n⟩
/-- error.f -/
theorem trx_fld {i k : Nat} {nm f : Str} {p : Pos} {n : Nat} (T : XfC X.K (He.ga X.K (xName n))) (hno : PySem.W.findIn X.K (.ref (He.ga X.K (xName n))) f = some none) (hN : X.N[i]? = some nm) (hv : Vis X.env.scope nm) (hk : (xFlds n)[k]? = some f) (hu : (xFlds n).Nodup)
    (hb : ∀ env : PySem.Env, attributeBase (.Name nm p) f env (eval (.Name nm p) env) = eval (.Name nm p) env := by intro _; rfl) (hd : (nm == ("__debug__" : Str)) = false := by decide) (hcd : (nm == ("__classdict__" : Str)) = false := by decide) :
    TrX X [n] (some i) (.Attribute (.Name nm p) f pos) (hF k) := fun a oe cls dx pn hz hf => by
  refine pe_imp (pe_xf T hno hz hf (pe_var (X := X.suite a ((a, oe) :: pn)) (i := i) hN hv hd hcd) (hb _)) fun σ H Q q => ?_
  obtain ⟨c, d, n', fs, hn, wd, hi, rx, E', q⟩ := q
  obtain rfl : n' = n := by simpa using hn
  obtain ⟨r1, d', vs, r2, r3, r4, r5⟩ := rx
  refine ⟨.ref a, hi i rfl, rfl, r1, d', ((xFlds n').zip vs).reverse, ?_⟩
  have hkl : k < (xFlds n').length := (List.getElem?_eq_some_iff.mp hk).1
  have hkv : k < vs.length := by omega
  have hlk : ((xFlds n').zip vs).reverse.lookup f = some vs[k] := by
    have key : ∀ (ks : List Str) (vs : List V) (k : Nat) (f : Str) (hk : ks[k]? = some f) (hv : k < vs.length), ks.Nodup → ((ks.zip vs).reverse).lookup f = some vs[k] := by
      intro ks
      induction ks with
      | nil => intro vs k f hk; simp at hk
      | cons x ks ih =>
        intro vs k f hk hv hu
        cases vs with
        | nil => simp at hv
        | cons v vs =>
          rw [List.zip_cons_cons, List.reverse_cons, List.lookup_append]
          cases k with
          | zero =>
            have hx : x = f := by simpa using hk
            subst hx
            have hnone : ((ks.zip vs).reverse).lookup x = none := by
              rw [List.lookup_eq_none_iff]
              intro p hp
              have hp2 := List.of_mem_zip (List.mem_reverse.mp hp)
              have : x ≠ p.1 := fun z => (List.nodup_cons.mp hu).1 (z ▸ hp2.1)
              simpa using this
            rw [hnone]
            simp [List.lookup]
          | succ k =>
            rw [ih vs k f (by simpa using hk) (by simpa using hv) (List.nodup_cons.mp hu).2]
            simp
    exact key _ _ _ _ hk hkv hu
  have hfl : k < fs.length := by rw [r5.length]; exact hkv
  obtain ⟨v, hv1, hv2⟩ := r5.get (List.getElem?_eq_getElem hfl)
  rw [List.getElem?_eq_getElem hkv] at hv1
  cases hv1
  refine ⟨vs[k], r2, r3, hlk, ?_⟩
  unfold hF at q
  rw [List.getElem?_eq_getElem hfl] at q
  exact PQ.now wd q hv2
end
inductive KK where
  | ret | set (j : Nat)
def KK.k : KK → W → En → Fl × En
  | .ret => kRet
  | .set j => kSet j
def KK.aft : KK → Ends → L2.St → VK
  | .ret => fun D _ v H => D.rt v H
  | .set j => fun D σ v H => D.nx (σ.set j (some v)) H
def tSu (K : PySem.W.Frag) (kk : KK) (ns : List Nat) (io : Option Nat) (h : Nat → List W → T W) (a : Addr) (cls : Value) (dx : Option Addr) : TS := fun D σ H => liftX K ns io h a cls dx σ H (kk.aft D σ)
/-- clauses of one statement each; ns: the errors that there are -/
inductive TrC (X : Cx) (kk : KK) (ns : List Nat) : List ExceptHandler → List Hd → List Cla → Prop
  | nil : TrC X kk ns [] [] []
  | cons {x : Str} {c : Value} {no : Option Str} {ms : List Nat} {m : Nat → Bool} {io : Option Nat} {h : Nat → List W → T W} {su : Stmt} {np ps : Pos} {hds : List ExceptHandler} {hs : List Hd} {l : List Cla} (hc : Names X x c) (hi : ∀ i, io = some i → ∃ n, no = some n ∧ X.N[i]? = some n ∧ X.env.kindOf n = some .local) (hio : io = none → no = none)
      (hm : ∀ n ∈ ns, PySem.W.exmOne X.K (.ref (He.ga X.K (xName n))) c = some (m n)) (hms : ∀ n ∈ ns, m n = true → n ∈ ms)
      (hsu : ∀ (a : Addr) (oe : Obj) (cls : Value) (dx : Option Addr) (pn : List (Addr × Obj)), Zc cls dx oe → (∃ vs, oe.data = .fields vs) → PSs (X.suite a ((a, oe) :: pn)) [su] (tSu X.K kk ms io h a cls dx)) (r : TrC X kk ns hds hs l) :
      TrC X kk ns (.ExceptHandler (some (.Name x np)) no [su] ps :: hds) (⟨m, io, h⟩ :: hs) ((c, io, tSu X.K kk ms io h) :: l)
theorem TrC.ok {X : Cx} {kk : KK} {ns : List Nat} : ∀ {hds : List ExceptHandler} {hs : List Hd} {l : List Cla}, TrC X kk ns hds hs l → ClsOk X hds l
  | _, _, _, .nil => .nil
  | _, _, _, .cons (io := none) hc hi hio hm hms hsu r => by
    rw [hio rfl]
    exact .bare hc hsu r.ok
  | _, _, _, .cons (io := some i) hc hi hio hm hms hsu r => by
    obtain ⟨n, rfl, h1, h2⟩ := hi i rfl
    exact .named hc h1 h2 hsu r.ok
theorem set_set_none {α : Type} (σ : List (Option α)) (i : Nat) (x : Option α) : (σ.set i x).set i none = σ.set i none := by
  rw [List.set_set]
theorem EnvOk.unIo {K : PySem.W.Frag} {c : Cc} {d : Nat} {oa : Nat → Addr} {ρ : En} {σ : L2.St} {H : Hp} (e : EnvOk K c d oa ρ σ H) (i : Nat) : EnvOk K c d oa (ρ.set i .un) (σ.set i none) H := e.un
theorem held_len {io : Option Nat} {a : Addr} {σ : L2.St} : (heldS io a σ).length = σ.length := by
  unfold heldS
  cases io with
  | none => rfl
  | some i => exact List.length_set
section
variable {X : Cx} {kk : KK} {ns : List Nat} {E : XK} {c : Cc} {d : Nat} {oa : Nat → Addr} {ρ : En} {σ : L2.St} {H : Hp} {D : Ends} {n : Nat} {fs : List W} {cls : Value} {dx : Option Addr}
theorem wCl_of (e : EnvOk X.K c d oa ρ σ H) (rx : RepX X.K c H n fs cls dx) (hn : n ∈ ns) : ∀ {hds : List ExceptHandler} {hs : List Hd} {l : List Cla}, TrC X kk ns hds hs l → (∀ x ∈ hs, ∀ i j, x.io = some i → kk = .set j → i ≠ j) → (∀ x ∈ hs, ∀ i, x.io = some i → i < σ.length) → (hdls kk.k hs n fs ρ).AllB (PSq X.K c H D) (PXs X.K c H E) d →
    wCl X.K (wOf E) D l cls dx σ H
  | _, _, _, .nil, _, _, q => q c cls dx H .refl e.st rx
  | _, _, _, .cons (m := m) (io := io) (h := h) hc hi hio hm hms hsu r, hne, hlt, q => by
    refine ⟨m n, ?_, fun hb a na => ?_, fun hb => ?_⟩
    · rw [rx.1]
      exact hm n hn
    · have q : (if m n then (h n fs).bind fun w => T.ok (kk.k w (unE io ρ)) else _ : T (Fl × En)).AllB (PSq X.K c H D) (PXs X.K c H E) d := q
      rw [if_pos hb] at q
      refine ⟨c, d, n, fs, hms n hn hb, e.wd, fun i hio' => ?_, rx, _, T.AllB.imp (fun d1 w y => ?_) (fun _ _ _ y => y) (T.allB_bind.mp q)⟩
      · subst hio'
        show (σ.set i (some (.ref a)))[i]? = _
        rw [List.getElem?_set_self (hlt _ (List.mem_cons_self ..) i rfl)]
      · intro v H1 st so rv
        have e1 := e.step st so
        have fw : Fwd X.K c H c H1 := .of st e.wd
        cases io with
        | none =>
          cases kk with
          | ret => exact y c oa σ H1 fw e1 v rv
          | set j => exact y c oa (σ.set j (some v)) H1 fw (e1.set rv)
        | some i =>
          cases kk with
          | ret => exact y c oa (σ.set i none) H1 fw e1.un v rv
          | set j =>
            have nij := hne _ (List.mem_cons_self ..) i j rfl rfl
            have es : ((σ.set i (some (V.ref a))).set j (some v)).set i none = (σ.set i none).set j (some v) := by
              rw [List.set_comm _ _ (Ne.symm nij), List.set_set]
            show D.nx (((σ.set i (some (V.ref a))).set j (some v)).set i none) H1
            rw [es]
            exact y c oa _ H1 fw (e1.un.set rv)
    · have q : (if m n then (h n fs).bind fun w => T.ok (kk.k w (unE io ρ)) else hdls kk.k _ n fs ρ : T (Fl × En)).AllB (PSq X.K c H D) (PXs X.K c H E) d := q
      rw [if_neg (by rw [hb]; decide)] at q
      exact wCl_of e rx hn r (fun x hx => hne x (List.mem_cons_of_mem _ hx)) (fun x hx => hlt x (List.mem_cons_of_mem _ hx)) q
end
section
variable {X : Cx} {ns : List Nat} {E : XK} {f : En → T W} {e : Expr} {h0 : ExceptHandler} {hds : List ExceptHandler} {hs : List Hd} {l : List Cla} {pos p1 : Pos}
theorem try_mid {kk : KK} (hl : ∀ x ∈ hs, ∀ i, x.io = some i → i < X.N.length) (hne : ∀ x ∈ hs, ∀ i j, x.io = some i → kk = .set j → i ≠ j) (r : TrC X kk ns (h0 :: hds) hs l) (len : ∀ pins s σ H, Inv X pins σ H s → σ.length = X.N.length) {D : Ends} {σ : L2.St} {H : Hp} (hlen : σ.length = X.N.length) (q : liftS X.K E (sTry ns kk.k f hs) D σ H) :
    liftE X.K (wCl X.K (wOf E) D l) f σ H (kk.aft D σ) := by
  obtain ⟨c, d, oa, ρ, e, q⟩ := q
  refine ⟨c, d, oa, ρ, e, T.AllB.imp (fun d1 w y => ?_) (fun d1 n fs y => ?_) (T.allB_catch.mp q)⟩
  · intro v H1 st so rv
    have e1 := e.step st so
    cases kk with
    | ret => exact y c oa σ H1 (.of st e.wd) e1 v rv
    | set j => exact y c oa (σ.set j (some v)) H1 (.of st e.wd) (e1.set rv)
  · intro cls dx H1 st so rx
    have e1 := e.step st so
    obtain ⟨hc, y⟩ := T.AllB.ite y
    exact wCl_of e1 rx (List.contains_iff_mem.mp hc) r hne (fun x hx i hi => by rw [hlen]; exact hl x hx i hi) (T.AllB.imp (fun _ _ z => z.later (.of st e.wd)) (fun _ _ _ z => z.later e.wd st) y)
theorem trS_len {st : Stmt} {g : En → T (Fl × En)} {t : TS} (h : PS X st t) (i : ∀ D σ H, σ.length = X.N.length → liftS X.K E g D σ H → t D σ H) : TrS X E st g := ⟨fun pins s σ H D I q => h.run pins s σ H D I (i D σ H I.len q)⟩
theorem tr_tryR (hs0 : X.stack = X.env :: X.outer) (hf : X.env.frame = some X.env.locals) (hN : X.N.Nodup) (tk : Takes X (wOf E)) (he : ∀ (W : WX) (pn : List (Addr × Obj)) (xe : Value → Shared → Prop), Takes (X.tr pn xe) W → TrE (X.tr pn xe) W e f)
    (hl : ∀ x ∈ hs, ∀ i, x.io = some i → i < X.N.length) (r : TrC X .ret ns (h0 :: hds) hs l) : TrS X E (.Try [.Return (some e) p1] (h0 :: hds) [] [] pos) (sTry ns kRet f hs) :=
  trS_len (ps_tryM hs0 hf hN tk (tb := fun W => tRet (liftE X.K W f)) (fun W pn xe tk' _ => pss_one (ps_ret (he W pn xe tk'))) r.ok) fun D σ H hlen q => try_mid (kk := .ret) hl (fun _ _ _ _ _ z => by cases z) r (fun _ _ _ _ I => I.len) hlen q
theorem tr_tryA {j : Nat} {x : Str} {pos' : Pos} (hs0 : X.stack = X.env :: X.outer) (hf : X.env.frame = some X.env.locals) (hN : X.N.Nodup) (tk : Takes X (wOf E)) (hj : X.N[j]? = some x) (hx : Loc X.env.scope x) (he : ∀ (W : WX) (pn : List (Addr × Obj)) (xe : Value → Shared → Prop), Takes (X.tr pn xe) W → TrE (X.tr pn xe) W e f)
    (hl : ∀ x ∈ hs, ∀ i, x.io = some i → i < X.N.length) (hne : ∀ x ∈ hs, ∀ i, x.io = some i → i ≠ j) (r : TrC X (.set j) ns (h0 :: hds) hs l) (hsw : swapsWith e (some (.Name x pos')) p1.line X.env = pure false := by rfl)
    (hfn : X.fn x = true ∨ X.env.scope.names.lookup x = some .local := by first | exact .inl rfl | exact .inr rfl | assumption) : TrS X E (.Try [.Assign [.Name x pos'] e p1] (h0 :: hds) [] [] pos) (sTry ns (kSet j) f hs) :=
  trS_len (ps_tryM hs0 hf hN tk (tb := fun W => tAsg (liftE X.K W f) (gName j)) (fun W pn xe tk' _ => pss_one (ps_set (X := X.tr pn xe) hN hj hx (he W pn xe tk') hsw hfn)) r.ok) fun D σ H hlen q => try_mid (kk := .set j) hl (fun x hx i j' h1 h2 => by cases h2; exact hne x hx i h1) r (fun _ _ _ _ I => I.len) hlen q
/-- the suites -/
theorem su_ret {ms : List Nat} {io : Option Nat} {e' : Expr} {h : Nat → List W → T W} (he : TrX X ms io e' h) : ∀ (a : Addr) (oe : Obj) (cls : Value) (dx : Option Addr) (pn : List (Addr × Obj)), Zc cls dx oe → (∃ vs, oe.data = .fields vs) → PSs (X.suite a ((a, oe) :: pn)) [.Return (some e') p1] (tSu X.K .ret ms io h a cls dx) :=
  fun a oe cls dx pn hz hf => pss_one (ps_ret (he a oe cls dx pn hz hf))
theorem su_set {ms : List Nat} {io : Option Nat} {e' : Expr} {h : Nat → List W → T W} {j : Nat} {x : Str} {pos' : Pos} (hN : X.N.Nodup) (hj : X.N[j]? = some x) (hx : Loc X.env.scope x) (he : TrX X ms io e' h) (hsw : swapsWith e' (some (.Name x pos')) p1.line X.env = pure false := by rfl)
    (hfn : X.fn x = true ∨ X.env.scope.names.lookup x = some .local := by first | exact .inl rfl | exact .inr rfl | assumption) : ∀ (a : Addr) (oe : Obj) (cls : Value) (dx : Option Addr) (pn : List (Addr × Obj)), Zc cls dx oe → (∃ vs, oe.data = .fields vs) → PSs (X.suite a ((a, oe) :: pn)) [.Assign [.Name x pos'] e' p1] (tSu X.K (.set j) ms io h a cls dx) :=
  fun a oe cls dx pn hz hf => pss_one (ps_set (X := X.suite a ((a, oe) :: pn)) hN hj hx (he a oe cls dx pn hz hf) hsw hfn)
end
end PF
namespace PF
open PySem PySem.Spec PyProof.Rows L2
def mth (st : Stmt) : Stmt := match st with
  | .ClassDef (body := b :: _) .. => b
  | s => s
abbrev tlV : List Value := [.type "ValueError", .type "Exception", .type "BaseException", .type "object"]
abbrev tlO : List Value := [.type "OverflowError", .type "ArithmeticError", .type "Exception", .type "BaseException", .type "object"]
theorem allN {p : Nat → Prop} : ∀ n ∈ ([] : List Nat), p n := fun _ h => by cases h
theorem allC {p : Nat → Prop} {a : Nat} {l : List Nat} (h : p a) (r : ∀ n ∈ l, p n) : ∀ n ∈ a :: l, p n := fun n hn => by
  rcases List.mem_cons.mp hn with rfl | hn
  · exact h
  · exact r n hn
theorem memC {a : Nat} {l : List Nat} {m : Nat → Bool} {ms : List Nat} (h : m a = true → a ∈ ms) (r : ∀ n ∈ l, m n = true → n ∈ ms) : ∀ n ∈ a :: l, m n = true → n ∈ ms := allC (p := fun n => m n = true → n ∈ ms) h r
/-- an own class that gives its base's __init__ -/
def iniB : Option PySem.W.CFound → String → Bool
  | some (.val (.builtin b)), ini => decide (b = ini)
  | _, _ => false
theorem iniB_ok {o : Option PySem.W.CFound} {ini : String} (h : iniB o ini = true) : o = some (.val (.builtin ini)) := by
  unfold iniB at h
  split at h
  · rw [of_decide_eq_true h]
  · cases h
def ownB (K : PySem.W.Frag) (C : Addr) (ini : String) : Bool := PySem.W.readsIn K C (.type "type") && (decide (PySem.W.specialIn K (.ref C) "__getattribute__" = some (some (.builtin "type.__getattribute__"))) && iniB (PySem.W.findCls K (.ref C) (.type "type") "__init__") ini)
theorem ownB_base {X : Cx} {bn : Str} {ini : String} {C : Addr} (hg : Gl X bn) (hm : X.mg bn = some (.ref C)) (h : ownB X.K C ini = true) (hh : PySem.W.handedIn (.builtin ini) = true) (hdb : (bn == ("__debug__" : Str)) = false) : BaseIni X bn ini := by
  unfold ownB at h
  simp only [Bool.and_eq_true, decide_eq_true_eq] at h
  exact base_own hg hm h.1 h.2.1 (iniB_ok h.2.2) hh hdb
/-- all of a class that the head says -/
def xB (K : PySem.W.Frag) (x f : Str) (nw : String) (tl : List Value) : Bool := xclB K (He.ga K x) nw tl && (decide (PySem.W.findIn K (.ref (He.ga K x)) f = some none) && (decide (PySem.W.findIn K (.ref (He.ga K x)) "__init__" = some (some (.ref (He.ma K (He.ga K x) "__init__")))) &&
  (decide (PySem.W.typeIn K (.ref (He.ma K (He.ga K x) "__init__")) = some (.type "function")) && xfB K (He.ga K x))))
structure XB (K : PySem.W.Frag) (x f : Str) (nw : String) (tl : List Value) : Prop where
  cl : XCl K (He.ga K x) nw tl
  no : PySem.W.findIn K (.ref (He.ga K x)) f = some none
  ic : PySem.W.findIn K (.ref (He.ga K x)) "__init__" = some (some (.ref (He.ma K (He.ga K x) "__init__")))
  ti : PySem.W.typeIn K (.ref (He.ma K (He.ga K x) "__init__")) = some (.type "function")
  xf : XfC K (He.ga K x)
theorem xB_ok {K : PySem.W.Frag} {x f : Str} {nw : String} {tl : List Value} (h : xB K x f nw tl = true) : XB K x f nw tl := by
  unfold xB at h
  simp only [Bool.and_eq_true, decide_eq_true_eq] at h
  exact ⟨xclB_ok h.1, h.2.1, h.2.2.1, h.2.2.2.1, xfB_ok h.2.2.2.2⟩
theorem XB.is {P : Program} {w : World} {K : PySem.W.Frag} {mg : Str → Option Value} {base : Heap} {n : Nat} {nw B ini : String} {tl : List Value} {fd : FuncData} {ps : List Str} {f : Str} (h : XB K (xName n) f nw tl) (hf : xFlds n = [f]) (gl : mg (xName n) = some (.ref (He.ga K (xName n)))) (FB : ExcBaseFacts B nw ini tl)
    (F : FnOk P w K mg base (L2.CX P w) 1 (He.ma K (He.ga K (xName n)) "__init__") fd ps (spI K nw tl f)) (hb : Binds K fd ps []) : XIs P w K mg base n nw tl :=
  ⟨gl, h.cl, fun g hg => (by
    rw [hf] at hg
    rcases List.mem_cons.mp hg with rfl | hg
    · exact h.no
    · cases hg), B, ini, _, fd, ps, f, hf, FB, h.ic, h.ti, F, hb⟩
theorem handed_VE : PySem.W.handedIn (.builtin "ValueError.__init__") = true := by decide +kernel
theorem handed_OE : PySem.W.handedIn (.builtin "OverflowError.__init__") = true := by decide +kernel
theorem typ_OE : typeOf (.type "OverflowError") = pure (.type "type") := by kernel_rfl
end PF
namespace PF
open PySem PySem.Spec PyProof.Rows L2
/-- the function of a lambda, its defaults at dV -/
abbrev lfd (qual : Str) (params : Arguments) (body : Expr) (scope : Scope) (cl : List (Str × Addr)) (dV pm cdv ct : Value) : FuncData :=
  { name := "<lambda>", qualname := qual, params := params, body := .expr body, scope := scope, globals := mainGlobals, closure := cl, defaults := dV, kwdefaults := .none, doc := .none, pyModule := pm, annotations := none, code := cdv, closureTuple := ct, builtins := builtinsNs }
abbrev lob (qual : Str) (params : Arguments) (body : Expr) (scope : Scope) (cl : List (Str × Addr)) (dV pm : Value) (c' : Addr) (ctv : Value) : Obj := { cls := .type "function", data := .func (lfd qual params body scope cl dV pm (.ref c') ctv) }
section
variable {M : Model} {A : Around} {E : Value → Shared → Prop} {s : Shared} {qual : Str} {params : Arguments} {body : Expr} {scope : Scope} {env : PySem.Env} {c P : Addr} {ps : Array Value} {pos : Pos} {ln : Nat} {mg : Str → Option Value} {clos : List (Str × Addr)} {dV : Value} {Q : Value → Shared → Prop}
theorem lam_tail (hcl : closureFor scope env = pure clos) (hge0 : env.globals = mainGlobals) (hg : s.heap.Ns mainGlobals mg) (hcode : env.code = .ref c) (C : PySem.W.CodeHd s.heap c P) (hP : s.heap.get? P = some (PySem.W.tabObj ps)) (ht : TriplesOk ps.toList)
    (hgP : mainGlobals ≠ P) (hb : s.heap.BuiltinsAt mg P)
    (new : codeAmong pos ps.toList = none → ∀ (c' : Addr) (ctv : Value) (h' : Heap) (tk : Tok), Heap.ExtBut P s.heap h' → s.heap.objs.size ≤ c' → c' < h'.objs.size → h'.CodeRec (.ref c') qual → h'.get? P = some (PySem.W.tabObj (ps ++ #[rawInt pos.line, rawInt pos.col, .ref c'])) →
      Q (.ref h'.objs.size) { s with heap := h'.push (lob qual params body scope clos dV ((mg "__name__").getD .none) c' ctv), toks := tk })
    (old : ∀ cv, codeAmong pos ps.toList = some cv → ∀ (ctv : Value) (h' : Heap) (tk : Tok), (∀ b o, s.heap.get? b = some o → h'.get? b = some o) → s.heap.objs.size ≤ h'.objs.size →
      Q (.ref h'.objs.size) { s with heap := h'.push { cls := .type "function", data := .func (lfd qual params body scope clos dV ((mg "__name__").getD .none) cv ctv) }, toks := tk }) :
    wpAny M A (makeTail "<lambda>" qual params (.expr body) scope env dV .none none pos ln) Q E s := by
  obtain ⟨bm, ob, hbm, hne0, _, hneP, hbo, hcls, hdict, hdata⟩ := hb
  unfold makeTail
  rw [hcl, hge0]
  refine wpAny_bind (wpAny_pure ?_)
  have mid : ∀ (ctv : Value) (h0 : Heap), (∀ b o, s.heap.get? b = some o → h0.get? b = some o) → s.heap.objs.size ≤ h0.objs.size → h0.Ns mainGlobals mg →
      wpAny M A (functionCode env pos ln "<lambda>" qual params scope (.expr body) >>= fun cd => builtinsFor mainGlobals env.builtins >>= fun bs => nsGet mainGlobals "__name__" >>= fun nm => (pure Value.none : Sem Value) >>= fun dc =>
        newObj (.type "function") (.func { name := "<lambda>", qualname := qual, params := params, body := .expr body, scope := scope, globals := mainGlobals, closure := clos, closureTuple := ctv, code := cd, builtins := bs, defaults := dV, kwdefaults := .none, annotations := none, pyModule := nm.getD .none, doc := dc })) Q E { s with heap := h0 } := fun ctv h0 kp sz hg0 => by
    cases hf : codeAmong pos ps.toList with
    | none =>
      refine wpAny_bind (wpAny_functionCodeX (s := { s with heap := h0 }) hcode ((C.keeps kp).code (kp _ _ hP) ht) ((C.keeps kp).tab (kp _ _ hP)) hf fun c' h' tk hx hge hlt _ hrec htb _ => ?_)
      have hg' := hg0.extBut hx hgP
      have hx' : Heap.ExtBut P s.heap h' := fun b o hb' e => hx b o hb' (kp b o e)
      refine wpAny_bind (wpAny_builtinsFor hg' hbm hne0 (hx' _ _ hneP hbo) hcls hdict hdata ?_)
      refine wpAny_bind (wpAny_nsGet hg' (wpAny_bind (wpAny_pure (wpAny_newObj_type ?_ (by size_fits)))))
      exact new hf c' ctv h' tk hx' (Nat.le_trans sz hge) hlt hrec htb.2
    | some cv =>
      refine wpAny_bind (wpAny_functionCode_hit (s := { s with heap := h0 }) hcode ((C.keeps kp).code (kp _ _ hP) ht) hf ?_)
      refine wpAny_bind (wpAny_builtinsFor hg0 hbm hne0 (kp _ _ hbo) hcls hdict hdata ?_)
      refine wpAny_bind (wpAny_nsGet hg0 (wpAny_bind (wpAny_pure (wpAny_newObj_type ?_ (by size_fits)))))
      exact old cv hf ctv h0 s.toks kp sz
  cases clos with
  | nil =>
    simp only [List.isEmpty_nil, if_true]
    exact wpAny_bind (wpAny_pure (mid .none s.heap (fun _ _ e => e) (Nat.le_refl _) hg))
  | cons q r =>
    simp only [List.isEmpty_cons, Bool.false_eq_true, if_false]
    refine wpAny_bind (wpAny_newTextTuple ?_)
    exact mid _ _ (fun b o e => Heap.get?_push_of_some _ e) (by rw [Heap.size_push]; omega) (hg.push _)
end
/-- the parameters of a lambda: none, or one with an int as default -/
inductive ParOk : Option Str → Arguments → Prop
  | zero : ParOk none ⟨[], [], none, [], [], none, []⟩
  | one (x : Str) (p1 p2 : Pos) (i : Int) (j : Nat) : ParOk (some x) ⟨[], [⟨x, none, p1⟩], none, [], [], none, [.Constant (.int i) j p2]⟩
/-- where its default lies -/
def DOk (one : Option Str) (dV : Value) (H : Hp) (fr : List Addr) (h : Heap) : Prop := match one with
  | none => dV = .none
  | some _ => ∃ (D : Addr) (u : Value), dV = .ref D ∧ h.get? D = some { cls := .type "tuple", data := .seq #[u] } ∧ H D = none ∧ D ∉ fr
section
variable {M : Model} {A : Around} {E : Value → Shared → Prop} {s : Shared} {qual : Str} {params : Arguments} {body : Expr} {scope : Scope} {cl : List (Str × Addr)} {one : Option Str} {dV pm cdv ct : Value} {H : Hp} {fr : List Addr}
theorem lam_bind {Q : List (Str × Value) → Shared → Prop} (po : ParOk one params) (d : DOk one dV H fr s.heap) (h : ∀ bs, (∀ y ∈ bs, one = some y.1) → Q bs s) : wpAny M A (bindArgs (lfd qual params body scope cl dV pm cdv ct) ⟨[], []⟩) Q E s := by
  cases po with
  | zero =>
    have d : dV = .none := d
    subst d
    have e : bindArgs (lfd qual ⟨[], [], none, [], [], none, []⟩ body scope cl .none pm cdv ct) ⟨[], []⟩ = pure [] := rfl
    rw [e]
    exact wpAny_pure (h [] fun y hy => (by cases hy))
  | one x p1 p2 i j =>
    obtain ⟨D, u, rfl, hD, _⟩ := d
    have key : ∃ k, bindArgs (lfd qual ⟨[], [⟨x, none, p1⟩], none, [], [], none, [.Constant (.int i) j p2]⟩ body scope cl (.ref D) pm cdv ct) ⟨[], []⟩ = seqItems? (.ref D) >>= k ∧ k (some #[u]) = pure [(x, u)] := by
      refine ⟨_, rfl, ?_⟩
      simp [List.lookup]
    obtain ⟨k, e1, e2⟩ := key
    rw [e1]
    refine wpAny_bind ?_
    show wpAny M A (load D >>= fun o => match o.data with | .seq xs _ => pure (some xs) | _ => pure none) _ _ _
    refine wpAny_bind (wpAny_load hD ?_)
    refine wpAny_pure ?_
    rw [e2]
    exact wpAny_pure (h _ fun y hy => by
      rcases List.mem_cons.mp hy with rfl | hy
      · rfl
      · cases hy)
end
/-- all stays, tables grow -/
structure Grow (H H1 : Hp) : Prop where
  keep : ∀ b o, H b = some o → NoT o → H1 b = some o
  tbl : ∀ b ps, H b = some (.tbl ps) → ∃ more, H1 b = some (.tbl (ps ++ more))
theorem Grow.refl (H : Hp) : Grow H H := ⟨fun _ _ e _ => e, fun _ ps e => ⟨#[], by rw [e]; simp⟩⟩
theorem Grow.step {c : Cc} {H H1 : Hp} (g : Grow H H1) : Step c H H1 := ⟨fun b o e _ _ n => g.keep b o e n, g.tbl⟩
section
variable {X : Cx} {pins : List (Addr × Obj)} {σ : L2.St} {H : Hp} {s : Shared} {T : List (Addr × Str)} {c P : Addr} {params : Arguments} {body : Expr} {scope : Scope} {pos : Pos} {one : Option Str} {E : Value → Shared → Prop} {Q : Value → Shared → Prop}
theorem lam_make1 {dV : Value} {ln : Nat} (I : Inv X pins σ H s) (TB : LamX.TabB X.base X.mg c P) (hcode : X.env.code = .ref c) (hm : (P, X.env.qual ++ "<lambda>") ∈ T) (hu : ∀ p ∈ T, p.1 = P → p.2 = X.env.qual ++ "<lambda>") (hT : LamX.Tabs T H) (hfree : ∀ y ∈ scope.names, y.2 = .free → ∃ c, X.env.cells.lookup y.1 = some c)
    (h : ∀ (f c' : Addr) (pm ctv : Value) (H1 : Hp) (s' : Shared), Inv X pins σ H1 s' → Grow H H1 → LamX.Tabs T H1 → (∀ b o, s.heap.get? b = some o → b ≠ P → s'.heap.get? b = some o) → (∀ b, b < s.heap.objs.size → H b = none → H1 b = none) → s'.heap.get? f = some (lob (X.env.qual ++ "<lambda>") params body scope (cloFrom X.env.cells scope.names []) dV pm c' ctv) → H1 f = none → f ∉ frs X.stack → H1 c' = some (LamX.CodeO c' (X.env.qual ++ "<lambda>")) → Q (.ref f) s') :
    wpAny (model X.prog X.w) X.A (makeTail "<lambda>" (X.env.qual ++ "<lambda>") params (.expr body) scope X.env dV .none none pos ln) Q E s := by
  obtain ⟨ps, hP, ht, ha⟩ := hT _ hm
  have bP : s.heap.BuiltinsAt X.mg P := TB.bm.keeps I.bk
  have hP' : s.heap.get? P = some (PySem.W.tabObj ps) := I.hok P _ hP
  have nofr : ∀ f, s.heap.objs.size ≤ f → f ∉ frs X.stack := fun f hf z => by
    rcases List.mem_cons.mp (I.stkSub _ z) with e | e
    · have h1 := I.lt
      rw [← e] at h1
      exact Nat.lt_irrefl _ (Nat.lt_of_lt_of_le h1 hf)
    · exact I.nofs hf e
  refine lam_tail (mg := X.mg) (c := c) (P := P) (ps := ps) (closure_ok hfree) I.ok.glob (I.mod.glob.keeps I.bk) hcode (TB.code.keeps I.bk) hP' ht TB.gP bP (fun hn c' ctv h' tk hx hge hlt hrec htb => ?_) (fun cv hc ctv h' tk hx hsz => ?_)
  · obtain ⟨c2, oc, vs, t, e2, hoc, hd, hv⟩ := hrec
    cases e2
    have hsz : s.heap.objs.size ≤ h'.objs.size := Nat.le_trans hge (Nat.le_of_lt hlt)
    have nC : H c' = none := I.hok.fresh hge
    have kp : ∀ b o, s.heap.get? b = some o → b ≠ P → (h'.push (lob (X.env.qual ++ "<lambda>") params body scope (cloFrom X.env.cells scope.names []) dV ((X.mg "__name__").getD .none) c' ctv)).get? b = some o := fun b o e hb => Heap.get?_push_of_some _ (hx b o hb e)
    have I1 := LamX.inv_table (t' := tk) (more := #[rawInt pos.line, rawInt pos.col, .ref c']) (q := X.env.qual ++ "<lambda>") (h' := h'.push (lob (X.env.qual ++ "<lambda>") params body scope (cloFrom X.env.cells scope.names []) dV ((X.mg "__name__").getD .none) c' ctv)) I hP
      (fun b o hb e => kp b o e hb) (Heap.get?_push_of_some _ htb) hge ⟨oc, vs, t, Heap.get?_push_of_some _ hoc, hd, hv⟩
    have nPc : P ≠ c' := ne_of_none hP nC
    have oth : ∀ b, b ≠ P → b ≠ c' → upd (upd H P (.tbl (ps ++ #[rawInt pos.line, rawInt pos.col, .ref c']))) c' (LamX.CodeO c' (X.env.qual ++ "<lambda>")) b = H b := fun b h1 h2 => by rw [upd_ne h2, upd_ne h1]
    have gr : Grow H (upd (upd H P (.tbl (ps ++ #[rawInt pos.line, rawInt pos.col, .ref c']))) c' (LamX.CodeO c' (X.env.qual ++ "<lambda>"))) := ⟨fun b o e n => by
        rw [oth b (fun z => n ps (Option.some.inj (e.symm.trans (by rw [z]; exact hP)))) (ne_of_none e nC)]
        exact e, fun b qs e => by
        rcases Decidable.em (b = P) with z | z
        · subst z
          rw [hP] at e
          cases e
          exact ⟨_, by rw [upd_ne nPc, upd_same]⟩
        · exact ⟨#[], by rw [oth b z (ne_of_none e nC), e]; simp⟩⟩
    have eL : (ps ++ #[rawInt pos.line, rawInt pos.col, Value.ref c']).toList = ps.toList ++ [rawInt pos.line, rawInt pos.col, .ref c'] := by simp
    refine h h'.objs.size c' ((X.mg "__name__").getD .none) ctv _ _ I1 gr (fun p hp => ?_) kp (fun b hb n => ?_) (Heap.get?_push_size _ rfl) ?_ (nofr _ hsz) upd_same
    · obtain ⟨pa, pq⟩ := p
      rcases Decidable.em (pa = P) with z | z
      · subst z
        have hq : pq = X.env.qual ++ "<lambda>" := hu _ hp rfl
        subst hq
        refine ⟨_, by rw [upd_ne nPc, upd_same], by rw [eL]; exact PySem.TriplesOk_snoc _ _ _ _ ht, fun p' cv hcv => ?_⟩
        rw [eL] at hcv
        rcases LamX.among_app _ ht hcv with z | z
        · obtain ⟨c0, e1, e2⟩ := ha p' cv z
          exact ⟨c0, e1, gr.keep _ _ e2 LamX.codeO_ne⟩
        · exact ⟨c', z, upd_same⟩
      · obtain ⟨qs, a1, a2, a3⟩ := hT (pa, pq) hp
        refine ⟨qs, by rw [oth pa z (ne_of_none a1 nC)]; exact a1, a2, fun p' cv hcv => ?_⟩
        obtain ⟨c0, e1, e2⟩ := a3 p' cv hcv
        exact ⟨c0, e1, gr.keep _ _ e2 LamX.codeO_ne⟩
    · rw [oth b (fun z => by rw [z, hP] at n; cases n) (Nat.ne_of_lt (Nat.lt_of_lt_of_le hb hge))]
      exact n
    · rw [oth _ (Nat.ne_of_gt (Nat.lt_of_lt_of_le (Heap.lt_size hP') hsz)) (Nat.ne_of_gt hlt)]
      exact I.hok.fresh hsz
  · obtain ⟨c', e, hco⟩ := ha pos cv hc
    subst e
    have kp : ∀ b o, s.heap.get? b = some o → (h'.push (lob (X.env.qual ++ "<lambda>") params body scope (cloFrom X.env.cells scope.names []) dV ((X.mg "__name__").getD .none) c' ctv)).get? b = some o := fun b o e => Heap.get?_push_of_some _ (hx b o e)
    exact h h'.objs.size c' ((X.mg "__name__").getD .none) ctv H _ (I.kept (t' := tk) kp) (.refl H) hT (fun b o e _ => kp b o e) (fun b _ n => n) (Heap.get?_push_size _ rfl) (I.hok.fresh hsz) (nofr _ hsz) hco
theorem lam_make (I : Inv X pins σ H s) (TB : LamX.TabB X.base X.mg c P) (hcode : X.env.code = .ref c) (hm : (P, X.env.qual ++ "<lambda>") ∈ T) (hu : ∀ p ∈ T, p.1 = P → p.2 = X.env.qual ++ "<lambda>") (hT : LamX.Tabs T H) (po : ParOk one params) (hfree : ∀ y ∈ scope.names, y.2 = .free → ∃ c, X.env.cells.lookup y.1 = some c)
    (h : ∀ (f c' : Addr) (dV pm ctv : Value) (H1 : Hp) (s' : Shared), Inv X pins σ H1 s' → Grow H H1 → LamX.Tabs T H1 → DOk one dV H1 (frs X.stack) s'.heap → s'.heap.get? f = some (lob (X.env.qual ++ "<lambda>") params body scope (cloFrom X.env.cells scope.names []) dV pm c' ctv) → H1 f = none → f ∉ frs X.stack → H1 c' = some (LamX.CodeO c' (X.env.qual ++ "<lambda>")) → Q (.ref f) s') :
    wpAny (model X.prog X.w) X.A (eval (.Lambda params body scope pos) X.env) Q E s := by
  cases po with
  | zero =>
    refine PySem.W.kla_eval rfl ?_
    rw [makeFunction_eq]
    simp only [List.zip_nil_right, List.filterMap_nil, List.isEmpty_nil, if_true, pure_bind]
    exact lam_make1 I TB hcode hm hu hT hfree fun f c' pm ctv H1 s' I1 g t _ _ hf n1 n2 hc => h f c' .none pm ctv H1 s' I1 g t rfl hf n1 n2 hc
  | one x p1 p2 i j =>
    rw [arm_eval_Lambda]
    show wpAny _ _ (evalAll [eval (.Constant (.int i) j p2) X.env] >>= fun dv => holding dv (evalAllOpt []) >>= fun kdv => makeFunction "<lambda>" (X.env.qual ++ "<lambda>") _ (.expr body) scope X.env dv kdv [] pos pos.line) _ _ _
    refine wpAny_bind (wpAny_bind (wpAny_Constant_int (wpAny_bind (wpAny_holding (wpAny_pure (wpAny_pure (wpAny_bind (wpAny_holding (wpAny_pure ?_)))))))))
    rw [makeFunction_eq]
    simp only [List.zip_nil_right, List.filterMap_nil, List.isEmpty_nil, List.isEmpty_cons, Bool.false_eq_true, if_false, if_true, pure_bind]
    refine wpAny_bind (wpAny_newTextTuple ?_)
    have I0 := I.kept (t' := s.toks + 1) (h' := s.heap.push { cls := .type "tuple", data := .seq #[Value.int i s.toks] }) fun b o e => Heap.get?_push_of_some _ e
    have hD : (s.heap.push { cls := .type "tuple", data := .seq #[Value.int i s.toks] }).get? s.heap.objs.size = some { cls := .type "tuple", data := .seq #[Value.int i s.toks] } := Heap.get?_push_size _ rfl
    have nD : H s.heap.objs.size = none := I.hok.fresh (Nat.le_refl _)
    have fD : s.heap.objs.size ∉ frs X.stack := fun z => by
      rcases List.mem_cons.mp (I.stkSub _ z) with e | e
      · have h1 := I.lt
        rw [← e] at h1
        exact Nat.lt_irrefl _ h1
      · exact I.nofs (Nat.le_refl _) e
    refine lam_make1 (dV := .ref s.heap.objs.size) I0 TB hcode hm hu hT hfree fun f c' pm ctv H1 s' I1 g t kp kn hf n1 n2 hc => h f c' _ pm ctv H1 s' I1 g t ⟨_, _, rfl, kp _ _ hD (fun z => ?_), kn _ (Heap.lt_size hD) nD, fD⟩ hf n1 n2 hc
    obtain ⟨ps, hP, _⟩ := hT _ hm
    rw [← z, nD] at hP
    cases hP
end
structure LmS (N : List Str) (sc scope : Scope) (one : Option Str) : Prop where
  kind : scope.kind = .function
  co : scope.isCoroutine = false
  gen : scope.isGenerator = false
  own : ∀ y ∈ scope.names, y.2 ≠ .cell ∧ (y.2 = .local → y.1 ∉ N)
  free : ∀ y ∈ scope.names, y.2 = .free → sc.names.lookup y.1 = some .cell ∨ sc.names.lookup y.1 = some .free
  par : ∀ x, one = some x → scope.names.lookup x = some .local
def lmB (N : List Str) (sc scope : Scope) (one : Option Str) : Bool := decide (scope.kind = .function) && (!scope.isCoroutine && (!scope.isGenerator && ((scope.names.all fun y => !decide (y.2 = .cell) && ((!decide (y.2 = .local) || !N.contains y.1) && (!decide (y.2 = .free) || (decide (sc.names.lookup y.1 = some .cell) || decide (sc.names.lookup y.1 = some .free))))) &&
  (match one with
  | none => true
  | some x => decide (scope.names.lookup x = some .local)))))
theorem lmS_by {N : List Str} {sc scope : Scope} {one : Option Str} (h : lmB N sc scope one = true) : LmS N sc scope one := by
  unfold lmB at h
  simp only [Bool.and_eq_true, Bool.or_eq_true, Bool.not_eq_true', decide_eq_true_eq, decide_eq_false_iff_not, List.all_eq_true] at h
  obtain ⟨h1, h2, h3, h4, h5⟩ := h
  refine ⟨h1, h2, h3, fun y hy => ⟨(h4 y hy).1, fun e z => ?_⟩, fun y hy e => ?_, fun x hx => ?_⟩
  · rcases (h4 y hy).2.1 with q | q
    · exact q e
    · rw [List.contains_iff_mem.mpr z] at q
      cases q
  · rcases (h4 y hy).2.2 with q | q
    · exact absurd e q
    · exact q
  · subst hx
    exact of_decide_eq_true h5
section
variable {X : Cx} {pins : List (Addr × Obj)} {σ : L2.St} {H HZ : Hp} {s s1 : Shared} {scope : Scope} {one : Option Str}
theorem LmS.has (L : LmS X.N X.env.scope scope one) (ok : X.Ok) : ∀ y ∈ scope.names, y.2 = .free → ∃ c, X.env.cells.lookup y.1 = some c := fun y hy e => by
  rcases L.free y hy e with k | k
  · exact ok.has _ (.inl k)
  · exact ok.has _ (.inr k)
theorem lm_start {A : Around} {outer : List PySem.Env} {E : XK} {f c' : Addr} {h1 : Heap} {tk : Nat} {bs : List (Str × Value)} (I : Inv X pins σ H s) (L : LmS X.N X.env.scope scope one) (e0 : Env0 X.prog X.w X.K X.mg X.base A outer s1 HZ) (hd : A.handled = none)
    (un : Un (frs X.stack) [] H HZ s.heap s1.heap) (hns : h1.Ns s1.heap.objs.size fun y => bs.reverse.lookup y) (kp : ∀ b o, s1.heap.get? b = some o → h1.get? b = some o) :
    Inv (LamX.lamCx X A outer s1 HZ E scope f c') [] σ HZ { s1 with heap := h1, toks := tk } := by
  have hfree := L.has I.ok
  have back : ∀ {y c}, (cloFrom X.env.cells scope.names []).lookup y = some c → X.env.cells.lookup y = some c := fun {y c} e => by
    rcases cloFrom_mem (PySem.mem_of_lookup e) with hm | ⟨g1, g2⟩
    · cases hm
    · obtain ⟨d, hd⟩ := hfree _ g1 rfl
      have hd : X.env.cells.lookup y = some d := hd
      rw [g2, hd]
      rfl
  have forth : ∀ {y}, scope.names.lookup y = some .free → ∃ c, (cloFrom X.env.cells scope.names []).lookup y = some c := fun {y} hl =>
    mem_lookup (cloFrom_has (cells := X.env.cells) (acc := []) (PySem.mem_of_lookup hl))
  have cellK : ∀ {c : Addr} {v : Option Value}, H c = none → s.heap.IsCell c v → h1.IsCell c v := fun {c v} n z => by
    obtain ⟨o, ho, hdt⟩ := z
    obtain ⟨sl, q⟩ := un.any ho n (by simp)
    exact ⟨_, kp _ _ q, hdt⟩
  have noA : ∀ b : Addr, b ∉ (LamX.lamCx X A outer s1 HZ E scope f c').ex := fun b z => by
    have z : b ∈ ([] : List Addr) := z
    cases z
  refine ⟨⟨e0.mod, L.kind, rfl, rfl, Nat.le_refl _, fun y z c e1 e2 => I.ok.inj y z c (back e1) (back e2), fun y hy => ?_, fun y c z _ => ?_, fun _ => hd, Around.frames_deeper e0.frames, .inr ⟨rfl, rfl⟩, fun b z => absurd z (noA b), e0.bs, e0.bsz, fun b _ _ => noA b, fun b z => absurd z (noA b), e0.funs, e0.frf⟩,
    rfl, e0.bare, Un.kept kp, ⟨_, hns, fun i y v e1 e2 e3 => ?_⟩, fun y c e => ?_, e0.hok.fresh (Nat.le_refl _), fun y c e => ?_, fun q hq => absurd (show q ∈ ([] : List (Addr × Obj)) ++ [] from hq) (by simp), e0.hok.kept kp, I.len⟩
  · have hy : scope.names.lookup y = some .cell ∨ scope.names.lookup y = some .free := hy
    rcases hy with hy | hy
    · exact absurd rfl (L.own _ (PySem.mem_of_lookup hy)).1
    · exact forth hy
  · have z : false = true := z
    cases z
  · have e1 : X.N[i]? = some y := e1
    have e3 : Vis scope y := e3
    rcases e3 with k | k | k
    · exact absurd (List.mem_of_getElem? e1) ((L.own _ (PySem.mem_of_lookup k)).2 rfl)
    · exact absurd rfl (L.own _ (PySem.mem_of_lookup k)).1
    · obtain ⟨m, hn, hl⟩ := I.loc
      have fr := L.free _ (PySem.mem_of_lookup k) rfl
      obtain ⟨w', r, q⟩ := hl i y v e1 e2 (fr.elim (fun k => .inr (.inl k)) fun k => .inr (.inr k))
      obtain ⟨c2, h2⟩ := forth k
      refine ⟨w', r, .inr ⟨.inr k, c2, h2, ?_⟩⟩
      rcases q with ⟨k', _⟩ | ⟨_, c3, e', z⟩
      · have k' : X.env.scope.names.lookup y = some .local := k'
        rcases fr with k2 | k2 <;> rw [show X.env.scope.names.lookup y = _ from k2] at k' <;> cases k'
      · rw [back h2] at e'
        cases e'
        exact cellK (I.freeC y _ (back h2)) z
  · obtain ⟨w', z⟩ := I.cell y c (back e)
    exact ⟨w', cellK (I.freeC y c (back e)) z⟩
  · obtain ⟨v, o, ho, hdt⟩ := I.cell y c (back e)
    exact un.free c o ho (I.freeC y c (back e)) (by simp)
theorem DOk.later {dV : Value} (d : DOk one dV H (frs X.stack) s.heap) (un : Un (frs X.stack) [] H HZ s.heap s1.heap) : DOk one dV H (frs X.stack) s1.heap := by
  cases one with
  | none => exact d
  | some x =>
    obtain ⟨D, u, e, hD, n, nf⟩ := d
    exact ⟨D, u, e, un.keep D _ hD n nf (by simp), n, nf⟩
/-- the lambda is called, in the def that got it -/
theorem lm_act {CXg : CXT} {Eg : XK} {Ng : List Str} {qg : Str} {sg : Scope} {g f c' : Addr} {cdg dV pm ctv : Value} {params : Arguments} {body : Expr} {k i : Nat} {a : Str} {pn : List (Addr × Obj)} {xe : Value → Shared → Prop} {W : WX} {E : XK} {tb : TE} {p1 p2 : Pos}
    (I : Inv X pins σ H s) (L : LmS X.N X.env.scope scope one) (po : ParOk one params) (hD : DOk one dV H (frs X.stack) s.heap) (hf : s.heap.get? f = some (lob (X.env.qual ++ "<lambda>") params body scope (cloFrom X.env.cells scope.names []) dV pm c' ctv)) (hfn : H f = none) (hfr : f ∉ frs X.stack)
    (tk : Takes ((cxOf CXg X.prog X.w X.K X.mg X.base Ng qg sg g cdg X.A X.stack s H Eg).tr pn xe) W) (hgd : X.A.guards = some []) (hr : Room (k + 1) (X.A.deeper (envOfC qg sg s.heap.objs.size g cdg)))
    (hbody : ∀ (A : Around) (outer : List PySem.Env) (s : Shared) (H : Hp), A.guards = some [] → Room k (A.deeper (LamX.lamEnv X scope s.heap.objs.size f c')) → PE (LamX.lamCx X A outer s H E scope f c') body tb)
    (hN : Ng[i]? = some a) (hv : Vis sg a) (hd : (a == ("__debug__" : Str)) = false) (hcd : (a == ("__classdict__" : Str)) = false) :
    PE ((cxOf CXg X.prog X.w X.K X.mg X.base Ng qg sg g cdg X.A X.stack s H Eg).tr pn xe) (.Call (.Name a p1) [] [] p2) (fun σZ HZ Q => (∀ cls d H', E cls d H' → W cls d σZ H') ∧ σZ[i]? = some (some (.ref f)) ∧ HZ c' = some (LamX.CodeO c' (X.env.qual ++ "<lambda>")) ∧ tb σ HZ Q) := by
  constructor
  intro pinsZ sZ σZ HZ Q IZ h
  obtain ⟨hW, hs, hc, ht⟩ := h
  refine wpAny_Call_Name_kw (thn ((pe_var (pos := p1) (i := i) hN hv hd hcd).run pinsZ sZ σZ HZ (fun v H1 => v = .ref f ∧ H1 = HZ) IZ ⟨.ref f, hs, rfl, rfl⟩) fun u s1 z => ?_)
  obtain ⟨v, H1, I1, r1, ev, eH⟩ := z
  subst ev
  rw [eH] at I1
  obtain rfl : u = Value.ref f := r1
  have un : Un (frs X.stack) [] H HZ s.heap s1.heap := I1.base
  have of1 := un.keep f _ hf hfn hfr (by simp)
  have d1 : DOk one dV H (frs X.stack) s1.heap := hD.later un
  refine PySem.W.callWith_F0 ⟨_, _, _, _, of1⟩ ?_
  obtain ⟨⟨oc, vs, t, hoc, hdc, hvc⟩, _, _⟩ := I1.hok c' _ hc
  have rc : codeAny (model X.prog X.w) (X.A.deeper (envOfC qg sg s.heap.objs.size g cdg)) (.call (.ref f) ⟨[], []⟩) (CR (L2.CX X.prog X.w) (envOfC qg sg s.heap.objs.size g cdg :: X.stack) X.prog X.w HZ s1 Q E) s1 := by
    refine PySem.W.kla_callFunE hr.depth of1 rfl L.co L.gen rfl ⟨c', oc, vs, t, rfl, hoc, hdc, hvc⟩ (lam_bind po d1 fun bs hbs => ?_)
    refine wpAny_newFunctionEnv (fun y hy => (L.own y hy).1) (fun y hy => L.par y.1 (hbs y hy)) (fun h1 hns hsb => ⟨I1.nolimit.fresh _ hsb, ?_⟩) L.kind
    show codeAny _ _ (.expr body (LamX.lamEnv X scope s1.heap.objs.size f c')) _ _
    have kp : ∀ b o, s1.heap.get? b = some o → h1.get? b = some o := fun b o e => hsb.extBut b o (Nat.ne_of_lt (Heap.lt_size e)) (Heap.get?_push_of_some _ e)
    have J := lm_start (tk := s1.toks + bs.length) (f := f) (c' := c') (E := E) I L I1.env0 hr.hd un hns kp
    refine PySem.W.kla_codeExpr (wpAny_mono ((hbody (X.A.deeper (envOfC qg sg s.heap.objs.size g cdg)) _ s1 HZ hgd (hr.deeper _)).run [] _ _ HZ Q J ht) (fun v s' hq => ?_) fun e s' hq => hq)
    obtain ⟨w', H', J', rv, q⟩ := hq
    exact ⟨w', H', J'.os, J'.bare, J'.base, J'.hok, rv, q⟩
  refine wpAny_call (codeAny_mono rc fun r s' hq => ?_)
  match r, hq with
  | .error e, hq => exact tk _ _ (XE.of_call I1 hW hq)
  | .ok (.ret u), hq => exact I1.after hq
  | .ok .next, hq => exact False.elim hq
  | .ok .brk, hq => exact False.elim hq
  | .ok .cont, hq => exact False.elim hq
end
end PF
namespace PF
open PySem PySem.Spec PyProof.Rows L2
def hdlR : List Hd → Nat → List W → T W
  | [], _, _ => .bad
  | x :: r, n, fs => if x.m n then x.h n fs else hdlR r n fs
def caught (wr : W → T W) (ns : List Nat) (hs : List Hd) (t : T W) : T W := t.catch wr fun n fs => if ns.contains n then hdlR hs n fs else .bad
def fHear (wr : W → T W) (ns : List Nat) (hs : List Hd) (fb : En → T W) : En → T W := fun ρ => caught wr ns hs (fb ρ)
/-- [w] -/
def wrL (w : W) : T W := mkLst [w]
section
variable {X : Cx} {ns : List Nat} {c : Cc} {d : Nat} {H : Hp} {D : Ends} {n : Nat} {fs : List W} {cls : Value} {dx : Option Addr} {σ : L2.St} {Wo : WX} {E' : Nat → Nat → List W → Prop}
theorem wCl_ret (wd : Wd c d H) (rx : RepX X.K c H n fs cls dx) (hn : n ∈ ns) : ∀ {hds : List ExceptHandler} {hs : List Hd} {l : List Cla}, TrC X .ret ns hds hs l → (∀ x ∈ hs, ∀ i, x.io = some i → i < σ.length) → (hdlR hs n fs).AllB (PQ X.K c H D.rt) E' d → wCl X.K Wo D l cls dx σ H
  | _, _, _, .nil, _, q => q.elim
  | _, _, _, .cons (m := m) (io := io) (h := h) hc hi hio hm hms hsu r, hlt, q => by
    refine ⟨m n, by rw [rx.1]; exact hm n hn, fun hb a na => ?_, fun hb => ?_⟩
    · have q1 : (h n fs).AllB (PQ X.K c H D.rt) E' d := by
        have q2 : (if m n then h n fs else _ : T W).AllB (PQ X.K c H D.rt) E' d := q
        rw [if_pos hb] at q2
        exact q2
      clear q
      refine ⟨c, d, n, fs, hms n hn hb, wd, fun i hio' => ?_, rx, E', ?_⟩
      · subst hio'
        show (σ.set i (some (.ref a)))[i]? = _
        rw [List.getElem?_set_self (hlt _ (List.mem_cons_self ..) i rfl)]
      · cases io with
        | none => exact q1
        | some i => exact q1
    · have q : (if m n then h n fs else hdlR _ n fs : T W).AllB (PQ X.K c H D.rt) E' d := q
      rw [if_neg (by rw [hb]; decide)] at q
      exact wCl_ret wd rx hn r (fun x hx => hlt x (List.mem_cons_of_mem _ hx)) q
end
/-- the context of the def that hears -/
abbrev heCx (P : Program) (w : World) (K : PySem.W.Frag) (mg : Str → Option Value) (base : Heap) (Ng : List Str) (x : Str) (sg : Scope) (g : Addr) (cdg : Value) (A : Around) (stack : List PySem.Env) (s : Shared) (H : Hp) : Cx := cxOf C8.CX0 P w K mg base Ng x sg g cdg A stack s H C8.E0
/-- the def at g: its body bg calls what it got, by the name a -/
def Hears (P : Program) (w : World) (K : PySem.W.Frag) (mg : Str → Option Value) (base : Heap) (Ng : List Str) (x : Str) (sg : Scope) (g : Addr) (cdg : Value) (bg : List Stmt) (a : Str) (wr : W → T W) (ns : List Nat) (hs : List Hd) : Prop :=
  ∀ (q : Str) (A : Around) (stack : List PySem.Env) (f c' : Addr) (s : Shared) (H : Hp) (Q : VK) (c : Cc) (d : Nat) (t : T W) (tl : XK → Hp → VK → Prop) (E' : Nat → Nat → List W → Prop),
    (∀ (Ech : XK) (Q' : VK), t.AllB (PQ K c H Q') (PX K c H Ech) d → tl Ech H Q') →
    (∀ (W : WX) (pn : List (Addr × Obj)) (xe : Value → Shared → Prop) (E : XK) (p1 p2 : Pos), Takes ((heCx P w K mg base Ng x sg g cdg A stack s H).tr pn xe) W →
      PE ((heCx P w K mg base Ng x sg g cdg A stack s H).tr pn xe) (.Call (.Name a p1) [] [] p2) (fun σZ HZ Q => (∀ cls d H', E cls d H' → W cls d σZ H') ∧ σZ[0]? = some (some (.ref f)) ∧ HZ c' = some (LamX.CodeO c' q) ∧ tl E HZ Q)) →
    H c' = some (LamX.CodeO c' q) → Wd c d H → (caught wr ns hs t).AllB (PQ K c H Q) E' d →
    ∃ rd, PSs (heCx P w K mg base Ng x sg g cdg A stack s H).nox bg rd ∧ rd { nx := fun _ H' => Q .non H', rt := Q } (L2.start Ng [.ref f]) H
section
variable {P : Program} {w : World} {K : PySem.W.Frag} {mg : Str → Option Value} {base : Heap} {Ng : List Str} {x a : Str} {sg : Scope} {g : Addr} {cdg : Value} {ns : List Nat} {hs : List Hd} {h0 : ExceptHandler} {hds : List ExceptHandler}
/-- try: return [a()] / except ..: return .. -/
theorem hears_L {p1 p2 p3 p4 p5 : Pos} (hN : Ng.Nodup) (h0' : ∀ f : Addr, (L2.start Ng [V.ref f])[0]? = some (some (V.ref f))) (hl : ∀ x ∈ hs, ∀ i, x.io = some i → i < Ng.length) (hlen : ∀ f : Addr, (L2.start Ng [V.ref f]).length = Ng.length)
    (hst : ∀ env : PySem.Env, starEach [Expr.Call (.Name a p1) [] [] p2] env = [(false, eval (.Call (.Name a p1) [] [] p2) env)])
    (hC : ∀ (A : Around) (stack : List PySem.Env) (s : Shared) (H : Hp), ∃ l, TrC (heCx P w K mg base Ng x sg g cdg A stack s H).nox .ret ns (h0 :: hds) hs l) :
    Hears P w K mg base Ng x sg g cdg [.Try [.Return (some (.List [.Call (.Name a p1) [] [] p2] p3)) p4] (h0 :: hds) [] [] p5] a wrL ns hs := by
  intro q A stack f c' s H Q c d t tl E' htl act hco wd ht
  obtain ⟨l, hC⟩ := hC A stack s H
  refine ⟨_, pss_one (ps_tryM (X := (heCx P w K mg base Ng x sg g cdg A stack s H).nox) (Wo := fun _ _ _ _ => False) rfl rfl hN LamX.takes0
    (tb := fun W => tRet (tLst (tCons (fun σZ HZ Q' => ∃ Ech : XK, (∀ cls d H', Ech cls d H' → W cls d σZ H') ∧ σZ[0]? = some (some (.ref f)) ∧ HZ c' = some (LamX.CodeO c' q) ∧ tl Ech HZ Q') tNil)))
    (fun W pn xe tk _ => pss_one (ps_ret (pe_lst (pa_cons ⟨fun pins s' σZ HZ Q' I h => ?_⟩ pa_nil (hst _))))) hC.ok), ?_⟩
  · obtain ⟨Ech, h1, h2, h3, h4⟩ := h
    exact (act W pn xe Ech p1 p2 tk).run pins s' σZ HZ Q' I ⟨h1, h2, h3, h4⟩
  · refine ⟨fun cls dx H' => wCl K (fun _ _ _ _ => False) { nx := fun _ H' => Q .non H', rt := Q } l cls dx (L2.start Ng [.ref f]) H', fun _ _ _ z => z, h0' f, hco, htl _ _ (T.AllB.imp (fun d1 w1 y => ?_) (fun d1 n fs y => ?_) (T.allB_catch.mp ht))⟩
    · intro v H1 st so rv
      obtain ⟨hz, y⟩ := T.AllB.ite y
      exact ⟨by rw [sizeLine_eq]; show 1 ≤ 16777216; decide, fun p n => PQ.lst (wd.step st so) (y.later st) (.cons rv .nil) n⟩
    · intro cls dx H1 st so rx
      obtain ⟨hn, y⟩ := T.AllB.ite y
      exact wCl_ret (X := (heCx P w K mg base Ng x sg g cdg A stack s H).nox) (wd.step st so) rx (List.contains_iff_mem.mp hn) hC (fun x hx i hi => by rw [hlen]; exact hl x hx i hi) (T.AllB.imp (fun _ _ z => z.later st) (fun _ _ _ z => z) y)
end
/-- the module's name x: a def that hears -/
def HearIs (P : Program) (w : World) (K : PySem.W.Frag) (mg : Str → Option Value) (base : Heap) (x a : Str) (wr : W → T W) (ns : List Nat) (hs : List Hd) : Prop :=
  ∃ (g : Addr) (fd : FuncData) (params : Arguments) (bg : List Stmt) (sg : Scope) (Ng : List Str), FunD K x x params bg sg [] [] g fd ∧ mg x = some (.ref g) ∧ Binds K fd [a] [] ∧ FnScope Ng [a] sg ∧ Ng[0]? = some a ∧ Vis sg a ∧ (a == ("__debug__" : Str)) = false ∧ (a == ("__classdict__" : Str)) = false ∧
    ∀ cdg : Value, Hears P w K mg base Ng x sg g cdg bg a wr ns hs
/-- what is known of the code of a def that makes lambdas -/
def MkT (K : PySem.W.Frag) (mg : Str → Option Value) (base : Heap) (code : Value) (q : Str) : Prop := ∃ c P, code = .ref c ∧ LamX.TabB base mg c P ∧ (P, q) ∈ tabL K ∧ ∀ p ∈ tabL K, p.1 = P → p.2 = q
theorem tr_hear {X : Cx} {E : WX} {x a : Str} {wr : W → T W} {ns : List Nat} {hs : List Hd} {params : Arguments} {body : Expr} {scope : Scope} {one : Option Str} {fb : En → T W} {k : Nat} {p lpos pos : Pos}
    (hh : HearIs X.prog X.w X.K X.mg X.base x a wr ns hs) (mk : MkT X.K X.mg X.base X.env.code (X.env.qual ++ "<lambda>")) (hgd : X.A.guards = some []) (hr : Room (k + 2) X.A) (hg : Gl X x) (L : LmS X.N X.env.scope scope one) (po : ParOk one params)
    (hbody : ∀ (A : Around) (outer : List PySem.Env) (s : Shared) (H : Hp) (E : XK) (f c' : Addr), A.guards = some [] → Room k (A.deeper (LamX.lamEnv X scope s.heap.objs.size f c')) → TrE (LamX.lamCx X A outer s H E scope f c') (wOf E) body fb)
    (hdb : (x == ("__debug__" : Str)) = false := by decide) (hst : starEach [Expr.Lambda params body scope lpos] X.env = [(false, eval (.Lambda params body scope lpos) X.env)] := by rfl) :
    TrE X E (.Call (.Name x p) [.Lambda params body scope lpos] [] pos) (fHear wr ns hs fb) := by
  obtain ⟨g, fd, pg, bg, sg, Ng, F, hm, hb, Sg, hNg, hva, hd1, hd2, hears⟩ := hh
  obtain ⟨cc, PP, hcode, TB, hmT, hu⟩ := mk
  have hk := F.kp
  obtain ⟨oc, od, dV, kV, dc, pm, an, cdv, ct, osl, rfl, lk, hcg, _, _⟩ := F.ex
  constructor
  intro pins s σ H Q I h
  obtain ⟨c, d, oa, ρ, e, h⟩ := h
  have hT : LamX.Tabs (tabL X.K) H := by rw [← e.tT]; exact e.st.tab
  refine wpAny_Call_Name_kw (ld_glob I hg hm (PySem.W.callWith_K (h₀ := X.base) I.ok.mod.kin hk ?_ hst (by rfl)) hdb)
  show wpAny _ _ (spliced ((false, eval (.Lambda params body scope lpos) X.env) :: backTo pos (starEach [] X.env))) _ _ s
  refine Calls.spliced_cons (lam_make I TB hcode hmT hu hT po (L.has I.ok) fun f c' dV' pm' ctv H1 s' I1 gr T1 hD hf hfn hfr hco => ?_)
  refine Calls.spliced_nil ⟨I1.kIn, ?_⟩
  have st1 : Step c H H1 := gr.step
  have so1 : StOk c d H1 := by
    obtain ⟨cells, lefts, kk, r, h1, h2, h3, h4, h5, h6, h7, h8, h9⟩ := e.st
    exact ⟨cells, lefts, kk, r, gr.keep _ _ h1 nofun, gr.keep _ _ h2 nofun, gr.keep _ _ h3 nofun, h4, h5, h6, h7, h8, by rw [e.tT]; exact T1⟩
  have e1 := e.step st1 so1
  have h1 : (caught wr ns hs (fb ρ)).AllB (PQ X.K c H1 Q) (PX X.K c H1 fun cls dx H' => E cls dx σ H') d := T.AllB.imp (fun _ _ y => y.later st1) (fun _ _ _ y => y.later st1) h
  have rc : codeAny (model X.prog X.w) X.A (.call (.ref g) ⟨[.ref f], []⟩) (CR C8.CX0 X.stack X.prog X.w H1 s' Q C8.E0) s' := by
    refine LamX.run_ofS (N := Ng) (ps := [a]) (us := [.ref f]) (vs := [.ref f]) lk hcg Sg hr I1.env0 (hb s' [.ref f] I1.kIn rfl) (.cons rfl .nil) rfl fun hr' => ?_
    obtain ⟨rd, hrd, hq⟩ := hears cdv (X.env.qual ++ "<lambda>") X.A X.stack f c' s' H1 Q c d (fb ρ) (fun E' H' Q' => liftE X.K (wOf E') fb σ H' Q') _ (fun Ech Q' z => ⟨c, d, oa, ρ, e1, z⟩)
      (fun W pn xe E' p1 p2 tk => lm_act (i := 0) (k := k) I1 L po hD hf hfn hfr tk hgd hr' (fun A outer s2 H2 hg2 hr2 => hbody A outer s2 H2 E' f c' hg2 hr2) hNg hva hd1 hd2) hco e1.wd h1
    exact ⟨rd, hrd.nox, hq⟩
  refine wpAny_call (codeAny_mono rc fun r s2 hq => ?_)
  match r, hq with
  | .error er, hq => exact (show False from hq).elim
  | .ok (.ret u), hq => exact I1.after hq
  | .ok .next, hq => exact False.elim hq
  | .ok .brk, hq => exact False.elim hq
  | .ok .cont, hq => exact False.elim hq
end PF
namespace PF
open PySem PySem.Spec PyProof.Rows L2 He
/-- code objects, their tables, the names of their lambdas -/
def tabC (K : PySem.W.Frag) : List (Addr × Addr × Str) := K.filterMap fun x => match x.2.data with
  | .func fd => (match fd.code with
    | .ref c => some (c, He.tabOf K c, fd.qualname ++ ".<locals>." ++ "<lambda>")
    | _ => none)
  | _ => none
theorem tabC_map (K : PySem.W.Frag) : tabL K = (tabC K).map fun x => x.2 := by
  unfold tabL tabC
  rw [List.map_filterMap]
  congr 1
  funext x
  cases x.2.data with
  | func fd =>
    simp only
    cases fd.code <;> rfl
  | _ => rfl
def apartB : List (Addr × Str) → Bool
  | [] => true
  | p :: r => r.all (fun q => p.1 != q.1 || decide (p.2 = q.2)) && apartB r
theorem apartB_ok : ∀ {l : List (Addr × Str)}, apartB l = true → ∀ p ∈ l, ∀ q ∈ l, q.1 = p.1 → q.2 = p.2
  | [], _, p, hp, _, _, _ => by cases hp
  | x :: r, h, p, hp, q, hq, e => by
    unfold apartB at h
    obtain ⟨h1, h2⟩ := Bool.and_eq_true_iff.mp h
    have key : ∀ y ∈ r, x.1 = y.1 → x.2 = y.2 := fun y hy z => by
      have := List.all_eq_true.mp h1 y hy
      rcases Bool.or_eq_true_iff.mp this with g | g
      · simp [z] at g
      · exact of_decide_eq_true g
    rcases List.mem_cons.mp hp with hp1 | hp1
    · rcases List.mem_cons.mp hq with hq1 | hq1
      · rw [hp1, hq1]
      · subst hp1
        exact (key q hq1 e.symm).symm
    · rcases List.mem_cons.mp hq with hq1 | hq1
      · subst hq1
        exact key p hp1 e
      · exact apartB_ok h2 p hp1 q hq1 e
def tabOkB (g : Addr → Option Obj) (K : PySem.W.Frag) : Bool := ((tabC K).all fun x => PySem.W.codeHdIn K x.1 x.2.1 && (match g x.2.1 with
  | some o => emptyTab o
  | none => false)) && apartB (tabL K)
structure SaysL (fa : List Fa) (fn : List DefD) (ex : PySem.W.Frag → Bool) (h : Heap) (K : PySem.W.Frag) : Prop where
  d : SaysD fa fn K
  more : ex K = true
  hd : ∀ x ∈ tabC K, PySem.W.codeHdIn K x.1 x.2.1 = true
  out : ∀ x ∈ tabC K, K.lookup x.2.1 = none
  empty : ∀ x ∈ tabC K, h.get? x.2.1 = some { cls := .none, data := .fields #[] }
  apart : ∀ p ∈ tabL K, ∀ q ∈ tabL K, q.1 = p.1 → q.2 = p.2
def asL (g : Addr → Option Obj) (n : Nat) : List Addr := cStatics :: asD g n
abbrev AlL : Type := AlD × Bool
def obsL (n : Nat) (fa : List Fa) (fn : List DefD) (ex : PySem.W.Frag → Bool) (g : Addr → Option Obj) : AlL := (obsD fa fn (frT g (asL g n)), ex (frT g (asL g n)) && tabOkB g (frT g (asL g n)))
theorem saysL_of {n : Nat} {fa : List Fa} {fn : List DefD} {ex : PySem.W.Frag → Bool} {h : Heap} (e : obsL n fa fn ex h.get? = (valD fn, true)) : SaysL fa fn ex h (frT h.get? (asL h.get? n)) := by
  have e1 : obsD fa fn (frT h.get? (asL h.get? n)) = valD fn := congrArg (fun z : AlL => z.1) e
  have e2 : (ex (frT h.get? (asL h.get? n)) && tabOkB h.get? (frT h.get? (asL h.get? n))) = true := congrArg (fun z : AlL => z.2) e
  obtain ⟨h1, h2⟩ := Bool.and_eq_true_iff.mp e2
  unfold tabOkB at h2
  obtain ⟨h3, h4⟩ := Bool.and_eq_true_iff.mp h2
  have key : ∀ x ∈ tabC (frT h.get? (asL h.get? n)), PySem.W.codeHdIn (frT h.get? (asL h.get? n)) x.1 x.2.1 = true ∧ ∃ o, h.get? x.2.1 = some o ∧ emptyTab o = true := fun x hx => by
    obtain ⟨g1, g2⟩ := Bool.and_eq_true_iff.mp (List.all_eq_true.mp h3 x hx)
    refine ⟨g1, ?_⟩
    cases q : h.get? x.2.1 with
    | none =>
      rw [q] at g2
      cases g2
    | some o =>
      rw [q] at g2
      exact ⟨o, rfl, g2⟩
  refine ⟨e1, h1, fun x hx => (key x hx).1, fun x hx => ?_, fun x hx => ?_, apartB_ok h4⟩
  · obtain ⟨_, o, q, z⟩ := key x hx
    exact frT_none q z
  · obtain ⟨_, o, q, z⟩ := key x hx
    rw [q, emptyTab_eq z]
def hookL (n : Nat) (fa : List Fa) (fn : List DefD) (ex : PySem.W.Frag → Bool) : PySem.W.Hook where
  α := AlL
  obs := fun s => obsL n fa fn ex s.heap.get?
  val := fun _ => (valD fn, true)
  says := fun _ h => ∃ K : PySem.W.Frag, K.In h ∧ SaysL fa fn ex h K
  of := fun _ _ e => ⟨_, frT_in, saysL_of e⟩
  keeps := fun _ _ _ ⟨K, hK, c⟩ k => ⟨K, PySem.W.Frag.In.keeps hK k, ⟨c.d, c.more, c.hd, c.out, fun x hx => k _ _ (c.empty x hx), c.apart⟩⟩
theorem obsL_eq {n : Nat} {fa : List Fa} {fn : List DefD} {ex : PySem.W.Frag → Bool} {g : Addr → Option Obj} {s : Shared} (h : ∀ a, g a = s.heap.get? a) : obsL n fa fn ex g = (hookL n fa fn ex).obs s := by
  have e : g = s.heap.get? := funext h
  rw [e]
  rfl
theorem SaysL.fact {fa : List Fa} {fn : List DefD} {ex : PySem.W.Frag → Bool} {h : Heap} {K : PySem.W.Frag} (c : SaysL fa fn ex h K) (i : Nat) {f : Fa} (e : fa[i]? = some f := by rfl) : f.ok K = true := c.d.fact i e
/-- a def that makes lambdas -/
theorem mk_of {K : PySem.W.Frag} {mg : Str → Option Value} {base : Heap} {x q : Str} {params : Arguments} {body : List Stmt} {sc : Scope} {dvs : List V} {kws : List (Str × V)} {f : Addr} {fd : FuncData} (F : FunD K x q params body sc dvs kws f fd)
    (tb : ∀ z ∈ tabC K, LamX.TabB base mg z.1 z.2.1) (ap : ∀ p ∈ tabL K, ∀ q ∈ tabL K, q.1 = p.1 → q.2 = p.2) : MkT K mg base fd.code (q ++ ".<locals>." ++ "<lambda>") := by
  obtain ⟨oc, od, dV, kV, dc, pm, an, cdv, ct, osl, rfl, lk, hcd, _, _⟩ := F.ex
  obtain ⟨c, rfl⟩ := codeIn_ref hcd
  have hm : (c, He.tabOf K c, q ++ ".<locals>." ++ "<lambda>") ∈ tabC K := List.mem_filterMap.mpr ⟨_, He.lookup_mem lk, rfl⟩
  have hl : (He.tabOf K c, q ++ ".<locals>." ++ "<lambda>") ∈ tabL K := by
    rw [tabC_map]
    exact List.mem_map.mpr ⟨_, hm, rfl⟩
  exact ⟨c, He.tabOf K c, rfl, tb _ hm, hl, fun p hp e => ap _ hl p hp e⟩
theorem end_tab {P : Program} {w : World} {K : PySem.W.Frag} {mg mb : Str → Option Value} {k : Nat} {fa a : Addr} {fd : FuncData} {x : Str} {sp : Sp} {s₁ : Shared} {vs : List Value} {ns : List Int}
    (KX : K.In s₁.heap) (hns : s₁.heap.Ns mainGlobals mg) (hb : s₁.heap.Ns builtinsNs mb) (hbb : ∀ x : Str, x ≠ "__name__" → mb x = bootBuiltins x) (hlim : s₁.heap.NoLimit) (hg : s₁.gens = #[])
    (hT : ∀ z ∈ tabC K, s₁.heap.get? z.2.1 = some { cls := .none, data := .fields #[] }) (nT : ∀ z ∈ tabC K, K.lookup z.2.1 = none) (C : ∀ z ∈ tabC K, PySem.W.codeHdIn K z.1 z.2.1 = true)
    (hbm : ∃ (bm : Addr) (ob : Obj), mg "__builtins__" = some (.ref bm) ∧ bm ≠ builtinsNs ∧ s₁.heap.get? bm = some ob ∧ ob.cls = .type "module" ∧ ob.dict = some builtinsNs ∧ ob.data = .plain)
    (ha : s₁.heap.get? a = some { cls := .type "list", data := .seq vs.toArray }) (hi : IntsAre vs ns) (hl : ns.length ≤ sizeLine) (hr : Room k callerA)
    (F : ∀ base : Heap, K.In base → base.Ns mainGlobals mg → (∀ z ∈ tabC K, LamX.TabB base mg z.1 z.2.1) → FnG P w K mg base k fa fd [x] sp) (hbind : ∀ (s : Shared) (u : Value), BindsTo s fd ⟨[u], []⟩ [(x, u)])
    (hsp : ∀ H : Hp, LamX.Tabs (tabL K) H → SqL K H a (ns.map V.int) → sp [.ref a] H (fun v _ => v = .bl true) fun _ _ _ => False)
    (hCX : ∀ H e s', L2.CX P w [] H s₁ (fun _ _ _ => False) e s' → False) :
    codeAny (model P w) callerA (.call (.ref fa) ⟨[.ref a], []⟩) (fun r s' => r = .ok (.ret (.bool true)) ∧ OldK s₁.heap s'.heap ∧ s'.os = s₁.os ∧ AllBare s'.gens) s₁ := by
  let ts : List Addr := (tabC K).map fun z => z.2.1
  have isT : ∀ b ∈ ts, s₁.heap.get? b = some { cls := .none, data := .fields #[] } ∧ K.lookup b = none ∧ ∃ c, PySem.W.codeHdIn K c b = true := fun b hb => by
    obtain ⟨z, hz, rfl⟩ := List.mem_map.mp hb
    exact ⟨hT z hz, nT z hz, z.1, C z hz⟩
  have aT : a ∉ ts := fun z => by
    have q := (isT a z).1
    rw [ha] at q
    cases q
  have core : ∀ H : Hp, (∀ b ∈ ts, H b = some (.tbl #[])) → SqL K H a (ns.map V.int) → HOk P w H s₁.heap → (∀ b, H b = none ∨ b ∈ ts ∨ (b = a ∧ K.lookup a = none ∧ ∃ o xs, H b = some (.frz o (.lst xs)))) →
      codeAny (model P w) callerA (.call (.ref fa) ⟨[.ref a], []⟩) (fun r s' => r = .ok (.ret (.bool true)) ∧ OldK s₁.heap s'.heap ∧ s'.os = s₁.os ∧ AllBare s'.gens) s₁ := fun H hH hS hok hO => by
    have plain : ∀ {b : Addr} {u : Obj}, s₁.heap.get? b = some u → (∀ xs n, u.data ≠ .seq xs n) → u.data ≠ .fields #[] → H b = none := fun {b u} e n1 n2 => by
      rcases hO b with z | z | ⟨z, _⟩
      · exact z
      · rw [(isT b z).1] at e
        cases e
        exact (n2 rfl).elim
      · rw [z, ha] at e
        cases e
        exact (n1 _ _ rfl).elim
    have nsK : ∀ {b : Addr} {m : Str → Option Value}, s₁.heap.Ns b m → (hidT s₁.heap H).Ns b m := fun {b m} z => by
      obtain ⟨u, es, ep, e, dd, r⟩ := z
      exact ⟨u, es, ep, hidT_get e (plain e (fun xs n z => by rw [dd] at z; cases z) fun z => by rw [dd] at z; cases z), dd, r⟩
    have kb : K.In (hidT s₁.heap H) := fun b u e => hidT_get (KX b u e) (by
      rcases hO b with z | z | ⟨z, z2, _⟩
      · exact z
      · rw [(isT b z).2.1] at e
        cases e
      · rw [z, z2] at e
        cases e)
    have hM : Mod K mg (hidT s₁.heap H) := ⟨kb, nsK hns, ⟨mb, nsK hb, hbb⟩, by
      obtain ⟨mc, h1, h2⟩ := hlim
      exact ⟨mc, nsK h1, h2⟩⟩
    have TB : ∀ z ∈ tabC K, LamX.TabB (hidT s₁.heap H) mg z.1 z.2.1 := fun z hz => by
      refine ⟨PySem.W.codeHd_of_K kb (C z hz), ?_, fun q => ?_⟩
      · obtain ⟨bm, ob, b1, b2, b3, b4, b5, b6⟩ := hbm
        refine ⟨bm, ob, b1, b2, fun q => ?_, fun q => ?_, hidT_get b3 (plain b3 (fun xs n z => by rw [b6] at z; cases z) fun z => by rw [b6] at z; cases z), b4, b5, b6⟩
        · obtain ⟨o, es, ep, e, hd, _⟩ := hns
          rw [q, e] at b3
          cases b3
          rw [hd] at b6
          cases b6
        · rw [q, hT z hz] at b3
          cases b3
          cases b6
      · obtain ⟨o, es, ep, e, hd, _⟩ := hns
        rw [q, hT z hz] at e
        cases e
        cases hd
    have tabs : LamX.Tabs (tabL K) H := fun p hp => by
      rw [tabC_map] at hp
      obtain ⟨z, hz, rfl⟩ := List.mem_map.mp hp
      exact .nil (hH _ (List.mem_map.mpr ⟨z, hz, rfl⟩))
    have e0 : Env0 P w K mg (hidT s₁.heap H) callerA [] s₁ H := ⟨rfl, hM, fun b u e => of_hidT e, Nat.le_of_eq (hidT_size _ _), trivial, fun b hb => (by cases hb), hok, .of_eq hg⟩
    refine codeAny_mono ((F _ kb (nsK hns) TB).go callerA [] s₁ H ⟨[.ref a], []⟩ [.ref a] [.ref a] _ _ rfl hr e0 (hbind s₁ (.ref a)) (.cons rfl .nil) (hsp H tabs hS)) fun r s' h => ?_
    match r, h with
    | .error e, h => exact (hCX H e s' h).elim
    | .ok .next, h => exact False.elim h
    | .ok .brk, h => exact False.elim h
    | .ok .cont, h => exact False.elim h
    | .ok (.ret u), h =>
      obtain ⟨v, H', os, bare, un, hok', rv, q⟩ := h
      have q : v = .bl true := q
      rw [q] at rv
      have rv : u = Value.bool true := rv
      rw [rv]
      have old : ∀ b u, b ∉ ts → s₁.heap.get? b = some u → s'.heap.get? b = some u := fun b u nb e => by
        rcases hO b with z | z | ⟨_, _, ob, xs, z⟩
        · exact un.keep b u e z (fun z => (by cases z)) (fun z => (by cases z))
        · exact absurd z nb
        · have z1 := (hok b _ z).1
          have z2 := (hok' b _ (un.frzs b ob _ z)).1
          rw [e] at z1
          cases z1
          exact z2
      have grown : ∀ b ∈ ts, ∃ more : Array Value, s'.heap.get? b = some { cls := .none, data := .fields more } := fun b hb => by
        obtain ⟨more, z⟩ := un.tbls b #[] (hH b hb)
        exact ⟨_, hok' b _ z⟩
      refine ⟨rfl, ⟨fun b u e => ?_, fun b u e => ?_⟩, os, bare⟩
      · rcases Decidable.em (b ∈ ts) with hb | hb
        · obtain ⟨more, hm⟩ := grown b hb
          obtain ⟨t1, _, c, hc⟩ := isT b hb
          rw [t1] at e
          cases e
          exact .inr (.inl ⟨((PySem.W.codeHd_of_K KX hc).tab t1).isCodeTable, rfl, #[], more, rfl, by rw [Array.empty_append]; exact hm⟩)
        · exact .inl (old b u hb e)
      · rcases Decidable.em (b ∈ ts) with hb | hb
        · obtain ⟨more, hm⟩ := grown b hb
          exact ⟨_, hm⟩
        · exact ⟨u, old b u hb e⟩
  have rv := vals_ints hi
  cases hk : K.lookup a with
  | some o =>
    have e := KX a o hk
    rw [ha] at e
    cases e
    refine core (fun b => if b ∈ ts then some (.tbl #[]) else none) (fun b hb => if_pos hb) (.inr ⟨_, vs.toArray, _, hk, rfl, rfl, rfl, by rw [List.size_toArray, hi.length]; exact hl, by simpa using rv⟩) (fun b u z => ?_) (fun b => ?_)
    · rcases Decidable.em (b ∈ ts) with hb | hb
      · have z := (if_pos hb).symm.trans z
        cases z
        exact (isT b hb).1
      · have z := (if_neg hb).symm.trans z
        cases z
    · rcases Decidable.em (b ∈ ts) with hb | hb
      · exact .inr (.inl hb)
      · exact .inl (if_neg hb)
  | none =>
    refine core (fun b => if b = a then some (.frz { cls := .type "list", data := .seq vs.toArray } (.lst (ns.map V.int))) else if b ∈ ts then some (.tbl #[]) else none) (fun b hb => (if_neg (fun z : b = a => aT (z ▸ hb))).trans (if_pos hb)) (.inl (.inr ⟨{ cls := .type "list", data := .seq vs.toArray }, if_pos rfl⟩)) (fun b u z => ?_) (fun b => ?_)
    · rcases Decidable.em (b = a) with q | q
      · have z := (if_pos q).symm.trans z
        cases z
        rw [q]
        exact ⟨ha, by rw [List.length_map]; exact hl, vs, _, rv, ha⟩
      · have z := (if_neg q).symm.trans z
        rcases Decidable.em (b ∈ ts) with hb | hb
        · have z := (if_pos hb).symm.trans z
          cases z
          exact (isT b hb).1
        · have z := (if_neg hb).symm.trans z
          cases z
    · rcases Decidable.em (b = a) with q | q
      · exact .inr (.inr ⟨q, hk, _, _, if_pos q⟩)
      · rcases Decidable.em (b ∈ ts) with hb | hb
        · exact .inr (.inl hb)
        · exact .inl ((if_neg q).trans (if_neg hb))
theorem walk_tab {l : PySem.W.OpenLaw} {n k : Nat} {q : Program} {loose : List Str} {XP : (Str → Option Value) → Heap → Prop} {YP : World → Heap → Prop} {d : DefRec} {x : Str}
    (hn : l.most = some n) (hz : n ≤ sizeLine) (hdf : d.params.defaults = []) (hr : Room k callerA)
    (F : ∀ (w : World) (mg : Str → Option Value) (fa : Addr) (h : Heap), YP w h → h.Ns mainGlobals mg → mg d.name = some (.ref fa) →
      ∃ (K : PySem.W.Frag) (fd : FuncData) (sp : Sp), K.In h ∧ (∀ (s : Shared) (u : Value), BindsTo s fd ⟨[u], []⟩ [(x, u)]) ∧ (∀ z ∈ tabC K, h.get? z.2.1 = some { cls := .none, data := .fields #[] }) ∧ (∀ z ∈ tabC K, K.lookup z.2.1 = none) ∧ (∀ z ∈ tabC K, PySem.W.codeHdIn K z.1 z.2.1 = true) ∧
        (∀ (H : Hp) (a : Addr) (ns : List Int), ns.length ≤ n → LamX.Tabs (tabL K) H → SqL K H a (ns.map V.int) → sp [.ref a] H (fun v _ => v = .bl true) fun _ _ _ => False) ∧
        ∀ base : Heap, K.In base → base.Ns mainGlobals mg → (∀ z ∈ tabC K, LamX.TabB base mg z.1 z.2.1) → FnG l.prog w K mg base k fa fd [x] sp) :
    PySem.W.WalkO q loose XP YP l.row.toRowW d [] (fun f vs => PySem.call f vs) := by
  refine Att.attach_call hn hdf fun w' t₀ t₁ mg' mb' fa' o' pm' cd' dc a' vs' ns' G' Y' h1 h2 h3 h4 h5 h6 h7 h8 => ?_
  obtain ⟨K', fd', sp', kx, hb', e1, e2, e3, hs', hF'⟩ := F w' mg' fa' _ Y' G'.T.g h4
  exact end_tab kx G'.T.g G'.T.b G'.T.builtins G'.T.nolimit h8 e1 e2 e3 G'.T.bmain h5 h6 (Nat.le_trans h7 hz) hr hF' hb' (fun H hH hS => hs' H a' ns' h7 hH hS) fun H e s' h => cx_none h
end PF
namespace PF
open PySem PySem.Spec PyProof.Rows L2
def sOwnAdd (i : Nat) (fa fb : En → T W) : En → T (Fl × En) := fun ρ => (fa ρ).bind fun x => (fb ρ).bind fun y => (addL x y).bind fun z => match z with
  | .lst ws => .ok (.nx, ρ.set i (.own ws))
  | _ => .bad
theorem tr_ownAdd {X : Cx} {E : XK} {i : Nat} {x : Str} {a b : Expr} {fa fb : En → T W} {pos pos' p2 : Pos} (hN : X.N.Nodup) (hi : X.N[i]? = some x) (hx : L2.Loc X.env.scope x) (ha : TrE X (wOf E) a fa) (hb : TrE X (wOf E) b fb) (hs : swapsWith (.BinOp a .Add b p2) (some (.Name x pos')) pos.line X.env = pure false := by rfl)
    (hf : X.fn x = true ∨ X.env.scope.names.lookup x = some .local := by first | exact .inl rfl | exact .inr rfl | assumption) : TrS X E (.Assign [.Name x pos'] (.BinOp a .Add b p2) pos) (sOwnAdd i fa fb) := ps_imp (ps_set hN hi hx (pe_op op_cat ha hb) hs hf) fun D σ H q => by
  obtain ⟨c, d, oa, ρ, e, q⟩ := q
  refine lift_thenS (P := fun c H => PSq X.K c H D) e q (fun st p => p.later (.of st e.wd)) fun w v H1 d1 _ r1 e1 h1 => ?_
  refine lift_thenS (P := fun c H => PSq X.K c H D) e1 h1 (fun st p => p.later (.of st e1.wd)) fun w2 v2 H2 d2 st2 r2 e2 h2 => ?_
  have r1' := r1.step st2 e1.st e1.ok
  cases r1' <;> try exact h2.elim
  cases r2 <;> try exact h2.elim
  rename_i aa xs ws n1 h1' rl1 bb ys us n2 h2' rl2
  unfold addL at h2
  simp only at h2
  by_cases hz : sz2 ws.length us.length = true
  · rw [if_pos hz] at h2
    refine ⟨_, _, _, _, rfl, rfl, h1', h2', rl1.sizes rl2 hz, fun p hp => ?_⟩
    exact h2 _ _ _ _ (Fwd.mine hp e2.wd) ((e2.mine hp).ownSet (List.mem_cons_self ..) upd_same (((rl1.append rl2).more hp (.new hp) e2.st e2.ok).mine) (EnvOk.ownNe e2 hp))
  · rw [if_neg hz] at h2
    exact h2.elim
def sOwnPar3 (i j l : Nat) (fs : En → T (List W)) : En → T (Fl × En) := fun ρ => (fs ρ).bind fun ws => match ws with
  | [y, z] => .ok (.nx, ((ρ.set i (.own [])).set j (.val y)).set l (.val z))
  | _ => .bad
/-- a, b, c = [], y, z -/
theorem tr_ownPar3 {X : Cx} {E : XK} {st : Stmt} {fs : En → T (List W)} {i j l : Nat} (hp : PS X st (tPar3 i j l (tCons (tLst tNil) (liftA X.K (wOf E) fs)))) : TrS X E st (sOwnPar3 i j l fs) := ps_imp hp fun D σ H q => by
  obtain ⟨c, d, oa, ρ, e, q⟩ := q
  refine ⟨by rw [sizeLine_eq]; decide, fun p hp => ?_⟩
  have e0 := e.mine (xs := []) hp
  have q0 : (sOwnPar3 i j l fs ρ).AllB (PSq X.K (c.mine p) (L2.upd H p (.lst [])) D) (PXs X.K (c.mine p) (L2.upd H p (.lst [])) E) d := T.AllB.imp (fun _ _ y => y.later (Fwd.mine hp e.wd)) (fun _ _ _ y => y.fwd (Fwd.mine hp e.wd)) q
  refine liftA_thenS (P := fun c H => PSq X.K c H D) e0 q0 (fun st p => p.later (.of st e0.wd)) fun ws vs H1 d1 st1 r1 e1 h1 => ?_
  have n0 := st_ne e.st hp
  simp only [List.mem_cons, not_or] at n0
  have hq : H1 p = some (.lst []) := st1.keep p _ upd_same n0.1 n0.2.2.1 nofun
  match ws, vs, r1, h1 with
  | [], _, .nil, h1 => exact h1.elim
  | [_], _, .cons _ .nil, h1 => exact h1.elim
  | [_, _], _, .cons r (.cons r' .nil), h1 => exact ⟨_, _, _, rfl, h1 _ _ _ H1 .refl (((e1.ownSet (D := p) (i := i) (List.mem_cons_self ..) hq .nil (EnvOk.ownNe e hp)).set r).set r')⟩
  | _ :: _ :: _ :: _, _, .cons _ (.cons _ (.cons _ _)), h1 => exact h1.elim
end PF
namespace PF
open PySem PySem.Spec PyProof.Rows L2
def keyW : W → Option Key
  | .int i => some (.inl i)
  | .str x => some (.inr x)
  | _ => none
def putW (acc : List (Key × W)) (k : Key) (v : W) : List (Key × W) :=
  if (acc.any fun kv => decide (kv.1 = k)) = true then acc.map (fun kv => if kv.1 = k then (kv.1, v) else kv) else acc ++ [(k, v)]
section
variable {K : PySem.W.Frag} {c : Cc} {H : Hp}
theorem RepD.len {acc : List (Key × W)} {kvs : List (Key × V)} (h : RepD K c H acc kvs) : acc.length = kvs.length := by
  have := congrArg List.length h.1
  simpa using this
theorem RepD.cons {k k' : Key} {w : W} {v : V} {acc : List (Key × W)} {kvs : List (Key × V)} (h : RepD K c H ((k, w) :: acc) ((k', v) :: kvs)) : k = k' ∧ Rep K c H w v ∧ RepD K c H acc kvs := by
  obtain ⟨h1, h2⟩ := h
  simp only [List.map_cons] at h1 h2
  cases h2 with
  | cons r rr =>
    injection h1 with e1 e2
    exact ⟨e1, r, e2, rr⟩
theorem RepD.mk {k : Key} {w : W} {v : V} {acc : List (Key × W)} {kvs : List (Key × V)} (r : Rep K c H w v) (h : RepD K c H acc kvs) : RepD K c H ((k, w) :: acc) ((k, v) :: kvs) := ⟨by simp only [List.map_cons, h.1], .cons r h.2⟩
theorem RepD.any {k : Key} : ∀ {acc : List (Key × W)} {kvs : List (Key × V)}, RepD K c H acc kvs → (acc.any fun kv => decide (kv.1 = k)) = (kvs.any fun kv => decide (kv.1 = k))
  | [], [], _ => rfl
  | [], _ :: _, h => by
    have := h.1
    cases this
  | _ :: _, [], h => by
    have := h.1
    cases this
  | (a, w) :: acc, (b, v) :: kvs, h => by
    obtain ⟨rfl, r, h⟩ := h.cons
    simp only [List.any_cons, RepD.any (k := k) h]
theorem RepD.map {k : Key} {w : W} {v : V} (rw_ : Rep K c H w v) : ∀ {acc : List (Key × W)} {kvs : List (Key × V)}, RepD K c H acc kvs → RepD K c H (acc.map fun kv => if kv.1 = k then (kv.1, w) else kv) (kvs.map fun kv => if kv.1 = k then (kv.1, v) else kv)
  | [], [], h => h
  | [], _ :: _, h => by
    have := h.1
    cases this
  | _ :: _, [], h => by
    have := h.1
    cases this
  | (a, x) :: acc, (b, y) :: kvs, h => by
    obtain ⟨rfl, r, h⟩ := h.cons
    have ih := RepD.map (k := k) rw_ h
    simp only [List.map_cons]
    by_cases e : a = k
    · simp only [e, if_true]
      exact .mk rw_ ih
    · simp only [e, if_false]
      exact .mk r ih
theorem RepD.put {k : Key} {w : W} {v : V} {acc : List (Key × W)} {kvs : List (Key × V)} (h : RepD K c H acc kvs) (r : Rep K c H w v) : RepD K c H (putW acc k w) (putK kvs k v) := by
  unfold putW putK
  rw [h.any]
  split
  · exact h.map r
  · refine ⟨by simp [h.1], ?_⟩
    rw [List.map_append, List.map_append]
    exact h.2.append (.cons r .nil)
theorem putW_len (acc : List (Key × W)) (k : Key) (v : W) : (putW acc k v).length ≤ acc.length + 1 := by
  unfold putW
  split
  · rw [List.length_map]
    omega
  · rw [List.length_append]
    exact Nat.le_refl _
end
def dcL (G : W → En → Option En) (tt : En → T Bool) (fk fv : En → T W) (ρ : En) : List W → List (Key × W) → T (List (Key × W))
  | [], acc => .ok acc
  | w :: ws, acc => match G w ρ with
    | none => .bad
    | some ρ1 => (noX (tt ρ1)).bind fun b => if b then (noX (fk ρ1)).bind fun x => (noX (fv ρ1)).bind fun y => match keyW x with
      | some k => dcL G tt fk fv ρ ws (putW acc k y)
      | none => .bad
      else dcL G tt fk fv ρ ws acc
def dctW (xs : List (Key × W)) : W := .dct (xs.map (·.1)) (xs.map (·.2))
def fDc (vs : List Nat) (fi : En → T (List W)) (G : W → En → Option En) (tt : En → T Bool) (fk fv : En → T W) : En → T W := fun ρ => (fi ρ).bind fun ws => if sizeOk ws then (dcL G tt fk fv (wipeE ρ vs) ws []).bind fun xs => .ok (dctW xs) else .bad
section
variable {K : PySem.W.Frag} {c : Cc} {d : Nat} {oa : Nat → Addr} {ρ : En} {σ : St} {H H' : Hp} {D : Addr}
theorem StOk.updD {u : HO} {xs : List (Key × V)} (s : StOk c d H) (hn : D ∉ [c.S, c.ca, c.la]) (hl : H D = some (.dK xs)) : StOk c d (L2.upd H D u) := by
  obtain ⟨cells, lefts, k, r, h1, h2, h3, h4, h5, h6, h7, h8, h9⟩ := s
  simp only [List.mem_cons, not_or, List.not_mem_nil, not_false_eq_true, and_true] at hn
  exact ⟨cells, lefts, k, r, by rw [upd_ne (Ne.symm hn.1)]; exact h1, by rw [upd_ne (Ne.symm hn.2.1)]; exact h2, by rw [upd_ne (Ne.symm hn.2.2)]; exact h3, h4, h5, h6, h7, h8, Tabs.upd h9 hl nofun dK_noC⟩
theorem EnvOk.updD {xs ys : List (Key × V)} (e : EnvOk K c d oa ρ σ H) (hA : D ∈ c.A) (hM : D ∉ c.M) (hn : D ∉ [c.S, c.ca, c.la]) (hl : H D = some (.dK xs)) (ho : ∀ (i : Nat) (ws : List (Key × W)), ρ[i]? = some (.odc ws) → oa i ≠ D) : EnvOk K c d oa ρ σ (L2.upd H D (.dK ys)) where
  ok := e.ok
  st := e.st.updD hn hl
  av := fun b hb => by
    by_cases hb' : b = D
    · rw [hb']
      exact ⟨_, upd_same⟩
    · obtain ⟨o, h⟩ := e.av b hb
      exact ⟨o, by rw [upd_ne hb']; exact h⟩
  len := e.len
  val := fun i w h => by
    obtain ⟨v, h1, h2⟩ := e.val i w h
    exact ⟨v, h1, h2.upd hA hl (fun _ z => by cases z) (fun _ _ z => by cases z)⟩
  m := ⟨e.m.inA, e.m.nst, fun b hb => by
    by_cases hb' : b = D
    · exact absurd (hb' ▸ hb) hM
    · obtain ⟨xs, h, w⟩ := e.m.ls b hb
      exact ⟨xs, by rw [upd_ne hb']; exact h, w⟩⟩
  own := fun i ws h => by
    obtain ⟨h1, h3, vs, h4, h5⟩ := e.own i ws h
    have ne : oa i ≠ D := fun z => by
      rw [z, hl] at h4
      cases h4
    exact ⟨h1, h3, vs, by rw [upd_ne ne]; exact h4, h5.upd hA hl (fun _ z => by cases z) (fun _ _ z => by cases z)⟩
  inj := e.inj
  odc := fun i ws h => by
    obtain ⟨h1, h3, vs, h4, h5⟩ := e.odc i ws h
    exact ⟨h1, h3, vs, by rw [upd_ne (ho i ws h)]; exact h4, h5.1, h5.2.upd hA hl (fun _ z => by cases z) (fun _ _ z => by cases z)⟩
  ido := e.ido
  tT := e.tT
theorem wipeE_odc {j : Nat} {xs : List (Key × W)} : ∀ {vs : List Nat}, (wipeE ρ vs)[j]? = some (.odc xs) → ρ[j]? = some (.odc xs)
  | [], h => h
  | v :: vs, h => by
    rcases getElem?_set_or h with ⟨_, ex⟩ | ⟨_, h⟩
    · cases ex
    · exact wipeE_odc h
end
theorem Rep.key {K : PySem.W.Frag} {c : Cc} {H : Hp} {w : W} {v : V} {k : Key} (r : Rep K c H w v) (h : keyW w = some k) : v = kV k := by
  cases r <;> first | (cases h; rfl) | cases h
section
variable {X : Cx} {E : WX} {kx vx tg iter : Expr} {ifs : List Expr} {scope : Scope} {own : List (Str × Nat)} {pos : Pos} {fi : En → T (List W)} {ns : List Nat} {G : W → En → Option En} {tt : En → T Bool} {fk fv : En → T W}
theorem dc_ok (hs : ∀ i ∈ ns, i ∈ own.map (·.2)) : ∀ σ H Q, liftE X.K E (fDc (own.map (·.2)) fi G tt fk fv) σ H Q → tDc (liftI X.K E fi) (liftG X.K ns G) (liftB X.K noW tt) (liftE X.K noW fk) (liftE X.K noW fv) (own.map (·.2)) σ H Q := fun σ H Q h => by
  obtain ⟨c, d, oa, ρ, e, h⟩ := h
  refine ⟨c, d, oa, ρ, e, T.AllB.imp (fun d1 ws hx => ?_) (fun _ _ _ y => y) (T.allB_bind.mp h)⟩
  intro J H1 st1 so1 jo D nD
  have e1 := e.step st1 so1
  obtain ⟨hz, hx⟩ := T.AllB.ite hx
  have hz := sizeOk_of hz
  generalize hvs : own.map (·.2) = vs at hs hx
  have hx : ((dcL G tt fk fv (wipeE ρ vs) ws []).bind fun xs => T.ok (dctW xs)).AllB (PQ X.K c H1 Q) (PX X.K c H1 fun cls dx H' => E cls dx σ H') d1 := T.AllB.imp (fun _ _ y => y.later st1) (fun _ _ _ y => y.later st1) hx
  have nM : D ∉ (c.more D).M := fun hm => by
    obtain ⟨xs, hxs, _⟩ := e1.m.ls D hm
    rw [nD] at hxs
    cases hxs
  refine ⟨fun i m H' => m = ws.length - i ∧ ∃ d' acc us, Step c H1 H' ∧ EnvOk X.K (c.more D) d' oa (wipeE ρ vs) (wipe σ vs) H' ∧ H' D = some (.dK us) ∧ RepD X.K (c.more D) H' acc us ∧ us.length ≤ i ∧
    ((dcL G tt fk fv (wipeE ρ vs) (ws.drop i) acc).bind fun xs => T.ok (dctW xs)).AllB (PQ X.K c H1 Q) (PX X.K c H1 fun cls dx H' => E cls dx σ H') d',
    ⟨_, rfl, d1, [], [], .new nD, (e1.more nD).wipe vs, upd_same, ⟨rfl, .nil⟩, Nat.le_refl _, hx⟩, ?_⟩
  rintro i m H' ⟨rfl, d', acc, us, st', e', hD, ra, hl, h'⟩
  have fw : Fwd X.K c H1 (c.more D) H' := .more nD st' e1.wd
  obtain ⟨ji, js⟩ := jo (c.more D) H' d' i fw e'.wd
  have nst : D ∉ [(c.more D).S, (c.more D).ca, (c.more D).la] := by
    obtain ⟨cells, lefts, k, r, h1, h2, h3, _⟩ := so1
    simp only [List.mem_cons, not_or, List.not_mem_nil, not_false_eq_true, and_true]
    exact ⟨Ne.symm (ne_of_none h1 nD), Ne.symm (ne_of_none h2 nD), Ne.symm (ne_of_none h3 nD)⟩
  have ho : ∀ (j : Nat) (xs : List (Key × W)), (wipeE ρ vs)[j]? = some (.odc xs) → oa j ≠ D := fun j xs hj => by
    obtain ⟨_, _, zs, h4, _⟩ := e1.odc j xs (wipeE_odc hj)
    exact ne_of_none h4 nD
  have stp : ∀ {Ha Hb : Hp} {da : Nat} {acc : List (Key × W)} {us : List (Key × V)}, Step (c.more D) Ha Hb → StOk (c.more D) da Ha → CcOk (c.more D) → RepD X.K (c.more D) Ha acc us → RepD X.K (c.more D) Hb acc us := fun st so ok h => ⟨h.1, h.2.step st so ok⟩
  by_cases hi : i < ws.length
  · have hw : ws[i]? = some ws[i] := List.getElem?_eq_getElem hi
    rw [List.drop_eq_getElem_cons hi] at h'
    obtain ⟨jg, jy⟩ := ji _ hw
    refine .inr ⟨jg, fun H2 => ∃ d' acc us, Step c H1 H2 ∧ EnvOk X.K (c.more D) d' oa (wipeE ρ vs) (wipe σ vs) H2 ∧ H2 D = some (.dK us) ∧ RepD X.K (c.more D) H2 acc us ∧ us.length ≤ i + 1 ∧
      ((dcL G tt fk fv (wipeE ρ vs) (ws.drop (i + 1)) acc).bind fun xs => T.ok (dctW xs)).AllB (PQ X.K c H1 Q) (PX X.K c H1 fun cls dx H' => E cls dx σ H') d', fun H2 h2 => ⟨ws.length - (i + 1), by omega, rfl, h2⟩, fun x H2 y => ?_⟩
    obtain ⟨st2, so2, rx⟩ := jy x H2 y
    have e2 := e'.step st2 so2
    have keep : ∀ {Ha Hb : Hp}, Step (c.more D) Ha Hb → ∀ {us}, Ha D = some (.dK us) → Hb D = some (.dK us) := fun st us h => st.keep _ _ h (by
      intro z
      exact nst (by rw [z]; simp)) (by
      intro z
      exact nst (by rw [z]; simp)) nofun
    unfold dcL at h'
    cases g : G ws[i] (wipeE ρ vs) with
    | none =>
      rw [g] at h'
      exact h'.elim
    | some ρ1 =>
      rw [g] at h'
      refine ⟨c.more D, d', oa, wipeE ρ vs, ws[i], ρ1, e2, rx, g, fun σ3 b3 e3 => ⟨wipe_but b3 hs, c.more D, d', oa, ρ1, e3, ?_⟩⟩
      refine noX_all (T.AllB.imp (fun d4 b hb => ?_) (fun _ _ _ y => y) (T.allB_bind.mp (T.allB_bind.mp h')))
      intro H4 st4 so4
      have e4 := e3.step st4 so4
      have e4' := e2.step st4 so4
      cases b with
      | false => exact iteF ⟨d4, acc, us, st'.trans (Step.to (c := c) (st2.trans st4) rfl rfl), e4', keep st4 (keep st2 hD), stp st4 e2.st e2.ok (stp st2 e'.st e'.ok ra), Nat.le_succ_of_le hl, T.allB_bind.mpr (show (dcL G tt fk fv (wipeE ρ vs) (ws.drop (i + 1)) acc).AllB _ _ d4 from hb)⟩
      | true =>
        refine iteT ⟨c.more D, d4, oa, ρ1, e4, ?_⟩
        have hb := T.allB_bind.mp (show ((noX (fk ρ1)).bind fun x => (noX (fv ρ1)).bind fun y => match keyW x with
          | some k => dcL G tt fk fv (wipeE ρ vs) (ws.drop (i + 1)) (putW acc k y)
          | none => .bad).AllB _ _ d4 from hb)
        refine noX_all (T.AllB.imp (fun d5 w5 h5 => ?_) (fun _ _ _ y => y) hb)
        intro v5 H5 st5 so5 r5
        have e5 := e4.step st5 so5
        have e5' := e4'.step st5 so5
        refine ⟨c.more D, d5, oa, ρ1, e5, ?_⟩
        refine noX_all (T.AllB.imp (fun d6 w6 h6 => ?_) (fun _ _ _ y => y) (T.allB_bind.mp h5))
        intro v6 H6 st6 so6 r6
        have e6' := e5'.step st6 so6
        have hD6 := keep st6 (keep st5 (keep st4 (keep st2 hD)))
        have ra6 := stp st6 e5'.st e5'.ok (stp st5 e4'.st e4'.ok (stp st4 e2.st e2.ok (stp st2 e'.st e'.ok ra)))
        cases hk : keyW w5 with
        | none =>
          rw [hk] at h6
          exact h6.elim
        | some k =>
          rw [hk] at h6
          have ek := r5.key hk
          refine ⟨us, k, ek, hD6, by omega, d6, putW acc k w6, putK us k v6, (st'.trans (Step.to (c := c) (st2.trans (st4.trans (st5.trans st6))) rfl rfl)).past nD, e6'.updD (List.mem_cons_self ..) nM nst hD6 ho, upd_same, ?_, ?_, T.allB_bind.mpr h6⟩
          · have := ra6.put (k := k) r6
            exact ⟨this.1, this.2.upd (List.mem_cons_self ..) hD6 (fun _ z => by cases z) (fun _ _ z => by cases z)⟩
          · have := length_putK us k v6
            omega
  · rw [List.drop_eq_nil_of_le (by omega)] at h'
    refine .inl ⟨js (by omega), ?_⟩
    have h8 : PQ X.K c H1 Q d' (.dct (acc.map (·.1)) (acc.map (·.2))) := h'
    rw [ra.1] at h8
    refine h8 _ H' st' e'.st (.dct (e1.wd.fresh nD) hD ?_)
    exact RepL.weak (c := c) (c1 := c.more D) rfl (fun b hb => List.mem_cons_of_mem _ hb) ra.2
theorem tr_dc (hc : X.calm = true) (hN : X.N.Nodup) (hi : TrI X E tg iter fi) (ok : BlkOk X.N X.env.scope scope own) (hs : ∀ i ∈ ns, i ∈ own.map (·.2))
    (hg : ∀ (s : Shared) (H : Hp) (C : Addr) (cl : List (Str × Addr)) (fp : List Addr), TrG (X.blk s H scope (compEnvC scope cl C X.env) fp) tg ns G) (ht : ∀ (s : Shared) (H : Hp) (C : Addr) (cl : List (Str × Addr)) (fp : List Addr), TrTs (X.blk s H scope (compEnvC scope cl C X.env) fp) ifs tt)
    (hk : ∀ (s : Shared) (H : Hp) (C : Addr) (cl : List (Str × Addr)) (fp : List Addr), TrE (X.blk s H scope (compEnvC scope cl C X.env) fp) noW kx fk)
    (he : ∀ (s : Shared) (H : Hp) (C : Addr) (cl : List (Str × Addr)) (fp : List Addr), TrE (X.blk s H scope (compEnvC scope cl C X.env) fp) noW vx fv) (hf : ∀ x, foldedSetIterable iter X.env x = pure x := by intro _; rfl) :
    TrE X E (.DictComp kx vx [⟨tg, iter, ifs, 0⟩] scope pos) (fDc (own.map (·.2)) fi G tt fk fv) := pe_imp (pe_dc (g := liftG X.K ns G) (tt := liftB X.K noW tt) (tk := liftE X.K noW fk) (tv := liftE X.K noW fv) hc hN hi ok hg ht hk he hf) (dc_ok hs)
end
/-- len of a dict -/
def lenD : List W → T W
  | [.dct ks _] => .ok (.int ks.length)
  | _ => .bad
theorem sem_lenD {K : PySem.W.Frag} : SemL K (fun xs H Q => ∃ a kvs, xs = [V.ref a] ∧ H a = some (.dK kvs) ∧ Q (.int kvs.length) H) lenD := fun c d H x v Q E' wd rx q => by
  cases rx with
  | nil => exact q.elim
  | cons r rr =>
    cases rr with
    | cons _ _ => cases r <;> exact q.elim
    | nil =>
      cases r with
      | dct n h rl =>
        have q := PQ.now wd q (.int _)
        rw [List.length_map] at q
        exact ⟨_, _, rfl, h, q⟩
      | _ => exact q.elim
end PF
namespace PF
open PySem PySem.Spec PyProof.Rows L2
def sOwn2Rg (i j : Nat) (f : En → T W) : En → T (Fl × En) := fun ρ => (f ρ).bind fun w => match w with
  | .int n => if decide (0 ≤ n ∧ n ≤ 16777216) then .ok (.nx, (ρ.set i (.own (intsFrom 0 n.toNat))).set j (.own [])) else .bad
  | _ => .bad
theorem rep_ints {K : PySem.W.Frag} {c : Cc} {H : Hp} : ∀ (n : Nat) (lo : Int), RepL K c H (intsFrom lo n) ((List.range n).map fun (i : Nat) => V.int (lo + i))
  | 0, lo => .nil
  | n + 1, lo => by
    rw [List.range_succ_eq_map, List.map_cons, List.map_map]
    have e : ((fun (i : Nat) => V.int (lo + i)) ∘ Nat.succ) = fun (i : Nat) => V.int (lo + 1 + i) := by
      funext i
      show V.int (lo + ((i + 1 : Nat) : Int)) = _
      congr 1
      omega
    rw [e]
    have e0 : (lo + ((0 : Nat) : Int)) = lo := by omega
    rw [e0]
    exact .cons (.int lo) (rep_ints n (lo + 1))
theorem tr_own2Rg {X : Cx} {E : XK} {st : Stmt} {f : En → T W} {i j : Nat} (ne : i ≠ j) (hp : PS X st (tPar i j (tCons (tLstRg (tRg1 (liftE X.K (wOf E) f))) (tCons (tLst tNil) tNil)))) : TrS X E st (sOwn2Rg i j f) := ps_imp hp fun D σ H q => by
  obtain ⟨c, d, oa, ρ, e, q⟩ := q
  refine lift_thenS (P := fun c H => PSq X.K c H D) e q (fun st p => p.later (.of st e.wd)) fun w v H0 d0 _ r0 e00 h0 => ?_
  cases r0 with
  | int n =>
    obtain ⟨hz, h0⟩ := T.AllB.ite h0
    obtain ⟨z0, z1⟩ := of_decide_eq_true hz
    refine ⟨n, rfl, RgOk.of_le (Int.le_refl 0) z1 (by decide) z0, fun p hp => ?_⟩
    refine ⟨by rw [sizeLine_eq]; decide, fun p2 hp2 => ?_⟩
    have e1 := e00.mine (xs := rgV 0 n) hp
    have e2 := e1.mine (xs := []) hp2
    have ne2 : p ≠ p2 := fun z => by
      rw [← z, upd_same] at hp2
      cases hp2
    have h2 : ∀ Z, L2.upd (L2.upd H0 p (.lst (rgV 0 n))) p2 Z p = some (.lst (rgV 0 n)) := fun Z => by rw [upd_ne ne2]; exact upd_same
    have rg : RepL X.K ((c.mine p).mine p2) (L2.upd (L2.upd H0 p (.lst (rgV 0 n))) p2 (.lst [])) (intsFrom 0 n.toNat) (rgV 0 n) := by
      unfold rgV
      rw [Int.sub_zero]
      exact rep_ints n.toNat 0
    have e3 := e2.ownSet (D := p) (i := i) (List.mem_cons_of_mem _ (List.mem_cons_self ..)) (h2 _) rg (fun k us hk hu => EnvOk.ownNe (i := i) e00 hp k us hk hu)
    have e4 := e3.ownSet (D := p2) (i := j) (ws := []) (vs := []) (List.mem_cons_self ..) upd_same .nil (fun k us hk hu => by
      by_cases hki : k = i
      · rw [if_pos hki]
        exact ne2
      · rw [if_neg hki]
        rcases getElem?_set_or hu with ⟨z, _⟩ | ⟨_, hu⟩
        · exact absurd z hki
        · exact EnvOk.ownNe (i := k + 1) e1 hp2 k us (by omega) hu)
    refine ⟨_, _, rfl, h0 _ _ _ _ ((Fwd.mine hp e00.wd).trans (Fwd.mine hp2 e1.wd)) e4⟩
  | _ => exact h0.elim
def sAppPop (j i : Nat) (fs : En → T (List W)) (fb : En → T W) : En → T (Fl × En) := fun ρ => match ρ[j]?, ρ[i]? with
  | some (.own as), some (.own ws) => (fs ρ).bind fun xs => match popW ws xs with
    | some (w, us) => (fb (ρ.set i (.own us))).bind fun b => if roomOk as then .ok (.nx, (ρ.set i (.own us)).set j (.own (as ++ [.tup [w, b]]))) else .bad
    | none => .bad
  | _, _ => .bad
section
variable {X : Cx} {E : XK} {ea ep a b : Expr} {fs : En → T (List W)} {fb : En → T W} {pos : Pos}
theorem tr_appPop {i j : Nat} {apos cpos apos' cpos' tpos : Pos} {tk : Nat} (ne : i ≠ j) (hj : PE X ea (tVar j)) (hi : PE X ep (tVar i)) (ha : TrA X (wOf E) [a] fs) (hb : TrE X (wOf E) b fb)
    (hp : PE X (.Call (.Attribute ea "append" apos) [.Tuple [.Call (.Attribute ep "pop" apos') [a] [] cpos', b] tk tpos] [] cpos) (tBM X.K "list" rAppend (tVar j) (tCons (tTup (tCons (tBM X.K "list" rPopAt (tVar i) (liftA X.K (wOf E) fs)) (tCons (liftE X.K (wOf E) fb) tNil))) tNil)))
    (hs : swapsWith (.Call (.Attribute ea "append" apos) [.Tuple [.Call (.Attribute ep "pop" apos') [a] [] cpos', b] tk tpos] [] cpos) none pos.line X.env = pure false := by rfl) :
    TrS X E (.Expr (.Call (.Attribute ea "append" apos) [.Tuple [.Call (.Attribute ep "pop" apos') [a] [] cpos', b] tk tpos] [] cpos) pos) (sAppPop j i fs fb) := ps_imp (ps_expr hp hs) fun D σ H q => by
  obtain ⟨c, d, oa, ρ, e, q⟩ := q
  unfold sAppPop at q
  split at q
  · rename_i as ws hjw hw
    obtain ⟨m1, m2, vs, m3, m4⟩ := e.own i ws hw
    obtain ⟨n1, n2, us, n3, n4⟩ := e.own j as hjw
    refine ⟨_, n2, .inl ⟨rfl, _, SqL.of n3⟩, ?_⟩
    refine ⟨_, m2, .inl ⟨rfl, _, SqL.of m3⟩, ?_⟩
    refine liftA_thenS (P := fun c H => PSq X.K c H D) e q (fun st p => p.later (.of st e.wd)) fun xs zs H1 d1 st1 r1 e1 h1 => ?_
    cases r1 with
    | nil => exact h1.elim
    | cons r rr =>
      cases rr with
      | cons _ _ => cases r <;> exact h1.elim
      | nil =>
        cases r with
        | int k =>
          obtain ⟨m1', m2', vs', m3', m4'⟩ := e1.own i ws hw
          simp only [popW] at h1
          split at h1
          · rename_i w us' hp'
            split at hp'
            · rename_i hk
              split at hp'
              · rename_i y hy
                simp only [Option.some.injEq, Prod.mk.injEq] at hp'
                obtain ⟨rfl, rfl⟩ := hp'
                obtain ⟨v, hv, rv⟩ := m4'.get hy
                obtain ⟨e2, fw2⟩ := e1.ownUpd hw (m4'.erase k.toNat)
                have rv2 := fw2.rep _ _ rv
                refine ⟨_, _, k, k.toNat, v, rfl, rfl, m3', by omega, by omega, seqIx_at hk.1 (by rw [← m4'.length]; exact hk.2.1), hv, ?_⟩
                have h2 := T.AllB.imp (fun _ _ y => PSq.later fw2 y) (fun _ _ _ y => y.fwd fw2) h1
                refine lift_thenS (P := fun c H => PSq X.K c H D) e2 h2 (fun st p => p.later (.of st e2.wd)) fun b' u' H3 d3 st3 r3 e3 h3 => ?_
                obtain ⟨hz, h3⟩ := T.AllB.ite h3
                have rv3 := rv2.step st3 e2.st e2.ok
                refine ⟨by rw [sizeLine_eq]; show 2 ≤ 16777216; decide, fun p hp => ?_⟩
                have st4 : Step c H3 (L2.upd H3 p (.tup [v, u'])) := .new hp
                have e4 := e3.step st4 (e3.st.new hp)
                have hjw' : (ρ.set i (.own (ws.eraseIdx k.toNat)))[j]? = some (.own as) := by rw [List.getElem?_set_ne ne]; exact hjw
                obtain ⟨n1', n2', us2, n3', n4'⟩ := e4.own j as hjw'
                have rt : Rep X.K c (L2.upd H3 p (.tup [v, u'])) (.tup [y, b']) (.ref p) := .tup (.of upd_same) (.cons (rv3.step st4 e3.st e3.ok) (.cons (r3.step st4 e3.st e3.ok) .nil))
                obtain ⟨e5, fw5⟩ := e4.ownUpd hjw' (n4'.append (.cons rt .nil))
                unfold roomOk at hz
                refine ⟨_, _, _, rfl, rfl, n3', by rw [← n4'.length, sizeLine_eq]; exact of_decide_eq_true hz, ?_⟩
                exact h3 _ _ _ _ ((Fwd.of st4 e3.wd).trans fw5) e5
              · cases hp'
            · cases hp'
          · exact h1.elim
        | _ => exact h1.elim
  · exact q.elim
end
end PF
namespace PF
open PySem PySem.Spec PyProof.Rows L2
section
variable {K : PySem.W.Frag} {c : Cc} {d : Nat} {oa : Nat → Addr} {ρ : En} {σ : L2.St} {H H' : Hp} {D : Addr} {i : Nat}
theorem EnvOk.mineD {xs : List (Key × V)} (e : EnvOk K c d oa ρ σ H) (n : H D = none) : EnvOk K (c.mine D) d oa ρ σ (L2.upd H D (.dK xs)) where
  ok := ⟨List.mem_cons_of_mem _ e.ok.inS, List.mem_cons_of_mem _ e.ok.inla, List.mem_cons_of_mem _ e.ok.inca⟩
  st := e.st.new n
  av := (e.more n).av
  len := e.len
  val := fun i w h => by
    obtain ⟨v, h1, h2⟩ := e.val i w h
    exact ⟨v, h1, (h2.more n (.new n) e.st e.ok).mine⟩
  m := ⟨fun b hb => by
      rcases List.mem_cons.mp hb with rfl | hb
      · exact List.mem_cons_self ..
      · exact List.mem_cons_of_mem _ (e.m.inA b hb), fun b hb => by
      rcases List.mem_cons.mp hb with rfl | hb
      · exact st_ne e.st n
      · exact e.m.nst b hb, fun b hb => by
      rcases List.mem_cons.mp hb with rfl | hb
      · exact ⟨_, upd_same, .inr ⟨_, rfl⟩⟩
      · obtain ⟨ys, h, w⟩ := e.m.ls b hb
        exact ⟨ys, by rw [upd_ne (ne_of_none h n)]; exact h, w⟩⟩
  own := fun i ws h => by
    obtain ⟨h1, h3, vs, h4, h5⟩ := e.own i ws h
    exact ⟨List.mem_cons_of_mem _ h1, h3, vs, by rw [upd_ne (ne_of_none h4 n)]; exact h4, (h5.more n (.new n) e.st e.ok).mine⟩
  inj := e.inj
  odc := fun i ws h => by
    obtain ⟨h1, h3, vs, h4, h5⟩ := e.odc i ws h
    exact ⟨List.mem_cons_of_mem _ h1, h3, vs, by rw [upd_ne (ne_of_none h4 n)]; exact h4, h5.1, (h5.2.more n (.new n) e.st e.ok).mine⟩
  ido := e.ido
  tT := e.tT
/-- a slot takes a dict of the frame's own -/
theorem EnvOk.odcSet {ws : List (Key × W)} {vs : List (Key × V)} (e : EnvOk K c d oa ρ σ H) (hm : D ∈ c.M) (hl : H D = some (.dK vs)) (rl : RepD K c H ws vs) (ho : ∀ (j : Nat) (us : List (Key × W)), j ≠ i → ρ[j]? = some (.odc us) → oa j ≠ D) :
    EnvOk K c d (fun j => if j = i then D else oa j) (ρ.set i (.odc ws)) (σ.set i (some (.ref D))) H where
  ok := e.ok
  st := e.st
  av := e.av
  m := e.m
  len := by rw [List.length_set, List.length_set]; exact e.len
  val := fun j x h => by
    rcases getElem?_set_or h with ⟨ej, ex⟩ | ⟨n, h'⟩
    · cases ex
    · obtain ⟨u, h1, h2⟩ := e.val j x h'
      exact ⟨u, by rw [List.getElem?_set_ne (Ne.symm n)]; exact h1, h2⟩
  odc := fun j x h => by
    rcases getElem?_set_or h with ⟨ej, ex⟩ | ⟨n, h'⟩
    · cases ex
      subst ej
      have hj : j < σ.length := by
        by_cases hl : j < ρ.length
        · rw [← e.len]
          exact hl
        · rw [List.getElem?_eq_none (by simpa using hl)] at h
          cases h
      rw [if_pos rfl]
      exact ⟨hm, by rw [List.getElem?_set_self hj], vs, hl, rl⟩
    · obtain ⟨h1, h3, h4⟩ := e.odc j x h'
      rw [if_neg n]
      exact ⟨h1, by rw [List.getElem?_set_ne (Ne.symm n)]; exact h3, h4⟩
  ido := fun a b x y h1 h2 he => by
    rcases getElem?_set_or h1 with ⟨ea, _⟩ | ⟨na, h1'⟩
    · rcases getElem?_set_or h2 with ⟨eb, _⟩ | ⟨nb, h2'⟩
      · rw [ea, eb]
      · rw [ea, if_pos rfl, if_neg nb] at he
        exact absurd he.symm (ho b y nb h2')
    · rcases getElem?_set_or h2 with ⟨eb, _⟩ | ⟨nb, h2'⟩
      · rw [eb, if_pos rfl, if_neg na] at he
        exact absurd he (ho a x na h1')
      · rw [if_neg na, if_neg nb] at he
        exact e.ido a b x y h1' h2' he
  own := fun j x h => by
    rcases getElem?_set_or h with ⟨ej, ex⟩ | ⟨n, h'⟩
    · cases ex
    · obtain ⟨h1, h3, h4⟩ := e.own j x h'
      rw [if_neg n]
      exact ⟨h1, by rw [List.getElem?_set_ne (Ne.symm n)]; exact h3, h4⟩
  inj := fun a b x y h1 h2 he => by
    rcases getElem?_set_or h1 with ⟨ea, ex⟩ | ⟨na, h1'⟩
    · cases ex
    · rcases getElem?_set_or h2 with ⟨eb, ex⟩ | ⟨nb, h2'⟩
      · cases ex
      · rw [if_neg na, if_neg nb] at he
        exact e.inj a b x y h1' h2' he
  tT := e.tT
theorem EnvOk.odcNe {a : Addr} (e : EnvOk K c d oa ρ σ H) (n : H a = none) : ∀ (j : Nat) (us : List (Key × W)), j ≠ i → ρ[j]? = some (.odc us) → oa j ≠ a := fun j us _ h => by
  obtain ⟨_, _, zs, h4, _⟩ := e.odc j us h
  exact ne_of_none h4 n
/-- one of them is changed -/
theorem EnvOk.odcUpd {ws us : List (Key × W)} {ys : List (Key × V)} (e : EnvOk K c d oa ρ σ H) (h : ρ[i]? = some (.odc ws)) (rl : RepD K c H us ys) :
    EnvOk K c d oa (ρ.set i (.odc us)) σ (L2.upd H (oa i) (.dK ys)) ∧ Fwd K c H c (L2.upd H (oa i) (.dK ys)) := by
  obtain ⟨h1, h3, vs, h4, h5⟩ := e.odc i ws h
  have hA := e.m.inA _ h1
  have hn := e.m.nst _ h1
  have up : ∀ {w : W} {v : V}, Rep K c H w v → Rep K c (L2.upd H (oa i) (.dK ys)) w v := fun r => r.upd hA h4 (fun _ z => by cases z) (fun _ _ z => by cases z)
  have upl : ∀ {w : List W} {v : List V}, RepL K c H w v → RepL K c (L2.upd H (oa i) (.dK ys)) w v := fun r => r.upd hA h4 (fun _ z => by cases z) (fun _ _ z => by cases z)
  refine ⟨?_, rfl, rfl, rfl, rfl, fun b hb _ => hb, fun b hb => .inl hb, fun b o hb _ _ nm _ => ?_, fun b ps hb nm => ⟨#[], by rw [upd_ne (fun z => nm (by rw [z]; exact h1)), hb]; simp⟩, fun w v r => up r, fun a vs h => sqT_upd h4 (fun _ z => by cases z) (fun _ _ z => by cases z) h⟩
  · exact {
      ok := e.ok
      st := e.st.updD hn h4
      av := fun b hb => by
        by_cases hb' : b = oa i
        · rw [hb']
          exact ⟨_, upd_same⟩
        · obtain ⟨o, h⟩ := e.av b hb
          exact ⟨o, by rw [upd_ne hb']; exact h⟩
      m := ⟨e.m.inA, e.m.nst, fun b hb => by
        by_cases hb' : b = oa i
        · rw [hb']
          exact ⟨_, upd_same, .inr ⟨_, rfl⟩⟩
        · obtain ⟨xs, h, w⟩ := e.m.ls b hb
          exact ⟨xs, by rw [upd_ne hb']; exact h, w⟩⟩
      len := by rw [List.length_set]; exact e.len
      val := fun j x hx => by
        rcases getElem?_set_or hx with ⟨ej, ex⟩ | ⟨n, h'⟩
        · cases ex
        · obtain ⟨u, g1, g2⟩ := e.val j x h'
          exact ⟨u, g1, up g2⟩
      odc := fun j x hx => by
        rcases getElem?_set_or hx with ⟨ej, ex⟩ | ⟨n, h'⟩
        · cases ex
          subst ej
          exact ⟨h1, h3, ys, upd_same, rl.1, upl rl.2⟩
        · obtain ⟨g1, g3, zs, g4, g5⟩ := e.odc j x h'
          exact ⟨g1, g3, zs, by rw [upd_ne (fun z => n (e.ido j i x ws h' h z))]; exact g4, g5.1, upl g5.2⟩
      ido := fun a b x y g1 g2 he => by
        have f : ∀ {a : Nat} {x : List (Key × W)}, (ρ.set i (.odc us))[a]? = some (.odc x) → ∃ x', ρ[a]? = some (.odc x') := fun g => by
          rcases getElem?_set_or g with ⟨ea, _⟩ | ⟨_, g'⟩
          · exact ⟨ws, by rw [ea]; exact h⟩
          · exact ⟨_, g'⟩
        obtain ⟨x', f1⟩ := f g1
        obtain ⟨y', f2⟩ := f g2
        exact e.ido a b x' y' f1 f2 he
      own := fun j x hx => by
        rcases getElem?_set_or hx with ⟨ej, ex⟩ | ⟨n, h'⟩
        · cases ex
        · obtain ⟨g1, g3, zs, g4, g5⟩ := e.own j x h'
          have ne : oa j ≠ oa i := fun z => by
            rw [z, h4] at g4
            cases g4
          exact ⟨g1, g3, zs, by rw [upd_ne ne]; exact g4, upl g5⟩
      inj := fun a b x y g1 g2 he => by
        rcases getElem?_set_or g1 with ⟨_, ex⟩ | ⟨_, g1'⟩
        · cases ex
        · rcases getElem?_set_or g2 with ⟨_, ex⟩ | ⟨_, g2'⟩
          · cases ex
          · exact e.inj a b x y g1' g2' he
      tT := e.tT }
  · rw [upd_ne (fun z => nm (by rw [z]; exact h1))]
    exact hb
end
def sOwnD (i : Nat) : En → T (Fl × En) := fun ρ => .ok (.nx, ρ.set i (.odc []))
theorem tr_ownD {X : Cx} {E : XK} {i : Nat} {x : Str} {pos pos' p2 : Pos} (hN : X.N.Nodup) (hi : X.N[i]? = some x) (hx : L2.Loc X.env.scope x) (hs : swapsWith (.Dict [] [] p2) (some (.Name x pos')) pos.line X.env = pure false := by rfl)
    (hf : X.fn x = true ∨ X.env.scope.names.lookup x = some .local := by first | exact .inl rfl | exact .inr rfl | assumption) : TrS X E (.Assign [.Name x pos'] (.Dict [] [] p2) pos) (sOwnD i) := ps_imp (ps_set hN hi hx pe_dnewK hs hf) fun D σ H q => by
  obtain ⟨c, d, oa, ρ, e, q⟩ := q
  intro p hp
  exact q _ _ _ _ (Fwd.mine hp e.wd) ((e.mineD hp).odcSet (ws := []) (vs := []) (List.mem_cons_self ..) upd_same ⟨rfl, .nil⟩ (EnvOk.odcNe e hp))
@[irreducible] def dRoom (ws : List (Key × W)) : Bool := decide (ws.length < 16777216)
def sDPutO (i : Nat) (fk fv : En → T W) : En → T (Fl × En) := fun ρ => match ρ[i]? with
  | some (.odc ws) => (fv ρ).bind fun v => (fk ρ).bind fun k => match keyW k with
    | some kk => if dRoom ws then .ok (.nx, ρ.set i (.odc (putW ws kk v))) else .bad
    | none => .bad
  | _ => .bad
theorem tr_dput {X : Cx} {E : XK} {o x e : Expr} {fk fv : En → T W} {i : Nat} {pos pos2 : Pos} (hu : X.A.units + 1 < cLine) (ho : PE X o (tVar i)) (hi : TrE X (wOf E) x fk) (he : TrE X (wOf E) e fv)
    (hs : swapsWith e (some (.Subscript o x pos2)) pos.line X.env = pure false := by rfl) :
    TrS X E (.Assign [.Subscript o x pos2] e pos) (sDPutO i fk fv) := ps_imp (ps_dput hu ho hi he hs) fun D σ H q => by
  obtain ⟨c, d, oa, ρ, e, q⟩ := q
  unfold sDPutO at q
  split at q
  · rename_i ws hw
    refine lift_thenS (P := fun c H => PSq X.K c H D) e q (fun st p => p.later (.of st e.wd)) fun w v H1 d1 _ r1 e1 h1 => ?_
    obtain ⟨m1, m2, vs, m3, m4⟩ := e1.odc i ws hw
    refine ⟨_, m2, lift_thenS (P := fun c H => PSq X.K c H D) e1 h1 (fun st p => p.later (.of st e1.wd)) fun k kv H2 d2 st2 r2 e2 h2 => ?_⟩
    cases hk : keyW k with
    | none =>
      rw [hk] at h2
      exact h2.elim
    | some kk =>
      rw [hk] at h2
      obtain ⟨hz, h2⟩ := T.AllB.ite h2
      have ek := r2.key hk
      subst ek
      obtain ⟨g1, g2, us, g3, g4⟩ := e2.odc i ws hw
      obtain ⟨e3, fw⟩ := e2.odcUpd hw (g4.put (k := kk) (r1.step st2 e1.st e1.ok))
      unfold dRoom at hz
      exact ⟨_, _, rfl, DPut.k g3 (by rw [← g4.len, sizeLine_eq]; exact of_decide_eq_true hz), h2 c oa σ _ fw e3⟩
  · exact q.elim
def intKs : List Key → Option (List Int)
  | [] => some []
  | .inl i :: ks => (intKs ks).map (i :: ·)
  | .inr _ :: _ => none
theorem intKs_of : ∀ {ks : List Key} {ns : List Int}, intKs ks = some ns → ks = ns.map Sum.inl
  | [], ns, h => by
    cases h
    rfl
  | .inl i :: ks, ns, h => by
    unfold intKs at h
    cases hk : intKs ks with
    | none =>
      rw [hk] at h
      cases h
    | some ms =>
      rw [hk] at h
      cases h
      rw [intKs_of hk]
      rfl
  | .inr _ :: _, ns, h => by cases h
def sortedD : List W → T W
  | [.dct ks _] => match intKs ks with
    | some ns => if decide (ns.length < 64) then .ok (.lst ((sortI ns).map W.int)) else .bad
    | none => .bad
  | _ => .bad
theorem rep_intsL {K : PySem.W.Frag} {c : Cc} {H : Hp} : ∀ ns : List Int, RepL K c H (ns.map W.int) (ns.map V.int)
  | [] => .nil
  | n :: ns => .cons (.int n) (rep_intsL ns)
theorem sem_sortedD {K : PySem.W.Frag} : SemL K (fun xs H Q => ∃ (a : Addr) (kvs : List (Key × V)) (ks : List Int), xs = [.ref a] ∧ Rd H a (.dK kvs) ∧ kvs.map (·.1) = ks.map Sum.inl ∧ ks.length < 64 ∧
    ∀ (ys : List Int) (p : Addr), ys.Perm ks → ys.Pairwise (· ≤ ·) → H p = none → Q (.ref p) (L2.upd H p (.lst (ys.map V.int)))) sortedD := fun c d H x v Q E' wd rx q => by
  cases rx with
  | nil => exact q.elim
  | cons r rr =>
    cases rr with
    | cons _ _ => cases r <;> exact q.elim
    | nil =>
      cases r with
      | @dct a kvs ws n h rl =>
        unfold sortedD at q
        simp only at q
        cases hk : intKs (kvs.map (·.1)) with
        | none =>
          rw [hk] at q
          exact q.elim
        | some ns =>
          rw [hk] at q
          obtain ⟨hz, q⟩ := T.AllB.ite q
          refine ⟨a, kvs, ns, rfl, .inl h, intKs_of hk, of_decide_eq_true hz, fun ys p py as hp => ?_⟩
          have ey : ys = sortI ns := asc_uniq as (sortI_asc ns) (py.trans (sortI_perm ns).symm)
          subst ey
          exact PQ.lst wd q (rep_intsL _) hp
      | _ => exact q.elim
end PF
namespace PF
open PySem PySem.Spec PyProof.Rows L2
def wrI (w : W) : T W := .ok w
section
variable {X : Cx} {ns : List Nat} {c : Cc} {d : Nat} {H : Hp} {D : Ends} {n : Nat} {fs : List W} {cls : Value} {dx : Option Addr} {σ : L2.St} {Wo : WX} {E' : Nat → Nat → List W → Prop} {Q : VK} {j : Nat}
theorem wCl_set (hj : j < σ.length) (hD : ∀ (σ' : L2.St) (v : V) (H' : Hp), σ'[j]? = some (some v) → Q v H' → D.nx σ' H') (wd : Wd c d H) (rx : RepX X.K c H n fs cls dx) (hn : n ∈ ns) : ∀ {hds : List ExceptHandler} {hs : List Hd} {l : List Cla}, TrC X (.set j) ns hds hs l → (∀ x ∈ hs, ∀ i, x.io = some i → i < σ.length ∧ i ≠ j) → (hdlR hs n fs).AllB (PQ X.K c H Q) E' d → wCl X.K Wo D l cls dx σ H
  | _, _, _, .nil, _, q => q.elim
  | _, _, _, .cons (m := m) (io := io) (h := h) hc hi hio hm hms hsu r, hlt, q => by
    refine ⟨m n, by rw [rx.1]; exact hm n hn, fun hb a na => ?_, fun hb => ?_⟩
    · have q1 : (h n fs).AllB (PQ X.K c H Q) E' d := by
        have q2 : (if m n then h n fs else _ : T W).AllB (PQ X.K c H Q) E' d := q
        rw [if_pos hb] at q2
        exact q2
      clear q
      refine ⟨c, d, n, fs, hms n hn hb, wd, fun i hio' => ?_, rx, E', T.AllB.imp (fun d1 w1 y => ?_) (fun _ _ _ y => y) q1⟩
      · subst hio'
        show (σ.set i (some (.ref a)))[i]? = _
        rw [List.getElem?_set_self (hlt _ (List.mem_cons_self ..) i rfl).1]
      · intro v H1 st so rv
        have y1 := y v H1 st so rv
        cases io with
        | none => exact hD _ v H1 (List.getElem?_set_self hj) y1
        | some i =>
          have hi2 := hlt _ (List.mem_cons_self ..) i rfl
          refine hD _ v H1 ?_ y1
          show (((σ.set i (some (.ref a))).set j (some v)).set i none)[j]? = _
          rw [List.getElem?_set_ne hi2.2, List.getElem?_set_self (by rw [List.length_set]; exact hj)]
    · have q : (if m n then h n fs else hdlR _ n fs : T W).AllB (PQ X.K c H Q) E' d := q
      rw [if_neg (by rw [hb]; decide)] at q
      exact wCl_set hj hD wd rx hn r (fun x hx => hlt x (List.mem_cons_of_mem _ hx)) q
end
section
variable {P : Program} {w : World} {K : PySem.W.Frag} {mg : Str → Option Value} {base : Heap} {Ng : List Str} {x a y : Str} {sg : Scope} {g : Addr} {cdg : Value} {ns : List Nat} {hs : List Hd} {h0 : ExceptHandler} {hds : List ExceptHandler} {j : Nat}
theorem hears_S {p1 p2 p3 p4 p5 p6 p7 : Pos} (hN : Ng.Nodup) (h0' : ∀ f : Addr, (L2.start Ng [V.ref f])[0]? = some (some (V.ref f))) (hj0 : Ng[j]? = some y) (hjl : j < Ng.length) (hyl : sg.names.lookup y = some .local) (hl : ∀ x ∈ hs, ∀ i, x.io = some i → i < Ng.length ∧ i ≠ j) (hlen : ∀ f : Addr, (L2.start Ng [V.ref f]).length = Ng.length)
    (hsw : ∀ env : PySem.Env, swapsWith (.Call (.Name a p1) [] [] p2) (some (.Name y p3)) p4.line env = pure false)
    (hd : (y == ("__debug__" : Str)) = false) (hcd : (y == ("__classdict__" : Str)) = false)
    (hC : ∀ (A : Around) (stack : List PySem.Env) (s : Shared) (H : Hp), ∃ l, TrC (heCx P w K mg base Ng x sg g cdg A stack s H).nox (.set j) ns (h0 :: hds) hs l) :
    Hears P w K mg base Ng x sg g cdg [.Try [.Assign [.Name y p3] (.Call (.Name a p1) [] [] p2) p4] (h0 :: hds) [] [] p5, .Return (some (.Name y p6)) p7] a wrI ns hs := by
  intro q A stack f c' s H Q c d t tl E' htl act hco wd ht
  obtain ⟨l, hC⟩ := hC A stack s H
  refine ⟨_, pss_cons (ps_tryM (X := (heCx P w K mg base Ng x sg g cdg A stack s H).nox) (Wo := fun _ _ _ _ => False) rfl rfl hN LamX.takes0
    (tb := fun W => tAsg (fun σZ HZ Q' => ∃ Ech : XK, (∀ cls d H', Ech cls d H' → W cls d σZ H') ∧ σZ[0]? = some (some (.ref f)) ∧ HZ c' = some (LamX.CodeO c' q) ∧ tl Ech HZ Q') (gName j))
    (fun W pn xe tk _ => pss_one (ps_set hN hj0 (.inl hyl) ⟨fun pins s' σZ HZ Q' I h => ?_⟩ (hsw _) (.inr hyl))) hC.ok) (pss_one (ps_ret (pe_var (i := j) hj0 (.inl hyl) hd hcd))), ?_⟩
  · obtain ⟨Ech, h1, h2, h3, h4⟩ := h
    exact (act W pn xe Ech p1 p2 tk).run pins s' σZ HZ Q' I ⟨h1, h2, h3, h4⟩
  · refine ⟨fun cls dx H' => wCl K (fun _ _ _ _ => False) { nx := fun σ1 H1 => tRet (tVar j) { nx := fun _ H' => Q .non H', rt := Q } σ1 H1, rt := Q } l cls dx (L2.start Ng [.ref f]) H', fun _ _ _ z => z, h0' f, hco, htl _ _ (T.AllB.imp (fun d1 w1 y => ?_) (fun d1 n fs y => ?_) (T.allB_catch.mp ht))⟩
    · intro v H1 st so rv
      exact ⟨v, List.getElem?_set_self (by rw [hlen]; exact hjl), y v H1 st so rv⟩
    · intro cls dx H1 st so rx
      obtain ⟨hn, y⟩ := T.AllB.ite y
      exact wCl_set (X := (heCx P w K mg base Ng x sg g cdg A stack s H).nox) (Q := Q) (D := { nx := fun σ1 H1 => tRet (tVar j) { nx := fun _ H' => Q .non H', rt := Q } σ1 H1, rt := Q }) (by rw [hlen]; exact hjl) (fun σ' v H' h1 h2 => ⟨v, h1, h2⟩) (wd.step st so) rx (List.contains_iff_mem.mp hn) hC (fun x hx i hi => by rw [hlen]; exact hl x hx i hi) (T.AllB.imp (fun _ _ z => z.later st) (fun _ _ _ z => z) y)
end
theorem units1 {n : Nat} (h : n + 65 < cLine) : n + 1 < cLine := Nat.lt_of_le_of_lt (Nat.add_le_add_left (by decide) _) h
end PF
namespace PF
open PySem PySem.Spec PyProof.Rows L2
theorem tuple_mul0 (l : Addr) (a : Value) (r : List Value) (n : Nat) (dd : Option Addr) (sl : Array (Option Value)) (u : Tok) :
    Meets (Builtin.«tuple.__mul__» ⟨[.ref l, .int 0 u], []⟩) (fun _ R s => s.heap.get? l = some { cls := .type "tuple", dict := dd, data := .seq (a :: r).toArray n, slots := sl } ∧ R (.ok (.ret (Value.ref s.heap.objs.size))) { s with heap := s.heap.push { cls := Value.type "tuple", data := Data.seq #[] }, toks := s.toks }) :=
  .of_wp fun prog w A R s h => by
    obtain ⟨hp, g, d, tk, os⟩ := s
    obtain ⟨hl, h⟩ := h
    have f1 := AutoSeq1.idx_int
    wp_walk using wpAny_loadPart' hl
    exact ⟨_, rfl, h⟩
def rRep0 (K : PySem.W.Frag) : R2 := fun x y H Q => ∃ l xs, x = .ref l ∧ y = .int 0 ∧ SqT K H l xs ∧ xs ≠ [] ∧ ∀ p, H p = none → Q (.ref p) (L2.upd H p (.tup []))
theorem op_rep0 {X : Cx} : OpR X (binaryOp .Mult) (rRep0 X.K) := by
  intro pins s σ H x y v u Q I rx ry h
  obtain ⟨l, xs, rfl, rfl, hT, hne, q⟩ := h
  cases rx
  obtain ⟨t, rfl⟩ := ry
  obtain ⟨its, r, ⟨⟨cls, dd, data, sl⟩, ho, hc, n, hd⟩, hs⟩ := I.tuple hT
  simp only at hc hd
  subst hc hd
  cases its with
  | nil =>
    cases r
    exact absurd rfl hne
  | cons a rest =>
    exact wpAny_binaryOp_repeat_ref (T := "tuple") (U := "int") (by decide) ⟨_, ho, rfl⟩ (fun s' => typeIs_int s' 0 t) noFill_tuple_mul F.fills_int_mul F.slot_int_rmul repeat_tuple F.slot_int_index.lookup
      (call_meets F.slot_int_rmul (typeIs_int s 0 t) F.entry_int_rmul (F.args_int_rmul_2 _ _) (int_rmul_tuple 0 t l (a :: rest).toArray n dd sl)
        ⟨ho, rfl, ⟨_, ho, rfl⟩, call_meets F.slot_tuple_mul ⟨_, ho, rfl⟩ F.entry_tuple_mul (F.args_tuple_mul_2 _ _) (tuple_mul0 l a rest n dd sl t) ⟨ho, ⟨.ref s.heap.objs.size, L2.upd H s.heap.objs.size (.tup []), I.laid (t' := s.toks) (o := .tup []) (fun b ob q => Heap.get?_push_of_some _ q) (Nat.le_refl _) ⟨by simp, [], .nil, IsTup.new _ _⟩, rfl, q _ (I.hok.fresh (Nat.le_refl _))⟩⟩⟩)
def mul0 : W → W → T W
  | .tup (_ :: _), .int 0 => .ok (.tup [])
  | _, _ => .bad
theorem sem_mul0 {K : PySem.W.Frag} : Sem2 K (rRep0 K) mul0 := fun c d H x y v u Q E' wd rx ry q => by
  cases rx with
  | tup hq rl =>
    cases rl with
    | nil => exact q.elim
    | cons r rr =>
      cases ry with
      | int k =>
        by_cases hk : k = 0
        · subst hk
          exact ⟨_, _, rfl, rfl, hq, by simp, fun p hp => PQ.tup wd q .nil hp⟩
        · have nb : ∀ (w : W) (ws : List W), mul0 (.tup (w :: ws)) (.int k) = .bad := fun w ws => by
            unfold mul0
            split
            · rename_i e
              cases e
              exact absurd rfl hk
            · rfl
          rw [nb] at q
          exact q.elim
      | _ => exact q.elim
  | _ => exact q.elim
def mulTZ (x y : W) : T W := match y with
  | .int 0 => mul0 x (.int 0)
  | y => mulTA x y
theorem sem_mulTZ {K : PySem.W.Frag} : Sem2 K (fun x y H Q => rRep0 K x y H Q ∨ (rRep1 K x y H Q ∨ rRepT K x y H Q)) mulTZ := sem_or1 sem_mul0 sem_mulTA fun x y => by
  unfold mulTZ
  split
  · exact .inl rfl
  · exact .inr rfl
theorem op_mulTZ {X : Cx} : OpR X (binaryOp .Mult) (fun x y H Q => rRep0 X.K x y H Q ∨ (rRep1 X.K x y H Q ∨ rRepT X.K x y H Q)) := opR_or op_rep0 op_mulTA
end PF
namespace Lw
open PySem PySem.Spec PyProof.Rows L2 PF
def k_PRIMES : W := (.tup [(.int 11), (.int 13), (.int 17), (.int 19), (.int 23)])
def k_MOST_SIGNS : W := (.int 96)
def k_MOST_LETTERS : W := (.int 8)
def k_MOST_SHARE : W := (.int 6)
def k_MOST_ROOM : W := (.int 12)
def F_is_integer : List W → T W := defF 1 1 (sRet (fAndV (f1 (isiW isInt) (gV 0)) (fNotV (f1 (isiW (isOnly "bool")) (gV 0)))))
def F_is_between : List W → T W := defF 3 3 (sRet (fAndV (fL (fCons (gV 0) fNil) F_is_integer) (fCh leW leW (gV 1) (gV 0) (gV 2))))
def F_are_rising : List W → T W := defF 3 1 (sRet (fL (fCons (fComp [1, 2] (iL zpW (fCons (gV 0) (fCons (fSl (gV 0) (pSome (fun _ => .ok (.int 1))) pNo) fNil))) (goTup 2 (goCons (goName 1) (goCons (goName 2) goNil))) fYes (f2 ltW (gV 1) (gV 2))) fNil) allW))
def F_need_prime : List W → T W := defF 1 1 (sIf (fOr (fNot (fTru (fL (fCons (gV 0) fNil) F_is_integer))) (fBl (f2 ninW (gV 0) (fun _ => .ok k_PRIMES)))) sNever sNil)
def F_is_sign : List W → T W := defF 2 2 (sRet (fL (fCons (gV 1) (fCons (fun _ => .ok (.int 0)) (fCons (f2 subW (gV 0) (fun _ => .ok (.int 1))) fNil))) F_is_between))
def F_are_signs : List W → T W := defF 3 2 (sRet (fAndV (f1 (isiW (isOnly "tuple")) (gV 1)) (fL (fCons (fComp [2] (iOf tupW (gV 1)) (goName 2) fYes (fL (fCons (gV 0) (fCons (gV 2) fNil)) F_is_sign)) fNil) allW)))
def F_need_message : List W → T W := defF 2 2 (sSeq (sExpr (fL (fCons (gV 0) fNil) F_need_prime)) (sSeq (sIf (fOr (fNot (fTru (fL (fCons (gV 0) (fCons (gV 1) fNil)) F_are_signs))) (fBl (f2 gtW (fL (fCons (gV 1) fNil) lenW) (fun _ => .ok k_MOST_SIGNS)))) sNever sNil) (sRet (gV 1))))
def F_rest_of : List W → T W := defF 2 2 (sRet (f2 modW (fL (fCons (gV 1) fNil) intW) (gV 0)))
def F_value_in : List W → T W := defF 5 3 (sSeq (sSet 3 (fun _ => .ok (.int 0))) (sSeq (sFor (iOf tupW (f1 backW (gV 1))) (goName 4) (sSet 3 (fL (fCons (gV 0) (fCons (f2 addW (f2 mulW (gV 3) (gV 2)) (gV 4)) fNil)) F_rest_of))) (sRet (gV 3))))
def F_inverse_in : List W → T W := defF 3 2 (sRet (f2 ixW (fComp [2] (iL rng2 (fCons (fun _ => .ok (.int 1)) (fCons (gV 0) fNil))) (goName 2) (fBl (f2 eqS (fL (fCons (gV 0) (fCons (f2 mulW (gV 2) (gV 1)) fNil)) F_rest_of) (fun _ => .ok (.int 1)))) (gV 2)) (fun _ => .ok (.int 0))))
def F_times_root : List W → T W := defF 6 3 (sSeq (sOwn 3 (fCons (fun _ => .ok (.int 0)) (fStar (gV 1) fNil))) (sSeq (sFor (iL enL (fCons (gV 1) fNil)) (goTup 2 (goCons (goName 4) (goCons (goName 5) goNil))) (sAt 3 (gV 4) (fL (fCons (gV 0) (fCons (f2 subW (fun ρ => (onFrzN 3 (f2 ixW (gV 3) (gV 4)) ρ).bind flat) (f2 mulW (gV 2) (gV 5))) fNil)) F_rest_of))) (onFrz 3 (sRet (gV 3)))))
def F_through_in : List W → T W := defF 12 2 (sSeq (sSet 2 (f2 mulL (fL (fCons (fun _ => .ok (.int 0)) fNil) mkLst) (fL (fCons (gV 1) fNil) lenW))) (sSeq (sFor (iOf tupW (gV 1)) (goTup 2 (goCons (goName 3) (goCons (goName 4) goNil))) (sSeq (sPar 5 6 (fCons (fL (fCons (fun _ => .ok (.int 1)) fNil) mkLst) (fCons (fun _ => .ok (.int 1)) fNil))) (sSeq (sFor (iOf tupW (gV 1)) (goTup 2 (goCons (goName 7) (goCons (goName 8) goNil))) (sIf (fBl (f2 neS (gV 7) (gV 3))) (sPar 5 6 (fCons (fL (fCons (gV 0) (fCons (gV 5) (fCons (gV 7) fNil))) F_times_root) (fCons (fL (fCons (gV 0) (fCons (f2 mulW (gV 6) (f2 subW (gV 3) (gV 7))) fNil)) F_rest_of) fNil))) sNil)) (sSeq (sSet 9 (fL (fCons (gV 0) (fCons (f2 mulW (gV 4) (fL (fCons (gV 0) (fCons (gV 6) fNil)) F_inverse_in)) fNil)) F_rest_of)) (sSet 2 (fComp [10, 11] (iL zpW (fCons (gV 2) (fCons (gV 5) fNil))) (goTup 2 (goCons (goName 10) (goCons (goName 11) goNil))) fYes (fL (fCons (gV 0) (fCons (f2 addW (gV 10) (f2 mulW (gV 9) (gV 11))) fNil)) F_rest_of))))))) (sRet (fL (fCons (gV 2) fNil) tupOfW))))
def F_is_laying : List W → T W := defF 2 1 (sSeq (sIf (fOr (fNot (fTru (f1 (isiW (isOnly "tuple")) (gV 0)))) (fNot (fBl (fCh leW leW (fun _ => .ok (.int 1)) (fL (fCons (gV 0) fNil) lenW) (fun _ => .ok k_MOST_LETTERS))))) (sRet (fun _ => .ok (.bl false))) sNil) (sRet (fAndV (fL (fCons (fComp [1] (iOf tupW (gV 0)) (goName 1) fYes (fL (fCons (gV 1) (fCons (fun _ => .ok (.int 0)) (fCons (fun _ => .ok k_MOST_SHARE) fNil))) F_is_between)) fNil) allW) (f2 leW (fL (fCons (gV 0) fNil) sumW) (fun _ => .ok k_MOST_ROOM)))))
def F_need_laying : List W → T W := defF 1 1 (sSeq (sIf (fNot (fTru (fL (fCons (gV 0) fNil) F_is_laying))) sNever sNil) (sRet (gV 0)))
def F_profile_in : List W → T W := defF 5 1 (sSeq (sOwnPar 1 2 (fCons (fun _ => .ok (.int 0)) fNil)) (sSeq (sFor (iL enT (fCons (gV 0) fNil)) (goTup 2 (goCons (goName 3) (goCons (goName 4) goNil))) (sSeq (sSet 2 (f2 addW (gV 2) (f2 mulW (f2 addW (gV 3) (fun _ => .ok (.int 1))) (gV 4)))) (sApp 1 (fCons (gV 2) fNil)))) (onFrz 1 (sRet (gV 1)))))
def F_needs_in : List W → T W := defF 4 1 (sSeq (sSet 1 (fL fNil mkLst)) (sSeq (sFor (iL enT (fCons (gV 0) fNil)) (goTup 2 (goCons (goName 2) (goCons (goName 3) goNil))) (sSet 1 (f2 addW (gV 1) (f2 mulL (fL (fCons (f2 addW (gV 2) (fun _ => .ok (.int 1))) fNil) mkLst) (fL (fCons (gV 3) fNil) intW))))) (sRet (gV 1))))
def F_blocks_in : List W → T W := defF 5 2 (sSeq (sOwnPar 2 3 (fCons (fun _ => .ok (.int 0)) fNil)) (sSeq (sFor (iOf lstW (fL (fCons (gV 0) fNil) F_needs_in)) (goName 4) (sSeq (sApp 2 (fCons (fSl (gV 1) (pSome (gV 3)) (pSome (f2 addW (gV 3) (gV 4)))) fNil)) (sSet 3 (f2 addW (gV 3) (gV 4))))) (onFrz 2 (sRet (gV 2)))))
def F_letters_in : List W → T W := defF 6 3 (sSeq (sSet 3 (fL (fCons (gV 1) (fCons (gV 2) fNil)) F_blocks_in)) (sRet (fL (fCons (fComp [4] (iL rng1 (fCons (fL (fCons (gV 1) fNil) lenW) fNil)) (goName 4) fYes (fL (fCons (fComp [5] (iOf lstW (gV 3)) (goName 5) fYes (fL (fCons (gV 0) (fCons (gV 5) (fCons (f2 addW (gV 4) (fun _ => .ok (.int 1))) fNil))) F_value_in)) fNil) tupOfW)) fNil) tupOfW)))
def F_letters_of : List W → T W := defF 3 3 (sSeq (sExpr (fL (fCons (gV 0) fNil) F_need_prime)) (sSeq (sExpr (fL (fCons (gV 1) fNil) F_need_laying)) (sSeq (sExpr (fL (fCons (gV 0) (fCons (gV 2) fNil)) F_need_message)) (sSeq (sIf (fBl (f2 neS (fL (fCons (gV 2) fNil) lenW) (f2 ixW (fL (fCons (gV 1) fNil) F_profile_in) (f1 negW (fun _ => .ok (.int 1)))))) sNever sNil) (sRet (fL (fCons (gV 0) (fCons (gV 1) (fCons (gV 2) fNil))) F_letters_in))))))
def F_is_pair : List W → T W := defF 3 3 (sSeq (sIf (fOr (fNot (fTru (f1 (isiW (isOnly "tuple")) (gV 2)))) (fOr (fBl (f2 neS (fL (fCons (gV 2) fNil) lenW) (fun _ => .ok (.int 2)))) (fNot (fTru (fL (fCons (f2 ixW (gV 2) (fun _ => .ok (.int 0))) (fCons (fun _ => .ok (.int 0)) (fCons (f2 subW (fL (fCons (gV 1) fNil) lenW) (fun _ => .ok (.int 1))) fNil))) F_is_between))))) (sRet (fun _ => .ok (.bl false))) sNil) (sRet (fAndV (fL (fCons (gV 0) (fCons (f2 ixW (gV 2) (fun _ => .ok (.int 1))) fNil)) F_are_signs) (f2 eqS (fL (fCons (f2 ixW (gV 2) (fun _ => .ok (.int 1))) fNil) lenW) (fL (fCons (gV 1) fNil) sumW)))))
def F_need_mail_of : List W → T W := defF 4 3 (sSeq (sIf (fOr (fNot (fTru (f1 (isiW (isOnly "tuple")) (gV 2)))) (fNot (fTru (fL (fCons (fComp [3] (iOf tupW (gV 2)) (goName 3) fYes (fL (fCons (gV 0) (fCons (gV 1) (fCons (gV 3) fNil))) F_is_pair)) fNil) allW)))) sNever sNil) (sIf (fNot (fTru (fL (fCons (fComp [3] (iOf tupW (gV 2)) (goName 3) fYes (f2 ixW (gV 3) (fun _ => .ok (.int 0)))) fNil) F_are_rising))) sNever sNil))
def F_need_mail : List W → T W := defF 3 3 (sSeq (sExpr (fL (fCons (gV 0) fNil) F_need_prime)) (sSeq (sExpr (fL (fCons (gV 1) fNil) F_need_laying)) (sSeq (sExpr (fL (fCons (gV 0) (fCons (gV 1) (fCons (gV 2) fNil))) F_need_mail_of)) (sRet (gV 2)))))
def F_points_at : List W → T W := defF 4 2 (sRet (fComp [2, 3] (iOf tupW (gV 0)) (goTup 2 (goCons (goName 2) (goCons (goName 3) goNil))) fYes (fL (fCons (f2 addW (gV 2) (fun _ => .ok (.int 1))) (fCons (f2 ixW (gV 3) (gV 1)) fNil)) mkTup)))
def F_fits_at : List W → T W := defF 8 4 (sSeq (sSet 4 (fL (fCons (gV 1) (fCons (gV 2) fNil)) F_points_at)) (sSeq (sIf (fBl (f2 leW (fL (fCons (gV 4) fNil) lenW) (gV 3))) (sRet (fun _ => .ok (.bl true))) sNil) (sSeq (sSet 5 (fL (fCons (gV 0) (fCons (fL (fCons (fSl (gV 4) pNo (pSome (gV 3))) fNil) tupOfW) fNil)) F_through_in)) (sRet (fL (fCons (fComp [6, 7] (iOf lstW (fSl (gV 4) (pSome (gV 3)) pNo)) (goTup 2 (goCons (goName 6) (goCons (goName 7) goNil))) fYes (f2 eqS (fL (fCons (gV 0) (fCons (gV 5) (fCons (gV 6) fNil))) F_value_in) (gV 7))) fNil) allW)))))
def F_unfit_in : List W → T W := defF 6 3 (sSeq (sOwnD 3) (sSeq (sFor (iL enL (fCons (fL (fCons (gV 1) fNil) F_needs_in) fNil)) (goTup 2 (goCons (goName 4) (goCons (goName 5) goNil))) (sIf (fNot (fTru (fL (fCons (gV 0) (fCons (gV 2) (fCons (gV 4) (fCons (gV 5) fNil)))) F_fits_at))) (sDPutO 3 (gV 5) (fun _ => .ok (.bl true))) sNil)) (onFrz 3 (sRet (fL (fCons (gV 3) fNil) sortedD)))))
def F_does_fit : List W → T W := defF 4 4 (sSeq (sExpr (fL (fCons (gV 0) (fCons (gV 1) (fCons (gV 2) fNil))) F_need_mail)) (sSeq (sIf (fNot (fTru (fL (fCons (gV 3) (fCons (fun _ => .ok (.int 1)) (fCons (fL (fCons (gV 1) fNil) lenW) fNil))) F_is_between))) sNever sNil) (sRet (f2 ninW (gV 3) (fL (fCons (gV 0) (fCons (gV 1) (fCons (gV 2) fNil))) F_unfit_in)))))
def F_unfit_needs : List W → T W := defF 3 3 (sSeq (sExpr (fL (fCons (gV 0) (fCons (gV 1) (fCons (gV 2) fNil))) F_need_mail)) (sRet (fL (fCons (fL (fCons (gV 0) (fCons (gV 1) (fCons (gV 2) fNil))) F_unfit_in) fNil) tupOfW)))
def F_read_in : List W → T W := defF 6 3 (sSeq (sSet 3 (fL fNil mkTup)) (sSeq (sFor (iL enL (fCons (fL (fCons (gV 1) fNil) F_needs_in) fNil)) (goTup 2 (goCons (goName 4) (goCons (goName 5) goNil))) (sIf (fBl (f2 leW (gV 5) (fL (fCons (gV 2) fNil) lenW))) (sSet 3 (f2 addW (gV 3) (fL (fCons (gV 0) (fCons (fL (fCons (fSl (fL (fCons (gV 2) (fCons (gV 4) fNil)) F_points_at) pNo (pSome (gV 5))) fNil) tupOfW) fNil)) F_through_in))) sNil)) (sRet (gV 3))))
def F_read : List W → T W := defF 4 3 (sSeq (sExpr (fL (fCons (gV 0) (fCons (gV 1) (fCons (gV 2) fNil))) F_need_mail)) (sSeq (sSet 3 (fL (fCons (gV 0) (fCons (gV 1) (fCons (gV 2) fNil))) F_unfit_in)) (sSeq (sIf (fBl (f2 neS (gV 3) (fL fNil mkLst))) (sRaise 11 (fCons (f2 ixW (gV 3) (fun _ => .ok (.int 0))) fNil)) sNil) (sRet (fL (fCons (gV 0) (fCons (gV 1) (fCons (gV 2) fNil))) F_read_in)))))
def F__law_mixed : List W → T W := defF 2 2 (sSeq (sSet 0 (f2 modW (fL (fCons (gV 0) fNil) intW) (fun _ => .ok (.int 2147483647)))) (sRet (f2 modW (f2 mulW (f2 modW (f2 addW (f2 addW (f2 mulW (gV 0) (f2 addW (fun _ => .ok (.int 48271)) (f2 mulW (f2 mulW (fun _ => .ok (.int 2)) (gV 1)) (gV 1)))) (f2 mulW (fun _ => .ok (.int 69621)) (gV 1))) (fun _ => .ok (.int 11))) (fun _ => .ok (.int 2147483647))) (fun _ => .ok (.int 69621))) (fun _ => .ok (.int 2147483629)))))
def mixv (c k : Int) : Int := ((c % 2147483647) * (48271 + 2 * k * k) + 69621 * k + 11) % 2147483647 * 69621 % 2147483629
theorem mix_run {c k : Int} (h0 : 0 ≤ k) (h1 : k ≤ 2 ^ 61) : F__law_mixed [.int c, .int k] = .ok (.int (mixv c k)) := by
  have hc0 : 0 ≤ c % 2147483647 := Int.emod_nonneg _ (by decide)
  have hc1 : c % 2147483647 < 2147483647 := Int.emod_lt_of_pos _ (by decide)
  have m1 : mulOk 2 k = true := mulOk_of (a := 2) (b := 62) (by decide) (by omega) (by decide) (by decide) (by decide)
  have m2 : mulOk (2 * k) k = true := mulOk_of (a := 64) (b := 62) (by omega) (by omega) (by decide) (by decide) (by decide)
  have hkk : (2 * k * k).natAbs < 2 ^ 126 := wide_lt (a := 64) (b := 62) (by omega) (by omega)
  have m3 : mulOk (c % 2147483647) (48271 + 2 * k * k) = true := mulOk_of (a := 32) (b := 127) (by omega) (by omega) (by decide) (by decide) (by decide)
  have m4 : mulOk 69621 k = true := mulOk_of (a := 20) (b := 62) (by decide) (by omega) (by decide) (by decide) (by decide)
  have hr0 : 0 ≤ ((c % 2147483647) * (48271 + 2 * k * k) + 69621 * k + 11) % 2147483647 := Int.emod_nonneg _ (by decide)
  have hr1 : ((c % 2147483647) * (48271 + 2 * k * k) + 69621 * k + 11) % 2147483647 < 2147483647 := Int.emod_lt_of_pos _ (by decide)
  have m5 : mulOk (((c % 2147483647) * (48271 + 2 * k * k) + 69621 * k + 11) % 2147483647) 69621 = true := mulOk_of (a := 32) (b := 20) (by omega) (by decide) (by decide) (by decide) (by decide)
  simp [F__law_mixed, defF, startE, endOf, m1, m2, m3, m4, m5, mixv]
theorem mixv_lt (c k : Int) : 0 ≤ mixv c k ∧ mixv c k < 2147483629 := ⟨Int.emod_nonneg _ (by decide), Int.emod_lt_of_pos _ (by decide)⟩
def F__law_back : List W → T W := defF 3 2 (sRet (f2 ixW (fComp [2] (iL rng2 (fCons (fun _ => .ok (.int 1)) (fCons (gV 0) fNil))) (goName 2) (fBl (f2 eqS (f2 modW (fL (fCons (f2 mulW (gV 2) (gV 1)) fNil) intW) (gV 0)) (fun _ => .ok (.int 1)))) (gV 2)) (fun _ => .ok (.int 0))))
def F__law_value : List W → T W := defF 6 3 (sSeq (sAsg (fL (fCons (fun _ => .ok (.int 0)) (fCons (fun _ => .ok (.int 1)) fNil)) mkTup) (goTup 2 (goCons (goName 3) (goCons (goName 4) goNil)))) (sSeq (sFor (iOf tupW (gV 1)) (goName 5) (sPar 3 4 (fCons (f2 addW (gV 3) (f2 mulW (gV 5) (gV 4))) (fCons (f2 mulW (gV 4) (gV 2)) fNil)))) (sRet (f2 modW (fL (fCons (gV 3) fNil) intW) (gV 0)))))
def F__law_between : List W → T W := defF 10 3 (sSeq (sSet 3 (fun _ => .ok (.int 0))) (sSeq (sFor (iOf lstW (gV 1)) (goTup 2 (goCons (goName 4) (goCons (goName 5) goNil))) (sSeq (sPar 6 7 (fCons (gV 5) (fCons (fun _ => .ok (.int 1)) fNil))) (sSeq (sFor (iOf lstW (gV 1)) (goTup 2 (goCons (goName 8) (goCons (goName 9) goNil))) (sIf (fBl (f2 neS (gV 8) (gV 4))) (sPar 6 7 (fCons (f2 mulW (gV 6) (f2 subW (gV 2) (gV 8))) (fCons (f2 mulW (gV 7) (f2 subW (gV 4) (gV 8))) fNil))) sNil)) (sSet 3 (f2 addW (gV 3) (f2 mulW (gV 6) (fL (fCons (gV 0) (fCons (f2 modW (fL (fCons (gV 7) fNil) intW) (gV 0)) fNil)) F__law_back))))))) (sRet (f2 modW (fL (fCons (gV 3) fNil) intW) (gV 0)))))
def F__law_needs : List W → T W := defF 4 1 (sSeq (sSet 1 (fL fNil mkLst)) (sSeq (sFor (iL enT (fCons (gV 0) fNil)) (goTup 2 (goCons (goName 2) (goCons (goName 3) goNil))) (sSet 1 (f2 addW (gV 1) (f2 mulL (fL (fCons (f2 addW (gV 2) (fun _ => .ok (.int 1))) fNil) mkLst) (gV 3))))) (sRet (gV 1))))
def F__law_stair : List W → T W := defF 5 1 (sSeq (sOwnPar 1 2 (fCons (fun _ => .ok (.int 0)) fNil)) (sSeq (sFor (iL enT (fCons (gV 0) fNil)) (goTup 2 (goCons (goName 3) (goCons (goName 4) goNil))) (sSeq (sSet 2 (f2 addW (gV 2) (f2 mulW (f2 addW (gV 3) (fun _ => .ok (.int 1))) (gV 4)))) (sApp 1 (fCons (gV 2) fNil)))) (onFrz 1 (sRet (fL (fCons (gV 1) fNil) tupOfW)))))
def F__law_letters : List W → T W := defF 9 3 (sSeq (sOwnPar 3 4 (fCons (fun _ => .ok (.int 0)) fNil)) (sSeq (sFor (iOf lstW (fL (fCons (gV 1) fNil) F__law_needs)) (goName 5) (sSeq (sApp 3 (fCons (fSl (gV 2) (pSome (gV 4)) (pSome (f2 addW (gV 4) (gV 5)))) fNil)) (sSet 4 (f2 addW (gV 4) (gV 5))))) (sSeq (sOwn 6 fNil) (sSeq (sFor (iL rng1 (fCons (fL (fCons (gV 1) fNil) lenW) fNil)) (goName 7) (onFrz 3 (sApp 6 (fCons (fL (fCons (fComp [8] (iOf lstW (gV 3)) (goName 8) fYes (fL (fCons (gV 0) (fCons (gV 8) (fCons (f2 addW (gV 7) (fun _ => .ok (.int 1))) fNil))) F__law_value)) fNil) tupOfW) fNil)))) (onFrz 6 (sRet (fL (fCons (gV 6) fNil) tupOfW)))))))
def F__law_prime : List W → T W := defF 1 1 (sRet (f2 ixW (fL (fCons (fun _ => .ok (.int 11)) (fCons (fun _ => .ok (.int 13)) (fCons (fun _ => .ok (.int 17)) (fCons (fun _ => .ok (.int 19)) (fCons (fun _ => .ok (.int 23)) fNil))))) mkLst) (fL (fCons (gV 0) (fCons (fun _ => .ok (.int 5)) fNil)) F__law_draw)))
def F__law_shares : List W → T W := defF 6 2 (sSeq (sOwnPar 2 3 (fCons (f2 ixW (fL (fCons (fun _ => .ok (.int 2)) (fCons (fun _ => .ok (.int 5)) (fCons (fun _ => .ok (.int 12)) fNil))) mkLst) (fL (fCons (gV 0) (fCons (fun _ => .ok (.int 3)) fNil)) F__law_draw)) fNil)) (sSeq (sFor (iL rng1 (fCons (f2 addW (fun _ => .ok (.int 1)) (fL (fCons (gV 0) (fCons (gV 1) fNil)) F__law_draw)) fNil)) (goName 4) (sSeq (sSet 5 (fIf (fBl (f2 gtW (fL (fCons (gV 0) (fCons (fun _ => .ok (.int 3)) fNil)) F__law_draw) (fun _ => .ok (.int 0)))) (fL (fCons (gV 0) (fCons (f2 addW (fun _ => .ok (.int 1)) (fL (fCons (fun _ => .ok (.int 6)) (fCons (gV 3) fNil)) minW)) fNil)) F__law_draw) (fun _ => .ok (.int 0)))) (sSeq (sApp 2 (fCons (gV 5) fNil)) (sSet 3 (f2 subW (gV 3) (gV 5)))))) (onFrz 2 (sRet (fL (fCons (gV 2) fNil) tupOfW)))))
def F__law_message : List W → T W := defF 4 3 (sRet (fL (fCons (fComp [3] (iL rng1 (fCons (gV 2) fNil)) (goName 3) fYes (fL (fCons (gV 0) (fCons (gV 1) fNil)) F__law_draw)) fNil) tupOfW))
def F__law_lot : List W → T W := defF 3 2 (sRet (fL (fCons (fComp [2] (iL rng1 (fCons (gV 1) fNil)) (goName 2) (fBl (f2 eqS (fL (fCons (gV 0) (fCons (fun _ => .ok (.int 2)) fNil)) F__law_draw) (fun _ => .ok (.int 0)))) (gV 2)) fNil) tupOfW))
def N__law_heard : List Nat := [11]
def H__law_heard : List Hd := [⟨(fun n => [11].contains n), some 2, (hL (hCons (hF 0) hNil) mkLst)⟩]
def L__law_heard (fb : En → T W) : En → T W := fHear wrI N__law_heard H__law_heard fb
def F__law_fits : List W → T W := defF 6 3 (sSeq (sSet 3 (fSl (gV 1) pNo (pSome (gV 2)))) (sRet (f2 eqS (fComp [4, 5] (iOf lstW (fSl (gV 1) (pSome (gV 2)) pNo)) (goTup 2 (goCons (goName 4) (goCons (goName 5) goNil))) (fBl (f2 neS (fL (fCons (gV 0) (fCons (gV 3) (fCons (gV 4) fNil))) F__law_between) (gV 5))) (fun _ => .ok (.int 1))) (fL fNil mkLst))))
def F__law_unfit : List W → T W := defF 8 3 (sSeq (sOwnD 3) (sSeq (sFor (iL enL (fCons (fL (fCons (gV 1) fNil) F__law_needs) fNil)) (goTup 2 (goCons (goName 4) (goCons (goName 5) goNil))) (sIf (fNot (fTru (fL (fCons (gV 0) (fCons (fComp [6, 7] (iOf tupW (gV 2)) (goTup 2 (goCons (goName 6) (goCons (goName 7) goNil))) fYes (fL (fCons (f2 addW (gV 6) (fun _ => .ok (.int 1))) (fCons (f2 ixW (gV 7) (gV 4)) fNil)) mkTup)) (fCons (gV 5) fNil))) F__law_fits))) (sDPutO 3 (gV 5) (fun _ => .ok (.bl true))) sNil)) (onFrz 3 (sRet (fL (fCons (gV 3) fNil) sortedD)))))
def F__law_altered : List W → T W := defF 8 3 (sSeq (sOwn 3 fNil) (sSeq (sFor (iOf tupW (gV 2)) (goTup 2 (goCons (goName 4) (goCons (goName 5) goNil))) (sSeq (sOwnOf 6 (gV 5)) (sSeq (sIf (onFrzN 6 (fAnd (fBl (f2 neS (gV 6) (fL fNil mkLst))) (fBl (f2 eqS (fL (fCons (gV 0) (fCons (fun _ => .ok (.int 3)) fNil)) F__law_draw) (fun _ => .ok (.int 0)))))) (sSeq (sSet 7 (fL (fCons (gV 0) (fCons (fun ρ => (onFrzN 6 (fL (fCons (gV 6) fNil) lenW) ρ).bind flat) fNil)) F__law_draw)) (sAt 6 (gV 7) (f2 modW (fL (fCons (f2 addW (f2 addW (fun ρ => (onFrzN 6 (f2 ixW (gV 6) (gV 7)) ρ).bind flat) (fun _ => .ok (.int 1))) (fL (fCons (gV 0) (fCons (f2 subW (gV 1) (fun _ => .ok (.int 1))) fNil)) F__law_draw)) fNil) intW) (gV 1)))) sNil) (onFrz 6 (sApp 3 (fCons (fL (fCons (gV 4) (fCons (fL (fCons (gV 6) fNil) tupOfW) fNil)) mkTup) fNil)))))) (onFrz 3 (sRet (fL (fCons (gV 3) fNil) tupOfW)))))
def F__law_mail_right : List W → T W := defF 12 3 (sSeq (sSet 3 (fL (fCons (gV 0) (fCons (gV 1) (fCons (gV 2) fNil))) F__law_unfit)) (sSeq (sFor (iL rng1 (fCons (fun _ => .ok (.int 2)) fNil)) (goName 4) (sSeq (sIf (fOr (fBl (f2 neS (fL (fCons (gV 0) (fCons (gV 1) (fCons (gV 2) fNil))) F_need_mail) (gV 2))) (fBl (f2 neS (fL (fCons (gV 0) (fCons (gV 1) (fCons (gV 2) fNil))) F_unfit_needs) (fL (fCons (gV 3) fNil) tupOfW)))) (sRet (fun _ => .ok (.bl false))) sNil) (sFor (iL rng2 (fCons (fun _ => .ok (.int 1)) (fCons (f2 addW (fL (fCons (gV 1) fNil) lenW) (fun _ => .ok (.int 1))) fNil))) (goName 5) (sSeq (sIf (fBl (f2 neS (fL (fCons (fL (fCons (gV 0) (fCons (gV 1) (fCons (gV 2) (fCons (gV 5) fNil)))) F_does_fit) fNil) reprW) (fL (fCons (f2 ninW (gV 5) (gV 3)) fNil) reprW))) (sRet (fun _ => .ok (.bl false))) sNil) (sIf (fAnd (fBl (f2 leW (fL (fCons (gV 2) fNil) lenW) (gV 5))) (fBl (f2 inW (gV 5) (gV 3)))) (sRet (fun _ => .ok (.bl false))) sNil))))) (sSeq (sSet 6 (L__law_heard (fL (fCons (gV 0) (fCons (gV 1) (fCons (gV 2) fNil))) F_read))) (sSeq (sIf (fBl (f2 neS (gV 3) (fL fNil mkLst))) (sRet (f2 eqS (gV 6) (fL (fCons (f2 ixW (gV 3) (fun _ => .ok (.int 0))) fNil) mkLst))) sNil) (sSeq (sSet 7 (f2 addW (fL (fCons (fun _ => .ok (.int 0)) fNil) mkTup) (fL (fCons (gV 1) fNil) F__law_stair))) (sSeq (sIf (fOr (fNot (fTru (f1 (isiW (isOnly "tuple")) (gV 6)))) (fBl (f2 neS (fL (fCons (gV 6) fNil) lenW) (f2 ixW (gV 7) (fL (fCons (gV 2) fNil) lenW))))) (sRet (fun _ => .ok (.bl false))) sNil) (sSeq (sSet 8 (fL (fCons (gV 0) (fCons (gV 1) (fCons (f2 addW (gV 6) (f2 mulTZ (fL (fCons (fun _ => .ok (.int 0)) fNil) mkTup) (f2 subW (f2 ixW (gV 7) (f1 negW (fun _ => .ok (.int 1)))) (fL (fCons (gV 6) fNil) lenW)))) fNil))) F__law_letters)) (sSeq (sFor (iL enL (fCons (fL (fCons (gV 1) fNil) F__law_needs) fNil)) (goTup 2 (goCons (goName 9) (goCons (goName 5) goNil))) (sIf (fBl (f2 leW (gV 5) (fL (fCons (gV 2) fNil) lenW))) (sIf (fBl (f2 neS (fComp [10, 11] (iOf tupW (gV 2)) (goTup 2 (goCons (goName 10) (goCons (goName 11) goNil))) (fBl (f2 neS (f2 ixW (f2 ixW (gV 8) (gV 10)) (gV 9)) (f2 ixW (gV 11) (gV 9)))) (fun _ => .ok (.int 1))) (fL fNil mkLst))) (sRet (fun _ => .ok (.bl false))) sNil) sNil)) (sRet (fun _ => .ok (.bl true)))))))))))
def F__law_message_right : List W → T W := defF 17 3 (sSeq (sSet 3 (f2 addW (fL (fCons (fun _ => .ok (.int 0)) fNil) mkTup) (fL (fCons (gV 2) fNil) F__law_stair))) (sSeq (sSet 4 (fL (fCons (gV 0) (fCons (gV 1) (fCons (f2 ixW (gV 3) (f1 negW (fun _ => .ok (.int 1)))) fNil))) F__law_message)) (sSeq (sSet 5 (fL (fCons (gV 1) (fCons (gV 2) (fCons (gV 4) fNil))) F__law_letters)) (sSeq (sIf (fOr (fBl (f2 neS (fL (fCons (gV 1) (fCons (gV 2) (fCons (gV 4) fNil))) F_letters_of) (gV 5))) (fBl (f2 neS (fL (fCons (gV 1) (fCons (gV 2) (fCons (gV 4) fNil))) F_letters_of) (gV 5)))) (sRet (fun _ => .ok (.bl false))) sNil) (sSeq (sFor (iL rng1 (fCons (fun _ => .ok (.int 5)) fNil)) (goName 6) (sSeq (sSet 7 (fL (fCons (fComp [13] (iOf tupW (fL (fCons (gV 0) (fCons (fL (fCons (gV 2) fNil) lenW) fNil)) F__law_lot)) (goName 13) fYes (fL (fCons (gV 13) (fCons (f2 ixW (gV 5) (gV 13)) fNil)) mkTup)) fNil) tupOfW)) (sSeq (sIf (fBl (f2 neS (fL (fCons (gV 1) (fCons (gV 2) (fCons (gV 7) fNil))) F_read) (fSl (gV 4) pNo (pSome (f2 ixW (gV 3) (fL (fCons (gV 7) fNil) lenW)))))) (sRet (fun _ => .ok (.bl false))) sNil) (sSeq (sSet 8 (fL (fCons (gV 0) (fCons (gV 1) (fCons (gV 7) fNil))) F__law_altered)) (sSeq (sIf (fOr (fNot (fTru (fL (fCons (gV 1) (fCons (gV 2) (fCons (gV 7) fNil))) F__law_mail_right))) (fNot (fTru (fL (fCons (gV 1) (fCons (gV 2) (fCons (gV 8) fNil))) F__law_mail_right)))) (sRet (fun _ => .ok (.bl false))) sNil) (sSeq (sSet 9 (fL (fCons (fComp [13, 14] (iL zpW (fCons (gV 7) (fCons (gV 8) fNil))) (goTup 2 (goCons (goName 13) (goCons (goName 14) goNil))) (fBl (f2 neS (gV 13) (gV 14))) (fun _ => .ok (.int 1))) fNil) lenW)) (sSeq (sSet 10 (fComp [12] (iOf lstW (fL (fCons (gV 2) fNil) F__law_needs)) (goName 12) (fBl (f2 leW (gV 12) (f2 subW (fL (fCons (gV 7) fNil) lenW) (gV 9)))) (gV 12))) (sSeq (sIf (fAnd (fBl (f2 gtW (gV 9) (fun _ => .ok (.int 0)))) (fAnd (fBl (f2 eqS (gV 10) (fL (fCons (gV 2) fNil) F__law_needs))) (fBl (f2 eqS (fL (fCons (gV 1) (fCons (gV 2) (fCons (gV 8) fNil))) F_unfit_needs) (fL fNil mkTup))))) (sRet (fun _ => .ok (.bl false))) sNil) (sSeq (sSet 11 (fL (fCons (fComp [15, 16] (iOf tupW (gV 7)) (goTup 2 (goCons (goName 15) (goCons (goName 16) goNil))) fYes (fL (fCons (gV 15) (fCons (fL (fCons (gV 0) (fCons (gV 1) (fCons (fL (fCons (gV 16) fNil) lenW) fNil))) F__law_message) fNil)) mkTup)) fNil) tupOfW)) (sIf (fNot (fTru (fL (fCons (gV 1) (fCons (gV 2) (fCons (gV 11) fNil))) F__law_mail_right))) (sRet (fun _ => .ok (.bl false))) sNil)))))))))) (sRet (fun _ => .ok (.bl true))))))))
def g_law : En → T (Fl × En) := (sSeq (sFor (iL rng1 (fCons (fun _ => .ok (.int 6)) fNil)) (goName 2) (sIf (fNot (fTru (fL (fCons (gV 1) (fCons (fL (fCons (gV 1) fNil) F__law_prime) (fCons (fL (fCons (gV 1) (fCons (fun _ => .ok (.int 8)) fNil)) F__law_shares) fNil))) F__law_message_right))) (sRet (fun _ => .ok (.bl false))) sNil)) (sSeq (sSet 3 (fL (fCons (fun _ => .ok (.int 0)) (fCons (fun _ => .ok (.int 0)) (fCons (fun _ => .ok (.int 0)) (fCons (fun _ => .ok (.int 0)) (fCons (fun _ => .ok (.int 0)) (fCons (fun _ => .ok (.int 0)) (fCons (fun _ => .ok (.int 6)) (fCons (fun _ => .ok (.int 6)) fNil)))))))) mkTup)) (sSeq (sSet 4 (fL (fCons (fComp [6] (iOf tupW (fL (fCons (fun _ => .ok (.int 1)) (fCons (fun _ => .ok (.int 7)) (fCons (fun _ => .ok (.int 9)) (fCons (fun _ => .ok (.int 5)) (fCons (fun _ => .ok (.int 3)) (fCons (fun _ => .ok (.int 8)) (fCons (fun _ => .ok (.int 6)) (fCons (fun _ => .ok (.int 2)) fNil)))))))) mkTup)) (goName 6) fYes (f2 addW (f2 mulTZ (fL (fCons (fun _ => .ok (.int 0)) fNil) mkTup) (fun _ => .ok (.int 11))) (fL (fCons (gV 6) fNil) mkTup))) fNil) tupOfW)) (sSeq (sIf (fBl (f2 neS (fL (fCons (fun _ => .ok (.int 11)) (fCons (gV 3) (fCons (f2 addW (f2 mulTZ (fL (fCons (fun _ => .ok (.int 0)) fNil) mkTup) (fun _ => .ok (.int 89))) (fL (fCons (fun _ => .ok (.int 1)) fNil) mkTup)) fNil))) F_letters_of) (gV 4))) (sRet (fun _ => .ok (.bl false))) sNil) (sSeq (sSet 4 (fL (fCons (fL (fCons (fun _ => .ok (.int 3)) (fCons (fun _ => .ok (.int 9)) fNil)) mkTup) (fCons (fL (fCons (fun _ => .ok (.int 3)) (fCons (fun _ => .ok (.int 3)) fNil)) mkTup) (fCons (fL (fCons (fun _ => .ok (.int 3)) (fCons (fun _ => .ok (.int 8)) fNil)) mkTup) fNil))) mkTup)) (sSeq (sIf (fOr (fBl (f2 neS (fL (fCons (fun _ => .ok (.int 11)) (fCons (fL (fCons (fun _ => .ok (.int 1)) (fCons (fun _ => .ok (.int 1)) (fCons (fun _ => .ok (.int 0)) fNil))) mkTup) (fCons (fL (fCons (fun _ => .ok (.int 3)) (fCons (fun _ => .ok (.int 4)) (fCons (fun _ => .ok (.int 5)) fNil))) mkTup) fNil))) F_letters_of) (gV 4))) (fBl (f2 neS (fL (fCons (fun _ => .ok (.int 11)) (fCons (fL (fCons (fun _ => .ok (.int 1)) (fCons (fun _ => .ok (.int 1)) (fCons (fun _ => .ok (.int 0)) fNil))) mkTup) (fCons (fL (fCons (fL (fCons (fun _ => .ok (.int 1)) (fCons (fL (fCons (fun _ => .ok (.int 3)) (fCons (fun _ => .ok (.int 3)) fNil)) mkTup) fNil)) mkTup) fNil) mkTup) fNil))) F_read) (fL (fCons (fun _ => .ok (.int 3)) fNil) mkTup)))) (sRet (fun _ => .ok (.bl false))) sNil) (sSeq (sIf (fOr (fBl (f2 neS (fL (fCons (fun _ => .ok (.int 11)) (fCons (fL (fCons (fun _ => .ok (.int 1)) (fCons (fun _ => .ok (.int 1)) (fCons (fun _ => .ok (.int 0)) fNil))) mkTup) (fCons (fL (fCons (fL (fCons (fun _ => .ok (.int 0)) (fCons (fL (fCons (fun _ => .ok (.int 3)) (fCons (fun _ => .ok (.int 9)) fNil)) mkTup) fNil)) mkTup) (fCons (fL (fCons (fun _ => .ok (.int 2)) (fCons (fL (fCons (fun _ => .ok (.int 3)) (fCons (fun _ => .ok (.int 8)) fNil)) mkTup) fNil)) mkTup) fNil)) mkTup) fNil))) F_read) (fL (fCons (fun _ => .ok (.int 3)) (fCons (fun _ => .ok (.int 4)) (fCons (fun _ => .ok (.int 5)) fNil))) mkTup))) (fBl (f2 neS (fL (fCons (fun _ => .ok (.int 11)) (fCons (fL (fCons (fun _ => .ok (.int 1)) (fCons (fun _ => .ok (.int 1)) (fCons (fun _ => .ok (.int 0)) fNil))) mkTup) (fCons (fL fNil mkTup) fNil))) F_read) (fL fNil mkTup)))) (sRet (fun _ => .ok (.bl false))) sNil) (sSeq (sSet 5 (fL (fCons (fL (fCons (fun _ => .ok (.int 0)) (fCons (fL (fCons (fun _ => .ok (.int 3)) (fCons (fun _ => .ok (.int 9)) fNil)) mkTup) fNil)) mkTup) (fCons (fL (fCons (fun _ => .ok (.int 1)) (fCons (fL (fCons (fun _ => .ok (.int 3)) (fCons (fun _ => .ok (.int 3)) fNil)) mkTup) fNil)) mkTup) (fCons (fL (fCons (fun _ => .ok (.int 2)) (fCons (fL (fCons (fun _ => .ok (.int 4)) (fCons (fun _ => .ok (.int 7)) fNil)) mkTup) fNil)) mkTup) fNil))) mkTup)) (sRet (fAndV (f2 eqS (fL (fCons (fun _ => .ok (.int 11)) (fCons (fL (fCons (fun _ => .ok (.int 1)) (fCons (fun _ => .ok (.int 1)) (fCons (fun _ => .ok (.int 0)) fNil))) mkTup) (fCons (gV 5) fNil))) F_unfit_needs) (fL (fCons (fun _ => .ok (.int 1)) (fCons (fun _ => .ok (.int 2)) fNil)) mkTup)) (f2 eqS (L__law_heard (fL (fCons (fun _ => .ok (.int 11)) (fCons (fL (fCons (fun _ => .ok (.int 1)) (fCons (fun _ => .ok (.int 1)) (fCons (fun _ => .ok (.int 0)) fNil))) mkTup) (fCons (gV 5) fNil))) F_read)) (fL (fCons (fun _ => .ok (.int 1)) fNil) mkLst))))))))))))
end Lw
namespace Lw
open PySem PySem.Spec PyProof.Rows L2 PF
def top (i : Nat) : Stmt := PySem.Challenge.pw_nestletters_k05_whole_letters.main.body.getD i (.Pass ⟨0, 0, 0, 0⟩)
abbrev FnP (K : PySem.W.Frag) (x : Str) (st : Stmt) (sc : Scope) (f : Addr) (fd : FuncData) : Prop := FunD K x x (defArgs st) (defBody st) sc [] [] f fd
def sc_is_integer : Scope := ⟨.function, [("thing", .local), ("isinstance", .globalImplicit), ("int", .globalImplicit), ("bool", .globalImplicit)], false, false, (defScope (top 9)).more⟩
def sc_is_between : Scope := ⟨.function, [("thing", .local), ("least", .local), ("most", .local), ("is_integer", .globalImplicit)], false, false, (defScope (top 13)).more⟩
def sc_are_rising : Scope := ⟨.function, [("some", .local), ("all", .globalImplicit), ("zip", .globalImplicit)], false, false, (defScope (top 14)).more⟩
def sc_need_prime : Scope := ⟨.function, [("prime", .local), ("is_integer", .globalImplicit), ("PRIMES", .globalImplicit), ("BadPrime", .globalImplicit)], false, false, (defScope (top 15)).more⟩
def sc_is_sign : Scope := ⟨.function, [("prime", .local), ("thing", .local), ("is_between", .globalImplicit)], false, false, (defScope (top 16)).more⟩
def sc_are_signs : Scope := ⟨.function, [("prime", .cell), ("thing", .local), ("isinstance", .globalImplicit), ("tuple", .globalImplicit), ("all", .globalImplicit)], false, false, (defScope (top 17)).more⟩
def sc_need_message : Scope := ⟨.function, [("prime", .local), ("thing", .local), ("need_prime", .globalImplicit), ("are_signs", .globalImplicit), ("len", .globalImplicit), ("MOST_SIGNS", .globalImplicit), ("BadMessage", .globalImplicit)], false, false, (defScope (top 18)).more⟩
def sc_rest_of : Scope := ⟨.function, [("prime", .local), ("number", .local), ("int", .globalImplicit)], false, false, (defScope (top 19)).more⟩
def sc_value_in : Scope := ⟨.function, [("prime", .local), ("block", .local), ("sign", .local), ("found", .local), ("one", .local), ("rest_of", .globalImplicit)], false, false, (defScope (top 20)).more⟩
def sc_inverse_in : Scope := ⟨.function, [("prime", .cell), ("sign", .cell), ("range", .globalImplicit)], false, false, (defScope (top 21)).more⟩
def sc_times_root : Scope := ⟨.function, [("prime", .local), ("block", .local), ("root", .local), ("found", .local), ("spot", .local), ("one", .local), ("enumerate", .globalImplicit), ("rest_of", .globalImplicit)], false, false, (defScope (top 22)).more⟩
def sc_through_in : Scope := ⟨.function, [("prime", .cell), ("points", .local), ("found", .local), ("one", .local), ("value", .local), ("block", .local), ("bottom", .local), ("other", .local), ("rest", .local), ("factor", .cell), ("len", .globalImplicit), ("times_root", .globalImplicit), ("rest_of", .globalImplicit), ("inverse_in", .globalImplicit), ("zip", .globalImplicit), ("tuple", .globalImplicit)], false, false, (defScope (top 23)).more⟩
def sc_is_laying : Scope := ⟨.function, [("thing", .local), ("isinstance", .globalImplicit), ("tuple", .globalImplicit), ("len", .globalImplicit), ("MOST_LETTERS", .globalImplicit), ("all", .globalImplicit), ("sum", .globalImplicit), ("MOST_ROOM", .globalImplicit)], false, false, (defScope (top 28)).more⟩
def sc_need_laying : Scope := ⟨.function, [("thing", .local), ("is_laying", .globalImplicit), ("BadLaying", .globalImplicit)], false, false, (defScope (top 29)).more⟩
def sc_profile_in : Scope := ⟨.function, [("laying", .local), ("found", .local), ("last", .local), ("spot", .local), ("share", .local), ("enumerate", .globalImplicit)], false, false, (defScope (top 30)).more⟩
def sc_needs_in : Scope := ⟨.function, [("laying", .local), ("found", .local), ("spot", .local), ("share", .local), ("enumerate", .globalImplicit), ("int", .globalImplicit)], false, false, (defScope (top 31)).more⟩
def sc_blocks_in : Scope := ⟨.function, [("laying", .local), ("message", .local), ("found", .local), ("spot", .local), ("need", .local), ("needs_in", .globalImplicit)], false, false, (defScope (top 33)).more⟩
def sc_letters_in : Scope := ⟨.function, [("prime", .cell), ("laying", .local), ("message", .local), ("blocks", .cell), ("blocks_in", .globalImplicit), ("tuple", .globalImplicit), ("range", .globalImplicit), ("len", .globalImplicit)], false, false, (defScope (top 34)).more⟩
def sc_letters_of : Scope := ⟨.function, [("prime", .local), ("laying", .local), ("message", .local), ("need_prime", .globalImplicit), ("need_laying", .globalImplicit), ("need_message", .globalImplicit), ("len", .globalImplicit), ("profile_in", .globalImplicit), ("BadMessage", .globalImplicit), ("letters_in", .globalImplicit)], false, false, (defScope (top 35)).more⟩
def sc_is_pair : Scope := ⟨.function, [("prime", .local), ("laying", .local), ("thing", .local), ("isinstance", .globalImplicit), ("tuple", .globalImplicit), ("len", .globalImplicit), ("is_between", .globalImplicit), ("are_signs", .globalImplicit), ("sum", .globalImplicit)], false, false, (defScope (top 36)).more⟩
def sc_need_mail_of : Scope := ⟨.function, [("prime", .cell), ("laying", .cell), ("thing", .local), ("isinstance", .globalImplicit), ("tuple", .globalImplicit), ("all", .globalImplicit), ("BadMail", .globalImplicit), ("are_rising", .globalImplicit)], false, false, (defScope (top 37)).more⟩
def sc_need_mail : Scope := ⟨.function, [("prime", .local), ("laying", .local), ("thing", .local), ("need_prime", .globalImplicit), ("need_laying", .globalImplicit), ("need_mail_of", .globalImplicit)], false, false, (defScope (top 38)).more⟩
def sc_points_at : Scope := ⟨.function, [("mail", .local), ("place", .cell)], false, false, (defScope (top 39)).more⟩
def sc_fits_at : Scope := ⟨.function, [("prime", .cell), ("mail", .local), ("place", .local), ("need", .local), ("points", .local), ("block", .cell), ("points_at", .globalImplicit), ("len", .globalImplicit), ("through_in", .globalImplicit), ("tuple", .globalImplicit), ("all", .globalImplicit)], false, false, (defScope (top 40)).more⟩
def sc_unfit_in : Scope := ⟨.function, [("prime", .local), ("laying", .local), ("mail", .local), ("found", .local), ("place", .local), ("need", .local), ("enumerate", .globalImplicit), ("needs_in", .globalImplicit), ("fits_at", .globalImplicit), ("sorted", .globalImplicit)], false, false, (defScope (top 41)).more⟩
def sc_does_fit : Scope := ⟨.function, [("prime", .local), ("laying", .local), ("mail", .local), ("need", .local), ("need_mail", .globalImplicit), ("is_between", .globalImplicit), ("len", .globalImplicit), ("BadNumber", .globalImplicit), ("unfit_in", .globalImplicit)], false, false, (defScope (top 42)).more⟩
def sc_unfit_needs : Scope := ⟨.function, [("prime", .local), ("laying", .local), ("mail", .local), ("need_mail", .globalImplicit), ("tuple", .globalImplicit), ("unfit_in", .globalImplicit)], false, false, (defScope (top 43)).more⟩
def sc_read_in : Scope := ⟨.function, [("prime", .local), ("laying", .local), ("mail", .local), ("found", .local), ("place", .local), ("need", .local), ("enumerate", .globalImplicit), ("needs_in", .globalImplicit), ("len", .globalImplicit), ("through_in", .globalImplicit), ("tuple", .globalImplicit), ("points_at", .globalImplicit)], false, false, (defScope (top 44)).more⟩
def sc_read : Scope := ⟨.function, [("prime", .local), ("laying", .local), ("mail", .local), ("unfit", .local), ("need_mail", .globalImplicit), ("unfit_in", .globalImplicit), ("Unsound", .globalImplicit), ("read_in", .globalImplicit)], false, false, (defScope (top 45)).more⟩
def sc__law_mixed : Scope := ⟨.function, [("_law_cell", .local), ("_law_k", .local), ("int", .globalImplicit)], false, false, (defScope (top 47)).more⟩
def sc__law_begin : Scope := ⟨.function, [("_law_script", .local), ("_law_cells", .local), ("list", .globalImplicit)], false, false, (defScope (top 48)).more⟩
def sc__law_draw : Scope := ⟨.function, [("_law_state", .local), ("_law_many", .local), ("_law_at", .local), ("_law_place", .local), ("_law_left", .local), ("_law_number", .local), ("int", .globalImplicit), ("len", .globalImplicit), ("_law_mixed", .globalImplicit)], false, false, (defScope (top 49)).more⟩
def sc__law_of : Scope := ⟨.function, [("_law_state", .local), ("_law_some", .local), ("_law_draw", .globalImplicit), ("len", .globalImplicit)], false, false, (defScope (top 50)).more⟩
def sc__law_back : Scope := ⟨.function, [("_law_prime_so", .cell), ("_law_sign", .cell), ("range", .globalImplicit)], false, false, (defScope (top 51)).more⟩
def sc__law_value : Scope := ⟨.function, [("_law_prime_so", .local), ("_law_block", .local), ("_law_sign", .local), ("_law_got", .local), ("_law_power", .local), ("_law_one", .local), ("int", .globalImplicit)], false, false, (defScope (top 52)).more⟩
def sc__law_between : Scope := ⟨.function, [("_law_prime_so", .local), ("_law_points", .local), ("_law_sign", .local), ("_law_got", .local), ("_law_one", .local), ("_law_height", .local), ("_law_top", .local), ("_law_bottom", .local), ("_law_far", .local), ("_law_rest", .local), ("_law_back", .globalImplicit), ("int", .globalImplicit)], false, false, (defScope (top 53)).more⟩
def sc__law_needs : Scope := ⟨.function, [("_law_shares_here", .local), ("_law_got", .local), ("_law_spot", .local), ("_law_share", .local), ("enumerate", .globalImplicit)], false, false, (defScope (top 54)).more⟩
def sc__law_stair : Scope := ⟨.function, [("_law_shares_here", .local), ("_law_got", .local), ("_law_last", .local), ("_law_spot", .local), ("_law_share", .local), ("enumerate", .globalImplicit), ("tuple", .globalImplicit)], false, false, (defScope (top 55)).more⟩
def sc__law_letters : Scope := ⟨.function, [("_law_prime_so", .cell), ("_law_shares_here", .local), ("_law_message_so", .local), ("_law_blocks", .local), ("_law_at", .local), ("_law_need", .local), ("_law_got", .local), ("_law_spot", .cell), ("_law_needs", .globalImplicit), ("range", .globalImplicit), ("len", .globalImplicit), ("tuple", .globalImplicit)], false, false, (defScope (top 56)).more⟩
def sc__law_prime : Scope := ⟨.function, [("_law_state", .local), ("_law_draw", .globalImplicit)], false, false, (defScope (top 57)).more⟩
def sc__law_shares : Scope := ⟨.function, [("_law_state", .local), ("_law_most", .local), ("_law_got", .local), ("_law_left", .local), ("_law_k", .local), ("_law_share", .local), ("_law_draw", .globalImplicit), ("range", .globalImplicit), ("min", .globalImplicit), ("tuple", .globalImplicit)], false, false, (defScope (top 58)).more⟩
def sc__law_message : Scope := ⟨.function, [("_law_state", .cell), ("_law_prime_so", .cell), ("_law_many", .local), ("tuple", .globalImplicit), ("range", .globalImplicit)], false, false, (defScope (top 59)).more⟩
def sc__law_lot : Scope := ⟨.function, [("_law_state", .cell), ("_law_many", .local), ("tuple", .globalImplicit), ("range", .globalImplicit)], false, false, (defScope (top 60)).more⟩
def sc__law_heard : Scope := ⟨.function, [("_law_deed", .local), ("_law_got", .local), ("e", .local), ("Unsound", .globalImplicit)], false, false, (defScope (top 61)).more⟩
def sc__law_fits : Scope := ⟨.function, [("_law_prime_so", .cell), ("_law_points_so", .local), ("_law_need", .local), ("_law_some", .cell)], false, false, (defScope (top 62)).more⟩
def sc__law_unfit : Scope := ⟨.function, [("_law_prime_so", .local), ("_law_shares_here", .local), ("_law_mail_so", .local), ("_law_got", .local), ("_law_place", .cell), ("_law_need", .local), ("enumerate", .globalImplicit), ("_law_needs", .globalImplicit), ("_law_fits", .globalImplicit), ("sorted", .globalImplicit)], false, false, (defScope (top 63)).more⟩
def sc__law_altered : Scope := ⟨.function, [("_law_state", .local), ("_law_prime_so", .local), ("_law_mail_so", .local), ("_law_got", .local), ("_law_number", .local), ("_law_letter", .local), ("_law_signs", .local), ("_law_at", .local), ("list", .globalImplicit), ("_law_draw", .globalImplicit), ("len", .globalImplicit), ("int", .globalImplicit), ("tuple", .globalImplicit)], false, false, (defScope (top 64)).more⟩
def sc__law_mail_right : Scope := ⟨.function, [("_law_prime_so", .cell), ("_law_shares_here", .cell), ("_law_mail_so", .cell), ("_law_due", .local), ("_law_turn", .local), ("_law_need", .local), ("_law_got", .local), ("_law_whole", .local), ("_law_letters_so", .cell), ("_law_place", .cell), ("_law_unfit", .globalImplicit), ("range", .globalImplicit), ("need_mail", .globalImplicit), ("unfit_needs", .globalImplicit), ("tuple", .globalImplicit), ("len", .globalImplicit), ("repr", .globalImplicit), ("does_fit", .globalImplicit), ("_law_heard", .globalImplicit), ("_law_stair", .globalImplicit), ("isinstance", .globalImplicit), ("_law_letters", .globalImplicit), ("enumerate", .globalImplicit), ("_law_needs", .globalImplicit)], false, false, (defScope (top 65)).more⟩
def sc__law_message_right : Scope := ⟨.function, [("_law_state", .cell), ("_law_prime_so", .cell), ("_law_shares_here", .local), ("_law_whole", .local), ("_law_message_so", .local), ("_law_due", .cell), ("_law_k", .local), ("_law_mail_so", .cell), ("_law_bent", .local), ("_law_changed", .cell), ("_law_fine", .local), ("_law_odd", .local), ("_law_stair", .globalImplicit), ("_law_message", .globalImplicit), ("_law_letters", .globalImplicit), ("letters_of", .globalImplicit), ("range", .globalImplicit), ("tuple", .globalImplicit), ("_law_lot", .globalImplicit), ("len", .globalImplicit), ("read", .globalImplicit), ("_law_altered", .globalImplicit), ("_law_mail_right", .globalImplicit), ("zip", .globalImplicit), ("_law_needs", .globalImplicit), ("unfit_needs", .globalImplicit)], false, false, (defScope (top 66)).more⟩
def sc_law : Scope := ⟨.function, [("_law_script", .local), ("_law_state", .local), ("_law_turn", .local), ("_law_wide", .local), ("_law_due", .local), ("_law_bad", .cell), ("_law_begin", .globalImplicit), ("range", .globalImplicit), ("_law_message_right", .globalImplicit), ("_law_prime", .globalImplicit), ("_law_shares", .globalImplicit), ("tuple", .globalImplicit), ("letters_of", .globalImplicit), ("read", .globalImplicit), ("unfit_needs", .globalImplicit), ("_law_heard", .globalImplicit)], false, false, (defScope (top 67)).more⟩
section
variable {P : Program} {w : World} {K : PySem.W.Frag} {mg : Str → Option Value} {base : Heap}
theorem xi_Unsound {fd : FuncData} (F : FunD K "__init__" "Unsound.__init__" (defArgs (mth (top 7))) (defBody (mth (top 7))) (defScope (mth (top 7))) [] [] (He.ma K (He.ga K (xName 11)) "__init__") fd) (gl : mg (xName 11) = some (.ref (He.ga K (xName 11)))) (xb : XB K (xName 11) "need" "ValueError.__new__" tlV) (g_NestError : mg "NestError" = some (.ref (He.ga K "NestError"))) (b_NestError : ownB K (He.ga K "NestError") "ValueError.__init__" = true) : XIs P w K mg base 11 "ValueError.__new__" tlV := by
  have sc : FnScope ["self", "need"] ["self", "need"] (defScope (mth (top 7))) := ⟨rfl, rfl, rfl, by decide +kernel, rfl, by decide +kernel, by decide +kernel⟩
  exact xb.is rfl gl PySem.F.excBase_ValueError (ini_ok (f := "need") F sc PySem.F.excBase_ValueError PySem.F.store_ValueError (.inl rfl) (.inl rfl) (by decide) (by decide) (fun _ _ _ _ _ _ => ownB_base rfl g_NestError b_NestError handed_VE (by decide)) (fun _ => ⟨_, rfl⟩) (fun _ => rfl) (fun _ => rfl)) (F.bindsN fun _ _ _ _ _ _ us hl => match us, hl with | [_, _], _ => rfl)
theorem ok_is_integer {f : Addr} {fd : FuncData} (F : FnP K "is_integer" (top 9) sc_is_integer f fd) (gl : mg "is_integer" = some (.ref f)) (m_isinstance : mg "isinstance" = none) (m_int : mg "int" = none) (m_bool : mg "bool" = none) : FnGs P w K mg base 1 "is_integer" ["thing"] F_is_integer := by
  have sc : FnScope ["thing"] ["thing"] sc_is_integer := ⟨rfl, rfl, rfl, by decide +kernel, rfl, by decide +kernel, by decide +kernel⟩
  refine ⟨f, fd, fn_trG (k := 0) F sc (fun cdv A outer s H E hcd hgd hr => ?_), gl, F.kp, F.bindsN fun _ _ _ _ _ _ us hl => match us, hl with | [_], _ => rfl⟩
  have tk : Takes (cxOf (L2.CX P w) P w K mg base ["thing"] "is_integer" sc_is_integer f cdv A outer s H E) (wOf E) := takes_of rfl rfl rfl rfl
  exact (trs_one (tr_ret (tr_and (tr_isi isi_int rfl m_isinstance rfl m_int boot_ty_int (tr_var 0)) (tr_one (tr_not (tr_isi isi_bool rfl m_isinstance rfl m_bool boot_ty_bool (tr_var 0)))))))
theorem ok_is_between {f : Addr} {fd : FuncData} (F : FnP K "is_between" (top 13) sc_is_between f fd) (gl : mg "is_between" = some (.ref f)) (h_is_integer : FnGs P w K mg base 1 "is_integer" ["thing"] F_is_integer) : FnGs P w K mg base 2 "is_between" ["thing", "least", "most"] F_is_between := by
  have sc : FnScope ["thing", "least", "most"] ["thing", "least", "most"] sc_is_between := ⟨rfl, rfl, rfl, by decide +kernel, rfl, by decide +kernel, by decide +kernel⟩
  refine ⟨f, fd, fn_trG (k := 1) F sc (fun cdv A outer s H E hcd hgd hr => ?_), gl, F.kp, F.bindsN fun _ _ _ _ _ _ us hl => match us, hl with | [_, _, _], _ => rfl⟩
  have tk : Takes (cxOf (L2.CX P w) P w K mg base ["thing", "least", "most"] "is_between" sc_is_between f cdv A outer s H E) (wOf E) := takes_of rfl rfl rfl rfl
  exact (trs_one (tr_ret (tr_and (tr_callG h_is_integer hgd (hr.mono (by decide)) tk rfl (tra_cons (tr_var 0) tra_nil)) (tr_one (tr_chain op_le op_le sem_le sem_le (tr_var 1) (tr_var 0) (tr_var 2))))))
theorem ok_are_rising {f : Addr} {fd : FuncData} (F : FnP K "are_rising" (top 14) sc_are_rising f fd) (gl : mg "are_rising" = some (.ref f)) (m_all : mg "all" = none) (m_zip : mg "zip" = none) : FnGs P w K mg base 1 "are_rising" ["some"] F_are_rising := by
  have sc : FnScope ["some", "one", "other"] ["some"] sc_are_rising := ⟨rfl, rfl, rfl, by decide +kernel, rfl, by decide +kernel, by decide +kernel⟩
  refine ⟨f, fd, fn_trG (k := 0) F sc (fun cdv A outer s H E hcd hgd hr => ?_), gl, F.kp, F.bindsN fun _ _ _ _ _ _ us hl => match us, hl with | [_], _ => rfl⟩
  have tk : Takes (cxOf (L2.CX P w) P w K mg base ["some", "one", "other"] "are_rising" sc_are_rising f cdv A outer s H E) (wOf E) := takes_of rfl rfl rfl rfl
  exact (trs_one (tr_ret (tr_callB (cr_all rfl) sem_all rfl m_all bo_all (tra_cons (tr_lc (own := [("one", 1), ("other", 2)]) rfl sc.nd (tri_zip rfl m_zip (tra_cons (tr_var 0) (tra_cons (tr_slice (tr_var 0) (tro_some tr_int) tro_no) tra_nil))) (blkOk_by (N := ["some", "one", "other"]) (sc := sc_are_rising) (by decide +kernel)) (by decide) (fun _ _ _ _ _ => (trg_tup rfl (trgs_cons (trg_name sc.nd rfl (by first | exact .inl rfl | exact .inr rfl)) (trgs_cons (trg_name sc.nd rfl (by first | exact .inl rfl | exact .inr rfl)) trgs_nil)))) (fun _ _ _ _ _ => trt_nil) (fun _ _ _ _ _ => (tr_cmp op_lt sem_lt (tr_var 1) (tr_var 2) (nomark _)))) tra_nil))))
theorem ok_need_prime {f : Addr} {fd : FuncData} (F : FnP K "need_prime" (top 15) sc_need_prime f fd) (gl : mg "need_prime" = some (.ref f)) (c_PRIMES : CsIs K mg "PRIMES" k_PRIMES) (h_is_integer : FnGs P w K mg base 1 "is_integer" ["thing"] F_is_integer) : FnGs P w K mg base 2 "need_prime" ["prime"] F_need_prime := by
  have sc : FnScope ["prime"] ["prime"] sc_need_prime := ⟨rfl, rfl, rfl, by decide +kernel, rfl, by decide +kernel, by decide +kernel⟩
  refine ⟨f, fd, fn_trG (k := 1) F sc (fun cdv A outer s H E hcd hgd hr => ?_), gl, F.kp, F.bindsN fun _ _ _ _ _ _ us hl => match us, hl with | [_], _ => rfl⟩
  have tk : Takes (cxOf (L2.CX P w) P w K mg base ["prime"] "need_prime" sc_need_prime f cdv A outer s H E) (wOf E) := takes_of rfl rfl rfl rfl
  exact (trs_one (tr_ifs (TrW.toB (trw_or (trb_not (trb_tru (tr_callG h_is_integer hgd (hr.mono (by decide)) tk rfl (tra_cons (tr_var 0) tra_nil)))) (trw_or1 (trb_cmp (op_ninW (Room.units65 hr)) sem_nin (tr_var 0) (tr_cs c_PRIMES rfl) (by with_unfolding_all rfl))))) (trs_one tr_never) trs_nil))
theorem ok_is_sign {f : Addr} {fd : FuncData} (F : FnP K "is_sign" (top 16) sc_is_sign f fd) (gl : mg "is_sign" = some (.ref f)) (h_is_between : FnGs P w K mg base 2 "is_between" ["thing", "least", "most"] F_is_between) : FnGs P w K mg base 3 "is_sign" ["prime", "thing"] F_is_sign := by
  have sc : FnScope ["prime", "thing"] ["prime", "thing"] sc_is_sign := ⟨rfl, rfl, rfl, by decide +kernel, rfl, by decide +kernel, by decide +kernel⟩
  refine ⟨f, fd, fn_trG (k := 2) F sc (fun cdv A outer s H E hcd hgd hr => ?_), gl, F.kp, F.bindsN fun _ _ _ _ _ _ us hl => match us, hl with | [_, _], _ => rfl⟩
  have tk : Takes (cxOf (L2.CX P w) P w K mg base ["prime", "thing"] "is_sign" sc_is_sign f cdv A outer s H E) (wOf E) := takes_of rfl rfl rfl rfl
  exact (trs_one (tr_ret (tr_callG h_is_between hgd (hr.mono (by decide)) tk rfl (tra_cons (tr_var 1) (tra_cons tr_int (tra_cons (tr_op op_sub sem_sub (tr_var 0) tr_int) tra_nil))))))
theorem ok_are_signs {f : Addr} {fd : FuncData} (F : FnP K "are_signs" (top 17) sc_are_signs f fd) (gl : mg "are_signs" = some (.ref f)) (m_isinstance : mg "isinstance" = none) (m_tuple : mg "tuple" = none) (m_all : mg "all" = none) (h_is_sign : FnGs P w K mg base 3 "is_sign" ["prime", "thing"] F_is_sign) : FnGs P w K mg base 4 "are_signs" ["prime", "thing"] F_are_signs := by
  have sc : FnScope ["prime", "thing", "one"] ["prime", "thing"] sc_are_signs := ⟨rfl, rfl, rfl, by decide +kernel, rfl, by decide +kernel, by decide +kernel⟩
  refine ⟨f, fd, fn_trG (k := 3) F sc (fun cdv A outer s H E hcd hgd hr => ?_), gl, F.kp, F.bindsN fun _ _ _ _ _ _ us hl => match us, hl with | [_, _], _ => rfl⟩
  have tk : Takes (cxOf (L2.CX P w) P w K mg base ["prime", "thing", "one"] "are_signs" sc_are_signs f cdv A outer s H E) (wOf E) := takes_of rfl rfl rfl rfl
  exact (trs_one (tr_ret (tr_and (tr_isi isi_tuple rfl m_isinstance rfl m_tuple boot_ty_tuple (tr_var 1)) (tr_one (tr_callB (cr_all rfl) sem_all rfl m_all bo_all (tra_cons (tr_lc (own := [("one", 2)]) rfl sc.nd (tri_tup (tr_var 1)) (blkOk_by (N := ["prime", "thing", "one"]) (sc := sc_are_signs) (by decide +kernel)) (by decide) (fun _ _ _ _ _ => (trg_name sc.nd rfl (by first | exact .inl rfl | exact .inr rfl))) (fun _ _ _ _ _ => trt_nil) (fun _ _ _ _ _ => (tr_callG h_is_sign hgd (hr.mono (by decide)) takes0 rfl (tra_cons (tr_var 0) (tra_cons (tr_var 2) tra_nil))))) tra_nil))))))
theorem ok_need_message {f : Addr} {fd : FuncData} (F : FnP K "need_message" (top 18) sc_need_message f fd) (gl : mg "need_message" = some (.ref f)) (m_len : mg "len" = none) (c_MOST_SIGNS : CsIs K mg "MOST_SIGNS" k_MOST_SIGNS) (h_need_prime : FnGs P w K mg base 2 "need_prime" ["prime"] F_need_prime) (h_are_signs : FnGs P w K mg base 4 "are_signs" ["prime", "thing"] F_are_signs) : FnGs P w K mg base 5 "need_message" ["prime", "thing"] F_need_message := by
  have sc : FnScope ["prime", "thing"] ["prime", "thing"] sc_need_message := ⟨rfl, rfl, rfl, by decide +kernel, rfl, by decide +kernel, by decide +kernel⟩
  refine ⟨f, fd, fn_trG (k := 4) F sc (fun cdv A outer s H E hcd hgd hr => ?_), gl, F.kp, F.bindsN fun _ _ _ _ _ _ us hl => match us, hl with | [_, _], _ => rfl⟩
  have tk : Takes (cxOf (L2.CX P w) P w K mg base ["prime", "thing"] "need_message" sc_need_message f cdv A outer s H E) (wOf E) := takes_of rfl rfl rfl rfl
  exact (trs_cons (tr_expr (tr_callG h_need_prime hgd (hr.mono (by decide)) tk rfl (tra_cons (tr_var 0) tra_nil))) (trs_cons (tr_ifs (TrW.toB (trw_or (trb_not (trb_tru (tr_callG h_are_signs hgd (hr.mono (by decide)) tk rfl (tra_cons (tr_var 0) (tra_cons (tr_var 1) tra_nil))))) (trw_or1 (trb_cmp op_gt sem_gt (tr_callB call_len sem_len rfl m_len bo_len (tra_cons (tr_var 1) tra_nil)) (tr_cs c_MOST_SIGNS rfl) (nomark _))))) (trs_one tr_never) trs_nil) (trs_one (tr_ret (tr_var 1)))))
theorem ok_rest_of {f : Addr} {fd : FuncData} (F : FnP K "rest_of" (top 19) sc_rest_of f fd) (gl : mg "rest_of" = some (.ref f)) (m_int : mg "int" = none) : FnGs P w K mg base 1 "rest_of" ["prime", "number"] F_rest_of := by
  have sc : FnScope ["prime", "number"] ["prime", "number"] sc_rest_of := ⟨rfl, rfl, rfl, by decide +kernel, rfl, by decide +kernel, by decide +kernel⟩
  refine ⟨f, fd, fn_trG (k := 0) F sc (fun cdv A outer s H E hcd hgd hr => ?_), gl, F.kp, F.bindsN fun _ _ _ _ _ _ us hl => match us, hl with | [_, _], _ => rfl⟩
  have tk : Takes (cxOf (L2.CX P w) P w K mg base ["prime", "number"] "rest_of" sc_rest_of f cdv A outer s H E) (wOf E) := takes_of rfl rfl rfl rfl
  exact (trs_one (tr_ret (tr_op op_mod sem_mod (tr_callTy call_int1 sem_int1 rfl m_int bo_int (tra_cons (tr_var 1) tra_nil)) (tr_var 0))))
theorem ok_value_in {f : Addr} {fd : FuncData} (F : FnP K "value_in" (top 20) sc_value_in f fd) (gl : mg "value_in" = some (.ref f)) (h_rest_of : FnGs P w K mg base 1 "rest_of" ["prime", "number"] F_rest_of) : FnGs P w K mg base 2 "value_in" ["prime", "block", "sign"] F_value_in := by
  have sc : FnScope ["prime", "block", "sign", "found", "one"] ["prime", "block", "sign"] sc_value_in := ⟨rfl, rfl, rfl, by decide +kernel, rfl, by decide +kernel, by decide +kernel⟩
  refine ⟨f, fd, fn_trG (k := 1) F sc (fun cdv A outer s H E hcd hgd hr => ?_), gl, F.kp, F.bindsN fun _ _ _ _ _ _ us hl => match us, hl with | [_, _, _], _ => rfl⟩
  have tk : Takes (cxOf (L2.CX P w) P w K mg base ["prime", "block", "sign", "found", "one"] "value_in" sc_value_in f cdv A outer s H E) (wOf E) := takes_of rfl rfl rfl rfl
  exact (trs_cons (tr_set (i := 3) sc.nd rfl (.inl rfl) tr_int) (trs_cons (tr_for (passes_of rfl) rfl (tri_tup (tr_back (tr_var 1))) (trg_name sc.nd rfl (.inl rfl)) (trs_one (tr_set (i := 3) sc.nd rfl (.inl rfl) (tr_callG h_rest_of hgd (hr.mono (by decide)) tk rfl (tra_cons (tr_var 0) (tra_cons (tr_op op_addW sem_add (tr_op op_mulW sem_mul (tr_var 3) (tr_var 2)) (tr_var 4)) tra_nil)))))) (trs_one (tr_ret (tr_var 3)))))
theorem ok_inverse_in {f : Addr} {fd : FuncData} (F : FnP K "inverse_in" (top 21) sc_inverse_in f fd) (gl : mg "inverse_in" = some (.ref f)) (m_range : mg "range" = none) (h_rest_of : FnGs P w K mg base 1 "rest_of" ["prime", "number"] F_rest_of) : FnGs P w K mg base 2 "inverse_in" ["prime", "sign"] F_inverse_in := by
  have sc : FnScope ["prime", "sign", "one"] ["prime", "sign"] sc_inverse_in := ⟨rfl, rfl, rfl, by decide +kernel, rfl, by decide +kernel, by decide +kernel⟩
  refine ⟨f, fd, fn_trG (k := 1) F sc (fun cdv A outer s H E hcd hgd hr => ?_), gl, F.kp, F.bindsN fun _ _ _ _ _ _ us hl => match us, hl with | [_, _], _ => rfl⟩
  have tk : Takes (cxOf (L2.CX P w) P w K mg base ["prime", "sign", "one"] "inverse_in" sc_inverse_in f cdv A outer s H E) (wOf E) := takes_of rfl rfl rfl rfl
  exact (trs_one (tr_ret (tr_ix ix_seq sem_ix (tr_lc (own := [("one", 2)]) rfl sc.nd (tri_rng2 rfl m_range (tra_cons tr_int (tra_cons (tr_var 0) tra_nil))) (blkOk_by (N := ["prime", "sign", "one"]) (sc := sc_inverse_in) (by decide +kernel)) (by decide) (fun _ _ _ _ _ => (trg_name sc.nd rfl (by first | exact .inl rfl | exact .inr rfl))) (fun _ _ _ _ _ => (trt_one (trb_cmp (op_eqS hr.units) sem_eqS (tr_callG h_rest_of hgd (hr.mono (by decide)) takes0 rfl (tra_cons (tr_var 0) (tra_cons (tr_op op_mulW sem_mul (tr_var 2) (tr_var 1)) tra_nil))) tr_int (nomark _)))) (fun _ _ _ _ _ => (tr_var 2))) tr_int)))
theorem ok_times_root {f : Addr} {fd : FuncData} (F : FnP K "times_root" (top 22) sc_times_root f fd) (gl : mg "times_root" = some (.ref f)) (m_enumerate : mg "enumerate" = none) (h_rest_of : FnGs P w K mg base 1 "rest_of" ["prime", "number"] F_rest_of) : FnGs P w K mg base 2 "times_root" ["prime", "block", "root"] F_times_root := by
  have sc : FnScope ["prime", "block", "root", "found", "spot", "one"] ["prime", "block", "root"] sc_times_root := ⟨rfl, rfl, rfl, by decide +kernel, rfl, by decide +kernel, by decide +kernel⟩
  refine ⟨f, fd, fn_trG (k := 1) F sc (fun cdv A outer s H E hcd hgd hr => ?_), gl, F.kp, F.bindsN fun _ _ _ _ _ _ us hl => match us, hl with | [_, _, _], _ => rfl⟩
  have tk : Takes (cxOf (L2.CX P w) P w K mg base ["prime", "block", "root", "found", "spot", "one"] "times_root" sc_times_root f cdv A outer s H E) (wOf E) := takes_of rfl rfl rfl rfl
  exact (trs_cons (tr_own (i := 3) sc.nd rfl (.inl rfl) (tra_cons tr_int (tra_star (tr_var 1) tra_nil))) (trs_cons (tr_for (passes_of rfl) rfl (tri_enL rfl m_enumerate (tra_cons (tr_var 1) tra_nil)) (trg_tup rfl (trgs_cons (trg_name sc.nd rfl (.inl rfl)) (trgs_cons (trg_name sc.nd rfl (.inl rfl)) trgs_nil))) (trs_one (tr_at (pv 3) (tr_var 4) (tr_callG h_rest_of hgd (hr.mono (by decide)) tk rfl (tra_cons (tr_var 0) (tra_cons (tr_op op_sub sem_sub (tre_frz 3 (tr_ix ix_seq sem_ix (tr_var 3) (tr_var 4))) (tr_op op_mulW sem_mul (tr_var 2) (tr_var 5))) tra_nil)))))) (trs_one (tr_frz 3 (tr_ret (tr_var 3))))))
theorem ok_through_in {f : Addr} {fd : FuncData} (F : FnP K "through_in" (top 23) sc_through_in f fd) (gl : mg "through_in" = some (.ref f)) (m_len : mg "len" = none) (m_zip : mg "zip" = none) (m_tuple : mg "tuple" = none) (h_rest_of : FnGs P w K mg base 1 "rest_of" ["prime", "number"] F_rest_of) (h_times_root : FnGs P w K mg base 2 "times_root" ["prime", "block", "root"] F_times_root) (h_inverse_in : FnGs P w K mg base 2 "inverse_in" ["prime", "sign"] F_inverse_in) : FnGs P w K mg base 3 "through_in" ["prime", "points"] F_through_in := by
  have sc : FnScope ["prime", "points", "found", "one", "value", "block", "bottom", "other", "rest", "factor", "near", "far"] ["prime", "points"] sc_through_in := ⟨rfl, rfl, rfl, by decide +kernel, rfl, by decide +kernel, by decide +kernel⟩
  refine ⟨f, fd, fn_trG (k := 2) F sc (fun cdv A outer s H E hcd hgd hr => ?_), gl, F.kp, F.bindsN fun _ _ _ _ _ _ us hl => match us, hl with | [_, _], _ => rfl⟩
  have tk : Takes (cxOf (L2.CX P w) P w K mg base ["prime", "points", "found", "one", "value", "block", "bottom", "other", "rest", "factor", "near", "far"] "through_in" sc_through_in f cdv A outer s H E) (wOf E) := takes_of rfl rfl rfl rfl
  exact (trs_cons (tr_set (i := 2) sc.nd rfl (.inl rfl) (tr_op op_rep sem_mulL (tr_lst (tra_cons tr_int tra_nil)) (tr_callB call_len sem_len rfl m_len bo_len (tra_cons (tr_var 1) tra_nil)))) (trs_cons (tr_for (passes_of rfl) rfl (tri_tup (tr_var 1)) (trg_tup rfl (trgs_cons (trg_name sc.nd rfl (.inl rfl)) (trgs_cons (trg_name sc.nd rfl (.inl rfl)) trgs_nil))) (trs_cons (tr_par (ps_par rfl sc.nd rfl rfl (by decide) rfl rfl (tra_cons (tr_lst (tra_cons tr_int tra_nil)) (tra_cons tr_int tra_nil)) (by rfl))) (trs_cons (tr_for (passes_of rfl) rfl (tri_tup (tr_var 1)) (trg_tup rfl (trgs_cons (trg_name sc.nd rfl (.inl rfl)) (trgs_cons (trg_name sc.nd rfl (.inl rfl)) trgs_nil))) (trs_one (tr_ifs (trb_cmp (op_neS hr.units) sem_neS (tr_var 7) (tr_var 3) (nomark _)) (trs_one (tr_par (ps_par rfl sc.nd rfl rfl (by decide) rfl rfl (tra_cons (tr_callG h_times_root hgd (hr.mono (by decide)) tk rfl (tra_cons (tr_var 0) (tra_cons (tr_var 5) (tra_cons (tr_var 7) tra_nil)))) (tra_cons (tr_callG h_rest_of hgd (hr.mono (by decide)) tk rfl (tra_cons (tr_var 0) (tra_cons (tr_op op_mulW sem_mul (tr_var 6) (tr_op op_sub sem_sub (tr_var 3) (tr_var 7))) tra_nil))) tra_nil)) (by rfl)))) trs_nil))) (trs_cons (tr_set (i := 9) sc.nd rfl (.inr rfl) (tr_callG h_rest_of hgd (hr.mono (by decide)) tk rfl (tra_cons (tr_var 0) (tra_cons (tr_op op_mulW sem_mul (tr_var 4) (tr_callG h_inverse_in hgd (hr.mono (by decide)) tk rfl (tra_cons (tr_var 0) (tra_cons (tr_var 6) tra_nil)))) tra_nil)))) (trs_one (tr_setLc (i := 2) (own := [("near", 10), ("far", 11)]) rfl sc.nd rfl rfl (sw_true rfl rfl rfl (by decide +kernel)) (tri_zip rfl m_zip (tra_cons (tr_var 2) (tra_cons (tr_var 5) tra_nil))) (blkOk_by (N := ["prime", "points", "found", "one", "value", "block", "bottom", "other", "rest", "factor", "near", "far"]) (sc := sc_through_in) (by decide +kernel)) (by decide) (fun _ _ _ _ _ => (trg_tup rfl (trgs_cons (trg_name sc.nd rfl (by first | exact .inl rfl | exact .inr rfl)) (trgs_cons (trg_name sc.nd rfl (by first | exact .inl rfl | exact .inr rfl)) trgs_nil)))) (fun _ _ _ _ _ => trt_nil) (fun _ _ _ _ _ => (tr_callG h_rest_of hgd (hr.mono (by decide)) takes0 rfl (tra_cons (tr_var 0) (tra_cons (tr_op op_addW sem_add (tr_var 10) (tr_op op_mulW sem_mul (tr_var 9) (tr_var 11))) tra_nil)))))))))) (trs_one (tr_ret (tr_callTy call_tuple_of sem_tupOf rfl m_tuple bo_tuple (tra_cons (tr_var 2) tra_nil))))))
theorem ok_is_laying {f : Addr} {fd : FuncData} (F : FnP K "is_laying" (top 28) sc_is_laying f fd) (gl : mg "is_laying" = some (.ref f)) (m_isinstance : mg "isinstance" = none) (m_tuple : mg "tuple" = none) (m_len : mg "len" = none) (m_all : mg "all" = none) (m_sum : mg "sum" = none) (c_MOST_LETTERS : CsIs K mg "MOST_LETTERS" k_MOST_LETTERS) (c_MOST_SHARE : CsIs K mg "MOST_SHARE" k_MOST_SHARE) (c_MOST_ROOM : CsIs K mg "MOST_ROOM" k_MOST_ROOM) (h_is_between : FnGs P w K mg base 2 "is_between" ["thing", "least", "most"] F_is_between) : FnGs P w K mg base 3 "is_laying" ["thing"] F_is_laying := by
  have sc : FnScope ["thing", "share"] ["thing"] sc_is_laying := ⟨rfl, rfl, rfl, by decide +kernel, rfl, by decide +kernel, by decide +kernel⟩
  refine ⟨f, fd, fn_trG (k := 2) F sc (fun cdv A outer s H E hcd hgd hr => ?_), gl, F.kp, F.bindsN fun _ _ _ _ _ _ us hl => match us, hl with | [_], _ => rfl⟩
  have tk : Takes (cxOf (L2.CX P w) P w K mg base ["thing", "share"] "is_laying" sc_is_laying f cdv A outer s H E) (wOf E) := takes_of rfl rfl rfl rfl
  exact (trs_cons (tr_ifs (TrW.toB (trw_or (trb_not (trb_tru (tr_isi isi_tuple rfl m_isinstance rfl m_tuple boot_ty_tuple (tr_var 0)))) (trw_or1 (trb_not (trb_chain op_le op_le sem_le sem_le tr_int (tr_callB call_len sem_len rfl m_len bo_len (tra_cons (tr_var 0) tra_nil)) (tr_cs c_MOST_LETTERS rfl)))))) (trs_one (tr_ret tr_bl)) trs_nil) (trs_one (tr_ret (tr_and (tr_callB (cr_all rfl) sem_all rfl m_all bo_all (tra_cons (tr_lc (own := [("share", 1)]) rfl sc.nd (tri_tup (tr_var 0)) (blkOk_by (N := ["thing", "share"]) (sc := sc_is_laying) (by decide +kernel)) (by decide) (fun _ _ _ _ _ => (trg_name sc.nd rfl (by first | exact .inl rfl | exact .inr rfl))) (fun _ _ _ _ _ => trt_nil) (fun _ _ _ _ _ => (tr_callG h_is_between hgd (hr.mono (by decide)) takes0 rfl (tra_cons (tr_var 1) (tra_cons tr_int (tra_cons (tr_cs c_MOST_SHARE rfl) tra_nil)))))) tra_nil)) (tr_one (tr_cmp op_le sem_le (tr_callB (callR_or (cr_sum rfl) (cr_sumT rfl)) sem_sum rfl m_sum bo_sum (tra_cons (tr_var 0) tra_nil)) (tr_cs c_MOST_ROOM rfl) (nomark _)))))))
theorem ok_need_laying {f : Addr} {fd : FuncData} (F : FnP K "need_laying" (top 29) sc_need_laying f fd) (gl : mg "need_laying" = some (.ref f)) (h_is_laying : FnGs P w K mg base 3 "is_laying" ["thing"] F_is_laying) : FnGs P w K mg base 4 "need_laying" ["thing"] F_need_laying := by
  have sc : FnScope ["thing"] ["thing"] sc_need_laying := ⟨rfl, rfl, rfl, by decide +kernel, rfl, by decide +kernel, by decide +kernel⟩
  refine ⟨f, fd, fn_trG (k := 3) F sc (fun cdv A outer s H E hcd hgd hr => ?_), gl, F.kp, F.bindsN fun _ _ _ _ _ _ us hl => match us, hl with | [_], _ => rfl⟩
  have tk : Takes (cxOf (L2.CX P w) P w K mg base ["thing"] "need_laying" sc_need_laying f cdv A outer s H E) (wOf E) := takes_of rfl rfl rfl rfl
  exact (trs_cons (tr_ifs (trb_not (trb_tru (tr_callG h_is_laying hgd (hr.mono (by decide)) tk rfl (tra_cons (tr_var 0) tra_nil)))) (trs_one tr_never) trs_nil) (trs_one (tr_ret (tr_var 0))))
theorem ok_profile_in {f : Addr} {fd : FuncData} (F : FnP K "profile_in" (top 30) sc_profile_in f fd) (gl : mg "profile_in" = some (.ref f)) (m_enumerate : mg "enumerate" = none) : FnGs P w K mg base 1 "profile_in" ["laying"] F_profile_in := by
  have sc : FnScope ["laying", "found", "last", "spot", "share"] ["laying"] sc_profile_in := ⟨rfl, rfl, rfl, by decide +kernel, rfl, by decide +kernel, by decide +kernel⟩
  refine ⟨f, fd, fn_trG (k := 0) F sc (fun cdv A outer s H E hcd hgd hr => ?_), gl, F.kp, F.bindsN fun _ _ _ _ _ _ us hl => match us, hl with | [_], _ => rfl⟩
  have tk : Takes (cxOf (L2.CX P w) P w K mg base ["laying", "found", "last", "spot", "share"] "profile_in" sc_profile_in f cdv A outer s H E) (wOf E) := takes_of rfl rfl rfl rfl
  exact (trs_cons (tr_ownPar (by decide) (ps_par rfl sc.nd rfl rfl (by decide) rfl rfl (pa_cons (pe_lst pa_nil) (tra_cons tr_int tra_nil)) (by rfl))) (trs_cons (tr_for (passes_of rfl) rfl (tri_enT rfl m_enumerate (tra_cons (tr_var 0) tra_nil)) (trg_tup rfl (trgs_cons (trg_name sc.nd rfl (.inl rfl)) (trgs_cons (trg_name sc.nd rfl (.inl rfl)) trgs_nil))) (trs_cons (tr_set (i := 2) sc.nd rfl (.inl rfl) (tr_op op_addW sem_add (tr_var 2) (tr_op op_mulW sem_mul (tr_op op_addW sem_add (tr_var 3) tr_int) (tr_var 4)))) (trs_one (tr_app (pv 1) (tra_cons (tr_var 2) tra_nil))))) (trs_one (tr_frz 1 (tr_ret (tr_var 1))))))
theorem ok_needs_in {f : Addr} {fd : FuncData} (F : FnP K "needs_in" (top 31) sc_needs_in f fd) (gl : mg "needs_in" = some (.ref f)) (m_enumerate : mg "enumerate" = none) (m_int : mg "int" = none) : FnGs P w K mg base 1 "needs_in" ["laying"] F_needs_in := by
  have sc : FnScope ["laying", "found", "spot", "share"] ["laying"] sc_needs_in := ⟨rfl, rfl, rfl, by decide +kernel, rfl, by decide +kernel, by decide +kernel⟩
  refine ⟨f, fd, fn_trG (k := 0) F sc (fun cdv A outer s H E hcd hgd hr => ?_), gl, F.kp, F.bindsN fun _ _ _ _ _ _ us hl => match us, hl with | [_], _ => rfl⟩
  have tk : Takes (cxOf (L2.CX P w) P w K mg base ["laying", "found", "spot", "share"] "needs_in" sc_needs_in f cdv A outer s H E) (wOf E) := takes_of rfl rfl rfl rfl
  exact (trs_cons (tr_set (i := 1) sc.nd rfl (.inl rfl) (tr_lst tra_nil)) (trs_cons (tr_for (passes_of rfl) rfl (tri_enT rfl m_enumerate (tra_cons (tr_var 0) tra_nil)) (trg_tup rfl (trgs_cons (trg_name sc.nd rfl (.inl rfl)) (trgs_cons (trg_name sc.nd rfl (.inl rfl)) trgs_nil))) (trs_one (tr_set (i := 1) sc.nd rfl (.inl rfl) (tr_op op_addW sem_add (tr_var 1) (tr_op op_rep sem_mulL (tr_lst (tra_cons (tr_op op_addW sem_add (tr_var 2) tr_int) tra_nil)) (tr_callTy call_int1 sem_int1 rfl m_int bo_int (tra_cons (tr_var 3) tra_nil))))))) (trs_one (tr_ret (tr_var 1)))))
theorem ok_blocks_in {f : Addr} {fd : FuncData} (F : FnP K "blocks_in" (top 33) sc_blocks_in f fd) (gl : mg "blocks_in" = some (.ref f)) (h_needs_in : FnGs P w K mg base 1 "needs_in" ["laying"] F_needs_in) : FnGs P w K mg base 2 "blocks_in" ["laying", "message"] F_blocks_in := by
  have sc : FnScope ["laying", "message", "found", "spot", "need"] ["laying", "message"] sc_blocks_in := ⟨rfl, rfl, rfl, by decide +kernel, rfl, by decide +kernel, by decide +kernel⟩
  refine ⟨f, fd, fn_trG (k := 1) F sc (fun cdv A outer s H E hcd hgd hr => ?_), gl, F.kp, F.bindsN fun _ _ _ _ _ _ us hl => match us, hl with | [_, _], _ => rfl⟩
  have tk : Takes (cxOf (L2.CX P w) P w K mg base ["laying", "message", "found", "spot", "need"] "blocks_in" sc_blocks_in f cdv A outer s H E) (wOf E) := takes_of rfl rfl rfl rfl
  exact (trs_cons (tr_ownPar (by decide) (ps_par rfl sc.nd rfl rfl (by decide) rfl rfl (pa_cons (pe_lst pa_nil) (tra_cons tr_int tra_nil)) (by rfl))) (trs_cons (tr_for (passes_of rfl) rfl (tri_lst (tr_callG h_needs_in hgd (hr.mono (by decide)) tk rfl (tra_cons (tr_var 0) tra_nil))) (trg_name sc.nd rfl (.inl rfl)) (trs_cons (tr_app (pv 2) (tra_cons (tr_slice (tr_var 1) (tro_some (tr_var 3)) (tro_some (tr_op op_addW sem_add (tr_var 3) (tr_var 4)))) tra_nil)) (trs_one (tr_set (i := 3) sc.nd rfl (.inl rfl) (tr_op op_addW sem_add (tr_var 3) (tr_var 4)))))) (trs_one (tr_frz 2 (tr_ret (tr_var 2))))))
theorem ok_letters_in {f : Addr} {fd : FuncData} (F : FnP K "letters_in" (top 34) sc_letters_in f fd) (gl : mg "letters_in" = some (.ref f)) (m_tuple : mg "tuple" = none) (m_range : mg "range" = none) (m_len : mg "len" = none) (h_blocks_in : FnGs P w K mg base 2 "blocks_in" ["laying", "message"] F_blocks_in) (h_value_in : FnGs P w K mg base 2 "value_in" ["prime", "block", "sign"] F_value_in) : FnGs P w K mg base 3 "letters_in" ["prime", "laying", "message"] F_letters_in := by
  have sc : FnScope ["prime", "laying", "message", "blocks", "spot", "block"] ["prime", "laying", "message"] sc_letters_in := ⟨rfl, rfl, rfl, by decide +kernel, rfl, by decide +kernel, by decide +kernel⟩
  refine ⟨f, fd, fn_trG (k := 2) F sc (fun cdv A outer s H E hcd hgd hr => ?_), gl, F.kp, F.bindsN fun _ _ _ _ _ _ us hl => match us, hl with | [_, _, _], _ => rfl⟩
  have tk : Takes (cxOf (L2.CX P w) P w K mg base ["prime", "laying", "message", "blocks", "spot", "block"] "letters_in" sc_letters_in f cdv A outer s H E) (wOf E) := takes_of rfl rfl rfl rfl
  exact (trs_cons (tr_set (i := 3) sc.nd rfl (.inr rfl) (tr_callG h_blocks_in hgd (hr.mono (by decide)) tk rfl (tra_cons (tr_var 1) (tra_cons (tr_var 2) tra_nil)))) (trs_one (tr_ret (tr_callTy call_tuple_of sem_tupOf rfl m_tuple bo_tuple (tra_cons (tr_lc (own := [("spot", 4)]) rfl sc.nd (tri_rng1 rfl m_range (tra_cons (tr_callB call_len sem_len rfl m_len bo_len (tra_cons (tr_var 1) tra_nil)) tra_nil)) (blkOk_by (N := ["prime", "laying", "message", "blocks", "spot", "block"]) (sc := sc_letters_in) (by decide +kernel)) (by decide) (fun _ _ _ _ _ => (trg_name sc.nd rfl (by first | exact .inl rfl | exact .inr rfl))) (fun _ _ _ _ _ => trt_nil) (fun _ _ _ _ _ => (tr_callTy call_tuple_of sem_tupOf rfl m_tuple bo_tuple (tra_cons (tr_lc (own := [("block", 5)]) rfl sc.nd (tri_lst (tr_var 3)) (blkOk_by (by kernel_rfl)) (by decide) (fun _ _ _ _ _ => (trg_name sc.nd rfl (by first | exact .inl rfl | exact .inr rfl))) (fun _ _ _ _ _ => trt_nil) (fun _ _ _ _ _ => (tr_callG h_value_in hgd (hr.mono (by decide)) takes0 rfl (tra_cons (tr_var 0) (tra_cons (tr_var 5) (tra_cons (tr_op op_addW sem_add (tr_var 4) tr_int) tra_nil)))))) tra_nil)))) tra_nil)))))
theorem ok_letters_of {f : Addr} {fd : FuncData} (F : FnP K "letters_of" (top 35) sc_letters_of f fd) (gl : mg "letters_of" = some (.ref f)) (m_len : mg "len" = none) (h_need_prime : FnGs P w K mg base 2 "need_prime" ["prime"] F_need_prime) (h_need_laying : FnGs P w K mg base 4 "need_laying" ["thing"] F_need_laying) (h_need_message : FnGs P w K mg base 5 "need_message" ["prime", "thing"] F_need_message) (h_profile_in : FnGs P w K mg base 1 "profile_in" ["laying"] F_profile_in) (h_letters_in : FnGs P w K mg base 3 "letters_in" ["prime", "laying", "message"] F_letters_in) : FnGs P w K mg base 6 "letters_of" ["prime", "laying", "message"] F_letters_of := by
  have sc : FnScope ["prime", "laying", "message"] ["prime", "laying", "message"] sc_letters_of := ⟨rfl, rfl, rfl, by decide +kernel, rfl, by decide +kernel, by decide +kernel⟩
  refine ⟨f, fd, fn_trG (k := 5) F sc (fun cdv A outer s H E hcd hgd hr => ?_), gl, F.kp, F.bindsN fun _ _ _ _ _ _ us hl => match us, hl with | [_, _, _], _ => rfl⟩
  have tk : Takes (cxOf (L2.CX P w) P w K mg base ["prime", "laying", "message"] "letters_of" sc_letters_of f cdv A outer s H E) (wOf E) := takes_of rfl rfl rfl rfl
  exact (trs_cons (tr_expr (tr_callG h_need_prime hgd (hr.mono (by decide)) tk rfl (tra_cons (tr_var 0) tra_nil))) (trs_cons (tr_expr (tr_callG h_need_laying hgd (hr.mono (by decide)) tk rfl (tra_cons (tr_var 1) tra_nil))) (trs_cons (tr_expr (tr_callG h_need_message hgd (hr.mono (by decide)) tk rfl (tra_cons (tr_var 0) (tra_cons (tr_var 2) tra_nil)))) (trs_cons (tr_ifs (trb_cmp (op_neS hr.units) sem_neS (tr_callB call_len sem_len rfl m_len bo_len (tra_cons (tr_var 2) tra_nil)) (tr_ix ix_seq sem_ix (tr_callG h_profile_in hgd (hr.mono (by decide)) tk rfl (tra_cons (tr_var 1) tra_nil)) (tr_un un_neg sem_neg tr_int)) (nomark _)) (trs_one tr_never) trs_nil) (trs_one (tr_ret (tr_callG h_letters_in hgd (hr.mono (by decide)) tk rfl (tra_cons (tr_var 0) (tra_cons (tr_var 1) (tra_cons (tr_var 2) tra_nil))))))))))
theorem ok_is_pair {f : Addr} {fd : FuncData} (F : FnP K "is_pair" (top 36) sc_is_pair f fd) (gl : mg "is_pair" = some (.ref f)) (m_isinstance : mg "isinstance" = none) (m_tuple : mg "tuple" = none) (m_len : mg "len" = none) (m_sum : mg "sum" = none) (h_is_between : FnGs P w K mg base 2 "is_between" ["thing", "least", "most"] F_is_between) (h_are_signs : FnGs P w K mg base 4 "are_signs" ["prime", "thing"] F_are_signs) : FnGs P w K mg base 5 "is_pair" ["prime", "laying", "thing"] F_is_pair := by
  have sc : FnScope ["prime", "laying", "thing"] ["prime", "laying", "thing"] sc_is_pair := ⟨rfl, rfl, rfl, by decide +kernel, rfl, by decide +kernel, by decide +kernel⟩
  refine ⟨f, fd, fn_trG (k := 4) F sc (fun cdv A outer s H E hcd hgd hr => ?_), gl, F.kp, F.bindsN fun _ _ _ _ _ _ us hl => match us, hl with | [_, _, _], _ => rfl⟩
  have tk : Takes (cxOf (L2.CX P w) P w K mg base ["prime", "laying", "thing"] "is_pair" sc_is_pair f cdv A outer s H E) (wOf E) := takes_of rfl rfl rfl rfl
  exact (trs_cons (tr_ifs (TrW.toB (trw_or (trb_not (trb_tru (tr_isi isi_tuple rfl m_isinstance rfl m_tuple boot_ty_tuple (tr_var 2)))) (trw_or (trb_cmp (op_neS hr.units) sem_neS (tr_callB call_len sem_len rfl m_len bo_len (tra_cons (tr_var 2) tra_nil)) tr_int (nomark _)) (trw_or1 (trb_not (trb_tru (tr_callG h_is_between hgd (hr.mono (by decide)) tk rfl (tra_cons (tr_ix ix_seq sem_ix (tr_var 2) tr_int) (tra_cons tr_int (tra_cons (tr_op op_sub sem_sub (tr_callB call_len sem_len rfl m_len bo_len (tra_cons (tr_var 1) tra_nil)) tr_int) tra_nil)))))))))) (trs_one (tr_ret tr_bl)) trs_nil) (trs_one (tr_ret (tr_and (tr_callG h_are_signs hgd (hr.mono (by decide)) tk rfl (tra_cons (tr_var 0) (tra_cons (tr_ix ix_seq sem_ix (tr_var 2) tr_int) tra_nil))) (tr_one (tr_cmp (op_eqS hr.units) sem_eqS (tr_callB call_len sem_len rfl m_len bo_len (tra_cons (tr_ix ix_seq sem_ix (tr_var 2) tr_int) tra_nil)) (tr_callB (callR_or (cr_sum rfl) (cr_sumT rfl)) sem_sum rfl m_sum bo_sum (tra_cons (tr_var 1) tra_nil)) (nomark _)))))))
theorem ok_need_mail_of {f : Addr} {fd : FuncData} (F : FnP K "need_mail_of" (top 37) sc_need_mail_of f fd) (gl : mg "need_mail_of" = some (.ref f)) (m_isinstance : mg "isinstance" = none) (m_tuple : mg "tuple" = none) (m_all : mg "all" = none) (h_is_pair : FnGs P w K mg base 5 "is_pair" ["prime", "laying", "thing"] F_is_pair) (h_are_rising : FnGs P w K mg base 1 "are_rising" ["some"] F_are_rising) : FnGs P w K mg base 6 "need_mail_of" ["prime", "laying", "thing"] F_need_mail_of := by
  have sc : FnScope ["prime", "laying", "thing", "pair"] ["prime", "laying", "thing"] sc_need_mail_of := ⟨rfl, rfl, rfl, by decide +kernel, rfl, by decide +kernel, by decide +kernel⟩
  refine ⟨f, fd, fn_trG (k := 5) F sc (fun cdv A outer s H E hcd hgd hr => ?_), gl, F.kp, F.bindsN fun _ _ _ _ _ _ us hl => match us, hl with | [_, _, _], _ => rfl⟩
  have tk : Takes (cxOf (L2.CX P w) P w K mg base ["prime", "laying", "thing", "pair"] "need_mail_of" sc_need_mail_of f cdv A outer s H E) (wOf E) := takes_of rfl rfl rfl rfl
  exact (trs_cons (tr_ifs (TrW.toB (trw_or (trb_not (trb_tru (tr_isi isi_tuple rfl m_isinstance rfl m_tuple boot_ty_tuple (tr_var 2)))) (trw_or1 (trb_not (trb_tru (tr_callB (cr_all rfl) sem_all rfl m_all bo_all (tra_cons (tr_lc (own := [("pair", 3)]) rfl sc.nd (tri_tup (tr_var 2)) (blkOk_by (N := ["prime", "laying", "thing", "pair"]) (sc := sc_need_mail_of) (by decide +kernel)) (by decide) (fun _ _ _ _ _ => (trg_name sc.nd rfl (by first | exact .inl rfl | exact .inr rfl))) (fun _ _ _ _ _ => trt_nil) (fun _ _ _ _ _ => (tr_callG h_is_pair hgd (hr.mono (by decide)) takes0 rfl (tra_cons (tr_var 0) (tra_cons (tr_var 1) (tra_cons (tr_var 3) tra_nil)))))) tra_nil))))))) (trs_one tr_never) trs_nil) (trs_one (tr_ifs (trb_not (trb_tru (tr_callG h_are_rising hgd (hr.mono (by decide)) tk rfl (tra_cons (tr_lc (own := [("pair", 3)]) rfl sc.nd (tri_tup (tr_var 2)) (blkOk_by (N := ["prime", "laying", "thing", "pair"]) (sc := sc_need_mail_of) (by decide +kernel)) (by decide) (fun _ _ _ _ _ => (trg_name sc.nd rfl (by first | exact .inl rfl | exact .inr rfl))) (fun _ _ _ _ _ => trt_nil) (fun _ _ _ _ _ => (tr_ix ix_seq sem_ix (tr_var 3) tr_int))) tra_nil)))) (trs_one tr_never) trs_nil)))
theorem ok_need_mail {f : Addr} {fd : FuncData} (F : FnP K "need_mail" (top 38) sc_need_mail f fd) (gl : mg "need_mail" = some (.ref f)) (h_need_prime : FnGs P w K mg base 2 "need_prime" ["prime"] F_need_prime) (h_need_laying : FnGs P w K mg base 4 "need_laying" ["thing"] F_need_laying) (h_need_mail_of : FnGs P w K mg base 6 "need_mail_of" ["prime", "laying", "thing"] F_need_mail_of) : FnGs P w K mg base 7 "need_mail" ["prime", "laying", "thing"] F_need_mail := by
  have sc : FnScope ["prime", "laying", "thing"] ["prime", "laying", "thing"] sc_need_mail := ⟨rfl, rfl, rfl, by decide +kernel, rfl, by decide +kernel, by decide +kernel⟩
  refine ⟨f, fd, fn_trG (k := 6) F sc (fun cdv A outer s H E hcd hgd hr => ?_), gl, F.kp, F.bindsN fun _ _ _ _ _ _ us hl => match us, hl with | [_, _, _], _ => rfl⟩
  have tk : Takes (cxOf (L2.CX P w) P w K mg base ["prime", "laying", "thing"] "need_mail" sc_need_mail f cdv A outer s H E) (wOf E) := takes_of rfl rfl rfl rfl
  exact (trs_cons (tr_expr (tr_callG h_need_prime hgd (hr.mono (by decide)) tk rfl (tra_cons (tr_var 0) tra_nil))) (trs_cons (tr_expr (tr_callG h_need_laying hgd (hr.mono (by decide)) tk rfl (tra_cons (tr_var 1) tra_nil))) (trs_cons (tr_expr (tr_callG h_need_mail_of hgd (hr.mono (by decide)) tk rfl (tra_cons (tr_var 0) (tra_cons (tr_var 1) (tra_cons (tr_var 2) tra_nil))))) (trs_one (tr_ret (tr_var 2))))))
theorem ok_points_at {f : Addr} {fd : FuncData} (F : FnP K "points_at" (top 39) sc_points_at f fd) (gl : mg "points_at" = some (.ref f))  : FnGs P w K mg base 1 "points_at" ["mail", "place"] F_points_at := by
  have sc : FnScope ["mail", "place", "number", "letter"] ["mail", "place"] sc_points_at := ⟨rfl, rfl, rfl, by decide +kernel, rfl, by decide +kernel, by decide +kernel⟩
  refine ⟨f, fd, fn_trG (k := 0) F sc (fun cdv A outer s H E hcd hgd hr => ?_), gl, F.kp, F.bindsN fun _ _ _ _ _ _ us hl => match us, hl with | [_, _], _ => rfl⟩
  have tk : Takes (cxOf (L2.CX P w) P w K mg base ["mail", "place", "number", "letter"] "points_at" sc_points_at f cdv A outer s H E) (wOf E) := takes_of rfl rfl rfl rfl
  exact (trs_one (tr_ret (tr_lc (own := [("number", 2), ("letter", 3)]) rfl sc.nd (tri_tup (tr_var 0)) (blkOk_by (N := ["mail", "place", "number", "letter"]) (sc := sc_points_at) (by decide +kernel)) (by decide) (fun _ _ _ _ _ => (trg_tup rfl (trgs_cons (trg_name sc.nd rfl (by first | exact .inl rfl | exact .inr rfl)) (trgs_cons (trg_name sc.nd rfl (by first | exact .inl rfl | exact .inr rfl)) trgs_nil)))) (fun _ _ _ _ _ => trt_nil) (fun _ _ _ _ _ => (tr_tup (tra_cons (tr_op op_addW sem_add (tr_var 2) tr_int) (tra_cons (tr_ix ix_seq sem_ix (tr_var 3) (tr_var 1)) tra_nil)))))))
theorem ok_fits_at {f : Addr} {fd : FuncData} (F : FnP K "fits_at" (top 40) sc_fits_at f fd) (gl : mg "fits_at" = some (.ref f)) (m_len : mg "len" = none) (m_tuple : mg "tuple" = none) (m_all : mg "all" = none) (h_points_at : FnGs P w K mg base 1 "points_at" ["mail", "place"] F_points_at) (h_through_in : FnGs P w K mg base 3 "through_in" ["prime", "points"] F_through_in) (h_value_in : FnGs P w K mg base 2 "value_in" ["prime", "block", "sign"] F_value_in) : FnGs P w K mg base 4 "fits_at" ["prime", "mail", "place", "need"] F_fits_at := by
  have sc : FnScope ["prime", "mail", "place", "need", "points", "block", "sign", "value"] ["prime", "mail", "place", "need"] sc_fits_at := ⟨rfl, rfl, rfl, by decide +kernel, rfl, by decide +kernel, by decide +kernel⟩
  refine ⟨f, fd, fn_trG (k := 3) F sc (fun cdv A outer s H E hcd hgd hr => ?_), gl, F.kp, F.bindsN fun _ _ _ _ _ _ us hl => match us, hl with | [_, _, _, _], _ => rfl⟩
  have tk : Takes (cxOf (L2.CX P w) P w K mg base ["prime", "mail", "place", "need", "points", "block", "sign", "value"] "fits_at" sc_fits_at f cdv A outer s H E) (wOf E) := takes_of rfl rfl rfl rfl
  exact (trs_cons (tr_set (i := 4) sc.nd rfl (.inl rfl) (tr_callG h_points_at hgd (hr.mono (by decide)) tk rfl (tra_cons (tr_var 1) (tra_cons (tr_var 2) tra_nil)))) (trs_cons (tr_ifs (trb_cmp op_le sem_le (tr_callB call_len sem_len rfl m_len bo_len (tra_cons (tr_var 4) tra_nil)) (tr_var 3) (nomark _)) (trs_one (tr_ret tr_bl)) trs_nil) (trs_cons (tr_set (i := 5) sc.nd rfl (.inr rfl) (tr_callG h_through_in hgd (hr.mono (by decide)) tk rfl (tra_cons (tr_var 0) (tra_cons (tr_callTy call_tuple_of sem_tupOf rfl m_tuple bo_tuple (tra_cons (tr_slice (tr_var 4) tro_no (tro_some (tr_var 3))) tra_nil)) tra_nil)))) (trs_one (tr_ret (tr_callB (cr_all rfl) sem_all rfl m_all bo_all (tra_cons (tr_lc (own := [("sign", 6), ("value", 7)]) rfl sc.nd (tri_lst (tr_slice (tr_var 4) (tro_some (tr_var 3)) tro_no)) (blkOk_by (N := ["prime", "mail", "place", "need", "points", "block", "sign", "value"]) (sc := sc_fits_at) (by decide +kernel)) (by decide) (fun _ _ _ _ _ => (trg_tup rfl (trgs_cons (trg_name sc.nd rfl (by first | exact .inl rfl | exact .inr rfl)) (trgs_cons (trg_name sc.nd rfl (by first | exact .inl rfl | exact .inr rfl)) trgs_nil)))) (fun _ _ _ _ _ => trt_nil) (fun _ _ _ _ _ => (tr_cmp (op_eqS hr.units) sem_eqS (tr_callG h_value_in hgd (hr.mono (by decide)) takes0 rfl (tra_cons (tr_var 0) (tra_cons (tr_var 5) (tra_cons (tr_var 6) tra_nil)))) (tr_var 7) (nomark _)))) tra_nil)))))))
theorem ok_unfit_in {f : Addr} {fd : FuncData} (F : FnP K "unfit_in" (top 41) sc_unfit_in f fd) (gl : mg "unfit_in" = some (.ref f)) (m_enumerate : mg "enumerate" = none) (m_sorted : mg "sorted" = none) (h_needs_in : FnGs P w K mg base 1 "needs_in" ["laying"] F_needs_in) (h_fits_at : FnGs P w K mg base 4 "fits_at" ["prime", "mail", "place", "need"] F_fits_at) : FnGs P w K mg base 5 "unfit_in" ["prime", "laying", "mail"] F_unfit_in := by
  have sc : FnScope ["prime", "laying", "mail", "found", "place", "need"] ["prime", "laying", "mail"] sc_unfit_in := ⟨rfl, rfl, rfl, by decide +kernel, rfl, by decide +kernel, by decide +kernel⟩
  refine ⟨f, fd, fn_trG (k := 4) F sc (fun cdv A outer s H E hcd hgd hr => ?_), gl, F.kp, F.bindsN fun _ _ _ _ _ _ us hl => match us, hl with | [_, _, _], _ => rfl⟩
  have tk : Takes (cxOf (L2.CX P w) P w K mg base ["prime", "laying", "mail", "found", "place", "need"] "unfit_in" sc_unfit_in f cdv A outer s H E) (wOf E) := takes_of rfl rfl rfl rfl
  exact (trs_cons (tr_ownD (i := 3) sc.nd rfl (.inl rfl)) (trs_cons (tr_for (passes_of rfl) rfl (tri_enL rfl m_enumerate (tra_cons (tr_callG h_needs_in hgd (hr.mono (by decide)) tk rfl (tra_cons (tr_var 1) tra_nil)) tra_nil)) (trg_tup rfl (trgs_cons (trg_name sc.nd rfl (.inl rfl)) (trgs_cons (trg_name sc.nd rfl (.inl rfl)) trgs_nil))) (trs_one (tr_ifs (trb_not (trb_tru (tr_callG h_fits_at hgd (hr.mono (by decide)) tk rfl (tra_cons (tr_var 0) (tra_cons (tr_var 2) (tra_cons (tr_var 4) (tra_cons (tr_var 5) tra_nil))))))) (trs_one (tr_dput (units1 (Room.units65 hr)) (pv 3) (tr_var 5) tr_bl)) trs_nil))) (trs_one (tr_frz 3 (tr_ret (tr_callB (call_sortedDI rfl) sem_sortedD rfl m_sorted bo_sorted (tra_cons (tr_var 3) tra_nil)))))))
theorem ok_does_fit {f : Addr} {fd : FuncData} (F : FnP K "does_fit" (top 42) sc_does_fit f fd) (gl : mg "does_fit" = some (.ref f)) (m_len : mg "len" = none) (h_need_mail : FnGs P w K mg base 7 "need_mail" ["prime", "laying", "thing"] F_need_mail) (h_is_between : FnGs P w K mg base 2 "is_between" ["thing", "least", "most"] F_is_between) (h_unfit_in : FnGs P w K mg base 5 "unfit_in" ["prime", "laying", "mail"] F_unfit_in) : FnGs P w K mg base 8 "does_fit" ["prime", "laying", "mail", "need"] F_does_fit := by
  have sc : FnScope ["prime", "laying", "mail", "need"] ["prime", "laying", "mail", "need"] sc_does_fit := ⟨rfl, rfl, rfl, by decide +kernel, rfl, by decide +kernel, by decide +kernel⟩
  refine ⟨f, fd, fn_trG (k := 7) F sc (fun cdv A outer s H E hcd hgd hr => ?_), gl, F.kp, F.bindsN fun _ _ _ _ _ _ us hl => match us, hl with | [_, _, _, _], _ => rfl⟩
  have tk : Takes (cxOf (L2.CX P w) P w K mg base ["prime", "laying", "mail", "need"] "does_fit" sc_does_fit f cdv A outer s H E) (wOf E) := takes_of rfl rfl rfl rfl
  exact (trs_cons (tr_expr (tr_callG h_need_mail hgd (hr.mono (by decide)) tk rfl (tra_cons (tr_var 0) (tra_cons (tr_var 1) (tra_cons (tr_var 2) tra_nil))))) (trs_cons (tr_ifs (trb_not (trb_tru (tr_callG h_is_between hgd (hr.mono (by decide)) tk rfl (tra_cons (tr_var 3) (tra_cons tr_int (tra_cons (tr_callB call_len sem_len rfl m_len bo_len (tra_cons (tr_var 1) tra_nil)) tra_nil)))))) (trs_one tr_never) trs_nil) (trs_one (tr_ret (tr_cmp (op_ninW (Room.units65 hr)) sem_nin (tr_var 3) (tr_callG h_unfit_in hgd (hr.mono (by decide)) tk rfl (tra_cons (tr_var 0) (tra_cons (tr_var 1) (tra_cons (tr_var 2) tra_nil)))) (by with_unfolding_all rfl))))))
theorem ok_unfit_needs {f : Addr} {fd : FuncData} (F : FnP K "unfit_needs" (top 43) sc_unfit_needs f fd) (gl : mg "unfit_needs" = some (.ref f)) (m_tuple : mg "tuple" = none) (h_need_mail : FnGs P w K mg base 7 "need_mail" ["prime", "laying", "thing"] F_need_mail) (h_unfit_in : FnGs P w K mg base 5 "unfit_in" ["prime", "laying", "mail"] F_unfit_in) : FnGs P w K mg base 8 "unfit_needs" ["prime", "laying", "mail"] F_unfit_needs := by
  have sc : FnScope ["prime", "laying", "mail"] ["prime", "laying", "mail"] sc_unfit_needs := ⟨rfl, rfl, rfl, by decide +kernel, rfl, by decide +kernel, by decide +kernel⟩
  refine ⟨f, fd, fn_trG (k := 7) F sc (fun cdv A outer s H E hcd hgd hr => ?_), gl, F.kp, F.bindsN fun _ _ _ _ _ _ us hl => match us, hl with | [_, _, _], _ => rfl⟩
  have tk : Takes (cxOf (L2.CX P w) P w K mg base ["prime", "laying", "mail"] "unfit_needs" sc_unfit_needs f cdv A outer s H E) (wOf E) := takes_of rfl rfl rfl rfl
  exact (trs_cons (tr_expr (tr_callG h_need_mail hgd (hr.mono (by decide)) tk rfl (tra_cons (tr_var 0) (tra_cons (tr_var 1) (tra_cons (tr_var 2) tra_nil))))) (trs_one (tr_ret (tr_callTy call_tuple_of sem_tupOf rfl m_tuple bo_tuple (tra_cons (tr_callG h_unfit_in hgd (hr.mono (by decide)) tk rfl (tra_cons (tr_var 0) (tra_cons (tr_var 1) (tra_cons (tr_var 2) tra_nil)))) tra_nil)))))
theorem ok_read_in {f : Addr} {fd : FuncData} (F : FnP K "read_in" (top 44) sc_read_in f fd) (gl : mg "read_in" = some (.ref f)) (m_enumerate : mg "enumerate" = none) (m_len : mg "len" = none) (m_tuple : mg "tuple" = none) (h_needs_in : FnGs P w K mg base 1 "needs_in" ["laying"] F_needs_in) (h_through_in : FnGs P w K mg base 3 "through_in" ["prime", "points"] F_through_in) (h_points_at : FnGs P w K mg base 1 "points_at" ["mail", "place"] F_points_at) : FnGs P w K mg base 4 "read_in" ["prime", "laying", "mail"] F_read_in := by
  have sc : FnScope ["prime", "laying", "mail", "found", "place", "need"] ["prime", "laying", "mail"] sc_read_in := ⟨rfl, rfl, rfl, by decide +kernel, rfl, by decide +kernel, by decide +kernel⟩
  refine ⟨f, fd, fn_trG (k := 3) F sc (fun cdv A outer s H E hcd hgd hr => ?_), gl, F.kp, F.bindsN fun _ _ _ _ _ _ us hl => match us, hl with | [_, _, _], _ => rfl⟩
  have tk : Takes (cxOf (L2.CX P w) P w K mg base ["prime", "laying", "mail", "found", "place", "need"] "read_in" sc_read_in f cdv A outer s H E) (wOf E) := takes_of rfl rfl rfl rfl
  exact (trs_cons (tr_set (i := 3) sc.nd rfl (.inl rfl) (tr_tup tra_nil)) (trs_cons (tr_for (passes_of rfl) rfl (tri_enL rfl m_enumerate (tra_cons (tr_callG h_needs_in hgd (hr.mono (by decide)) tk rfl (tra_cons (tr_var 1) tra_nil)) tra_nil)) (trg_tup rfl (trgs_cons (trg_name sc.nd rfl (.inl rfl)) (trgs_cons (trg_name sc.nd rfl (.inl rfl)) trgs_nil))) (trs_one (tr_ifs (trb_cmp op_le sem_le (tr_var 5) (tr_callB call_len sem_len rfl m_len bo_len (tra_cons (tr_var 2) tra_nil)) (nomark _)) (trs_one (tr_set (i := 3) sc.nd rfl (.inl rfl) (tr_op op_addW sem_add (tr_var 3) (tr_callG h_through_in hgd (hr.mono (by decide)) tk rfl (tra_cons (tr_var 0) (tra_cons (tr_callTy call_tuple_of sem_tupOf rfl m_tuple bo_tuple (tra_cons (tr_slice (tr_callG h_points_at hgd (hr.mono (by decide)) tk rfl (tra_cons (tr_var 2) (tra_cons (tr_var 4) tra_nil))) tro_no (tro_some (tr_var 5))) tra_nil)) tra_nil)))))) trs_nil))) (trs_one (tr_ret (tr_var 3)))))
theorem ok_read {f : Addr} {fd : FuncData} (F : FnP K "read" (top 45) sc_read f fd) (gl : mg "read" = some (.ref f)) (x_Unsound : XIs P w K mg base 11 "ValueError.__new__" tlV) (h_need_mail : FnGs P w K mg base 7 "need_mail" ["prime", "laying", "thing"] F_need_mail) (h_unfit_in : FnGs P w K mg base 5 "unfit_in" ["prime", "laying", "mail"] F_unfit_in) (h_read_in : FnGs P w K mg base 4 "read_in" ["prime", "laying", "mail"] F_read_in) : FnGs P w K mg base 8 "read" ["prime", "laying", "mail"] F_read := by
  have sc : FnScope ["prime", "laying", "mail", "unfit"] ["prime", "laying", "mail"] sc_read := ⟨rfl, rfl, rfl, by decide +kernel, rfl, by decide +kernel, by decide +kernel⟩
  refine ⟨f, fd, fn_trG (k := 7) F sc (fun cdv A outer s H E hcd hgd hr => ?_), gl, F.kp, F.bindsN fun _ _ _ _ _ _ us hl => match us, hl with | [_, _, _], _ => rfl⟩
  have tk : Takes (cxOf (L2.CX P w) P w K mg base ["prime", "laying", "mail", "unfit"] "read" sc_read f cdv A outer s H E) (wOf E) := takes_of rfl rfl rfl rfl
  exact (trs_cons (tr_expr (tr_callG h_need_mail hgd (hr.mono (by decide)) tk rfl (tra_cons (tr_var 0) (tra_cons (tr_var 1) (tra_cons (tr_var 2) tra_nil))))) (trs_cons (tr_set (i := 3) sc.nd rfl (.inl rfl) (tr_callG h_unfit_in hgd (hr.mono (by decide)) tk rfl (tra_cons (tr_var 0) (tra_cons (tr_var 1) (tra_cons (tr_var 2) tra_nil))))) (trs_cons (tr_ifs (trb_cmp (op_neS hr.units) sem_neS (tr_var 3) (tr_lst tra_nil) (nomark _)) (trs_one (tr_raise (n := 11) x_Unsound rfl tk (hr.mono (by decide)) rfl (tra_cons (tr_ix ix_seq sem_ix (tr_var 3) tr_int) tra_nil))) trs_nil) (trs_one (tr_ret (tr_callG h_read_in hgd (hr.mono (by decide)) tk rfl (tra_cons (tr_var 0) (tra_cons (tr_var 1) (tra_cons (tr_var 2) tra_nil)))))))))
theorem ok__law_mixed {f : Addr} {fd : FuncData} (F : FnP K "_law_mixed" (top 47) sc__law_mixed f fd) (gl : mg "_law_mixed" = some (.ref f)) (m_int : mg "int" = none) : FnIs P w K mg base 1 "_law_mixed" ["_law_cell", "_law_k"] F__law_mixed := by
  have sc : FnScope ["_law_cell", "_law_k"] ["_law_cell", "_law_k"] sc__law_mixed := ⟨rfl, rfl, rfl, by decide +kernel, rfl, by decide +kernel, by decide +kernel⟩
  refine ⟨f, fd, fn_tr (k := 0) F sc (fun cdv A outer s H E hr => ?_), gl, F.kp, F.bindsN fun _ _ _ _ _ _ us hl => match us, hl with | [_, _], _ => rfl⟩
  have tk : Takes (cxOf (L2.CX P w) P w K mg base ["_law_cell", "_law_k"] "_law_mixed" sc__law_mixed f cdv A outer s H E) (wOf E) := takes_of rfl rfl rfl rfl
  exact (trs_cons (tr_set (i := 0) sc.nd rfl (.inl rfl) (tr_op op_mod sem_mod (tr_callTy call_int1 sem_int1 rfl m_int bo_int (tra_cons (tr_var 0) tra_nil)) tr_int)) (trs_one (tr_ret (tr_op op_mod sem_mod (tr_op op_mulW sem_mul (tr_op op_mod sem_mod (tr_op op_addW sem_add (tr_op op_addW sem_add (tr_op op_mulW sem_mul (tr_var 0) (tr_op op_addW sem_add tr_int (tr_op op_mulW sem_mul (tr_op op_mulW sem_mul tr_int (tr_var 1)) (tr_var 1)))) (tr_op op_mulW sem_mul tr_int (tr_var 1))) tr_int) tr_int) tr_int) tr_int))))
/-- a call of _law_mixed, by its reading -/
theorem mix_sp {c : Cc} {d : Nat} {H : Hp} {x k : Int} {Q : VK} {E : XK} (hT : c.T = tabL K) (wd : Wd c d H) (h0 : 0 ≤ k) (h1 : k ≤ 2 ^ 61) (h : ∀ H', Step c H H' → StOk c d H' → Q (.int (mixv x k)) H') : SpF K F__law_mixed [.int x, .int k] H Q E := by
  refine ⟨c, d, [.int x, .int k], hT, wd, .cons (.int x) (.cons (.int k) .nil), ?_⟩
  rw [mix_run h0 h1]
  intro v H' st so r
  cases r
  exact h H' st so
theorem ok__law_begin {f : Addr} {fd : FuncData} (F : FnP K "_law_begin" (top 48) sc__law_begin f fd) (m_list : mg "list" = none) : FnOk P w K mg base (L2.CX P w) 1 f fd ["_law_script"] (spBegin K) := by
  have sc : FnScope ["_law_script", "_law_cells", "_law_cell"] ["_law_script"] sc__law_begin := ⟨rfl, rfl, rfl, by decide +kernel, rfl, by decide +kernel, by decide +kernel⟩
  refine F.ok (k := 0) sc (fun vs H Q E h => ?_) (fun cdv A outer s H vs Q E hr h => ?_)
  · obtain ⟨a, ns, rfl, _⟩ := h
    rfl
  refine ⟨_, pss_cons (ps_set (i := 1) sc.nd rfl (.inl rfl) (pe_ifExp (pt_cmpR (op_neD hr.units) (pv 0) (pe_lst pa_nil) (nomark _)) (pe_callTy call_list_of rfl m_list bo_list (pa_cons (pv 0) pa_nil)) (pe_lst (pa_cons pe_int pa_nil))))
    (pss_one (ps_ret (pe_disp (pps_cons pe_str (pv 1) (pps_cons pe_str (pe_lc (own := [("_law_cell", 2)]) (g := gName 2) (tt := tYes) rfl sc.nd (pi_list (pv 1)) (blkOk_by (N := ["_law_script", "_law_cells", "_law_cell"]) (sc := sc__law_begin) (by decide +kernel))
        (fun _ _ _ _ _ => pg_name (i := 2) sc.nd rfl (.inl rfl)) (fun _ _ _ _ _ => pts_nil) (fun _ _ _ _ _ => pe_ifExp (pt_cmpR op_ge (pv 2) (pe_op op_pow pe_int pe_int) (nomark _)) (pv 2) pe_int))
      (pps_cons pe_str pe_int (pps_cons pe_str pe_int pps_nil)))) (by rfl) (by rfl) (fun z => by cases z) (by decide)))), ?_⟩
  obtain ⟨a, ns, rfl, hS, hz, q⟩ := h
  exact begin_read hS hz q
theorem ok__law_draw {f : Addr} {fd : FuncData} (F : FnP K "_law_draw" (top 49) sc__law_draw f fd) (gl : mg "_law_draw" = some (.ref f)) (m_int : mg "int" = none) (m_len : mg "len" = none) (h__law_mixed : FnIs P w K mg base 1 "_law_mixed" ["_law_cell", "_law_k"] F__law_mixed) : FnIs P w K mg base 2 "_law_draw" ["_law_state", "_law_many"] F__law_draw := by
  have sc : FnScope ["_law_state", "_law_many", "_law_at", "_law_place", "_law_left", "_law_number"] ["_law_state", "_law_many"] sc__law_draw := ⟨rfl, rfl, rfl, by decide +kernel, rfl, by decide +kernel, by decide +kernel⟩
  obtain ⟨fM, fdM, GM, gM, kM, bM⟩ := h__law_mixed
  refine ⟨f, fd, F.ok (k := 1) sc (SpF.len fun ws h => ?_) (fun cdv A outer s H vs Q E hr h => ?_), gl, F.kp, F.bindsN fun _ _ _ _ _ _ us hl => match us, hl with | [_, _], _ => rfl⟩
  · exact F_draw_bad fun n z => h (by rw [z]; rfl)
  have tk : Takes (cxOf (L2.CX P w) P w K mg base ["_law_state", "_law_many", "_law_at", "_law_place", "_law_left", "_law_number"] "_law_draw" sc__law_draw f cdv A outer s H E) (wOf E) := takes_of rfl rfl rfl rfl
  have hu := hu_of hr
  refine ⟨_, pss_cons (ps_set (i := 2) sc.nd rfl (.inl rfl) (pe_dget hu (pv 0) pe_str (fun _ _ => rfl)))
    (pss_cons (ps_dput hu (pv 0) pe_str (pe_op op_add (pv 2) pe_int) rfl)
    (pss_cons (ps_set (i := 3) sc.nd rfl (.inl rfl) (pe_op op_mod (pe_callTy call_int1 rfl m_int bo_int (pa_cons (pv 2) pa_nil)) (pe_callB call_len rfl m_len bo_len (pa_cons (pe_dget hu (pv 0) pe_str (fun _ _ => rfl)) pa_nil))))
    (pss_cons (ps_set (i := 4) sc.nd rfl (.inl rfl) (pe_ix ix_list (pe_dget hu (pv 0) pe_str (fun _ _ => rfl)) (pv 3) (fun _ _ => rfl)))
    (pss_cons (ps_if (pt_cmpR op_gt (pv 4) pe_int (nomark _))
      (pss_cons (ps_asg (pe_op op_fdivW (pv 4) (pv 1)) (pg_sub (pe_dget hu (pv 0) pe_str (fun _ _ => rfl)) (pv 3) set_list))
        (pss_one (ps_ret (pe_op op_mod (pe_callTy call_int1 rfl m_int bo_int (pa_cons (pv 4) pa_nil)) (pv 1))))) pss_nil)
    (pss_cons (ps_set (i := 5) sc.nd rfl (.inl rfl) (pe_callSD (E := fun σ => WE (wOf E) σ) GM hr rfl gM kM bM .nil (fun σ => passAt tk σ) (pa_cons (pe_callSD (E := fun σ => WE (wOf E) σ) GM hr rfl gM kM bM .nil (fun σ => passAt tk σ) (pa_cons (pe_ix ix_list (pe_dget hu (pv 0) pe_str (fun _ _ => rfl)) (pv 3) (fun _ _ => rfl)) (pa_cons (pv 2) pa_nil))) (pa_cons (pe_op op_add pe_int (pv 2)) pa_nil))))
    (pss_one (ps_ret (pe_op op_mod (pe_op op_fdiv (pe_callTy call_int1 rfl m_int bo_int (pa_cons (pe_op op_add (pe_op op_mulW (pv 5) pe_int) (pe_callSD (E := fun σ => WE (wOf E) σ) GM hr rfl gM kM bM .nil (fun σ => passAt tk σ) (pa_cons (pv 5) (pa_cons (pe_op op_add pe_int (pv 2)) pa_nil)))) pa_nil)) pe_int) (pv 1))))))))), ?_⟩
  obtain ⟨c, d, ws, hTT, wd, r, h⟩ := h
  by_cases hw : ∃ n, ws = [.stt, .int n]
  case neg =>
    rw [F_draw_bad fun n z => hw ⟨n, z⟩] at h
    exact h.elim
  obtain ⟨n, rfl⟩ := hw
  cases r with
  | cons r1 r2 =>
  cases r2 with
  | cons r2 r3 =>
  cases r3
  cases r2
  cases r1
  obtain ⟨⟨hn0, hn1⟩, e, rfl, hq⟩ := draw_all h
  obtain ⟨cells, lefts, k, rr, hS, hca, hla, hlen, hpos, hk0, hkb, hne, hT⟩ := wd.st
  have nS : c.ca ≠ c.S := ne_of hca hS (by intro z; cases z)
  have nS2 : c.la ≠ c.S := ne_of hla hS (by intro z; cases z)
  -- at
  refine ⟨.ref c.S, rfl, c.S, .int k, rfl, DGet.st (x := .inr kAt) hS st_at, ?_⟩
  refine ⟨.int k, rfl, k, 1, rfl, rfl, .ref c.S, rfl, c.S, _, rfl, DPut.k (k := .inr kAt) hS (by show 4 < sizeLine; decide), ?_⟩
  generalize hH1 : upd H c.S _ = H1
  have hS1 : H1 c.S = some (.dK (stK c.ca c.la (k + 1) rr)) := by rw [← hH1, upd_same, st_put]
  have o1 : ∀ b, b ≠ c.S → H1 b = H b := fun b hb => by rw [← hH1, upd_ne hb]
  have hca1 : H1 c.ca = some (.lst (cells.map V.int)) := by rw [o1 _ nS]; exact hca
  have hla1 : H1 c.la = some (.lst (lefts.map V.int)) := by rw [o1 _ nS2]; exact hla
  have st1 : Step c H H1 := ⟨fun b o hb h1 h2 _ => by rw [o1 b h1]; exact hb, fun b ps hb => ⟨#[], by rw [o1 b (ne_of hb hS (by intro z; cases z)), hb]; simp⟩⟩
  have hT1 : LamX.Tabs c.T H1 := by
    rw [← hH1]
    exact Tabs.upd hT hS nofun dK_noC
  have so1 : StOk c e H1 := StOk.drawn hk0 hkb hne hlen hpos hS1 hca1 hla1 hT1
  have wd1 : Wd c e H1 := wd.step st1 so1
  -- place
  refine ⟨.int k, rfl, .inl ⟨k, rfl, ?_⟩⟩
  refine ⟨.ref c.S, rfl, c.S, .ref c.ca, rfl, DGet.st (x := .inr kCells) hS1 st_cells, _, cells.length, rfl, .inl ⟨_, SqL.of hca1, by rw [List.length_map]⟩, k, _, rfl, rfl, by omega, ?_⟩
  have p0 : 0 ≤ k % (cells.length : Int) := Int.emod_nonneg _ (by omega)
  have p1 : k % (cells.length : Int) < cells.length := Int.emod_lt_of_pos _ (by omega)
  obtain ⟨j, hpj⟩ : ∃ j : Nat, k % (cells.length : Int) = j := ⟨(k % (cells.length : Int)).toNat, by omega⟩
  have hj : j < cells.length := by omega
  have hjl : j < lefts.length := by omega
  -- left
  refine ⟨.ref c.S, rfl, c.S, .ref c.la, rfl, DGet.st (x := .inr kLefts) hS1 st_lefts, .int (k % (cells.length : Int)), rfl, c.la, _, k % (cells.length : Int), .int lefts[j], rfl, rfl, SqL.of hla1, (by rw [hpj]; exact atI_nat (by rw [List.getElem?_map, List.getElem?_eq_getElem hjl]; rfl)), ?_⟩
  refine ⟨.int lefts[j], rfl, lefts[j], 0, rfl, rfl, _, rfl, ite2 (fun hl => ?_) (fun hl => ?_)⟩
  · -- by the digits
    refine ⟨.int lefts[j], rfl, .int n, rfl, lefts[j], n, rfl, rfl, ⟨hn0, hn1⟩, ?_⟩
    refine ⟨.ref c.S, rfl, c.S, .ref c.la, rfl, DGet.st (x := .inr kLefts) hS1 st_lefts, .int (k % (cells.length : Int)), rfl, c.la, _, k % (cells.length : Int), j, rfl, rfl, hla1, ?_, ?_⟩
    · unfold ixN
      rw [if_pos p0, if_pos (by rw [List.length_map]; omega), hpj]
      rfl
    refine ⟨.int lefts[j], rfl, .inl ⟨lefts[j], rfl, .int n, rfl, lefts[j], n, rfl, rfl, hn0, ?_⟩⟩
    refine hq _ _ (Int.emod_nonneg _ (by omega)) (Int.emod_lt_of_pos _ hn0) ⟨fun b o hb h1 h2 h3 => by rw [upd_ne h2]; exact st1.keep b o hb h1 h2 h3, fun b ps hb => by rw [upd_ne (ne_of hb hla (by intro z; cases z))]; exact st1.tbl b ps hb⟩ (StOk.drawn (r := rr) (lefts' := lefts.set j (lefts[j] / n)) hk0 hkb hne (by rw [List.length_set]; exact hlen) hpos ?_ ?_ ?_ (Tabs.upd hT1 hla1 nofun lst_noC))
    · rw [upd_ne (Ne.symm nS2)]
      exact hS1
    · rw [upd_ne hne]
      exact hca1
    · rw [upd_same, List.map_set]
  · -- mixed
    refine ⟨.ref c.S, rfl, c.S, .ref c.ca, rfl, DGet.st (x := .inr kCells) hS1 st_cells, .int (k % (cells.length : Int)), rfl, c.ca, _, k % (cells.length : Int), .int cells[j], rfl, rfl, SqL.of hca1, (by rw [hpj]; exact atI_nat (by rw [List.getElem?_map, List.getElem?_eq_getElem hj]; rfl)), ?_⟩
    refine ⟨.int k, rfl, mix_sp hTT wd1 hk0 (by omega) fun H2 st2 so2 => ?_⟩
    have wd2 := wd1.step st2 so2
    refine ⟨.int k, rfl, 40, k, rfl, rfl, mix_sp hTT wd2 (by omega) (by omega) fun H3 st3 so3 => ?_⟩
    have wd3 := wd2.step st3 so3
    refine ⟨_, rfl, _, 2147483647, rfl, rfl, wide_mul (a := 32) (b := 32) ?_ (by decide) (by decide) (by decide) (by decide), ?_⟩
    · have := mixv_lt (mixv cells[j] k) (40 + k)
      omega
    refine ⟨_, rfl, .int k, rfl, 7, k, rfl, rfl, mix_sp hTT wd3 (by omega) (by omega) fun H4 st4 so4 => ?_⟩
    refine ⟨_, _, rfl, rfl, .inl ⟨_, rfl, _, 64, rfl, rfl, ⟨by decide, by decide⟩, .int n, rfl, _, n, rfl, rfl, hn0, ?_⟩⟩
    exact hq _ _ (Int.emod_nonneg _ (by omega)) (Int.emod_lt_of_pos _ hn0) (st1.trans (st2.trans (st3.trans st4))) so4
theorem ok__law_back {f : Addr} {fd : FuncData} (F : FnP K "_law_back" (top 51) sc__law_back f fd) (gl : mg "_law_back" = some (.ref f)) (m_range : mg "range" = none) (m_int : mg "int" = none) : FnGs P w K mg base 1 "_law_back" ["_law_prime_so", "_law_sign"] F__law_back := by
  have sc : FnScope ["_law_prime_so", "_law_sign", "_law_one"] ["_law_prime_so", "_law_sign"] sc__law_back := ⟨rfl, rfl, rfl, by decide +kernel, rfl, by decide +kernel, by decide +kernel⟩
  refine ⟨f, fd, fn_trG (k := 0) F sc (fun cdv A outer s H E hcd hgd hr => ?_), gl, F.kp, F.bindsN fun _ _ _ _ _ _ us hl => match us, hl with | [_, _], _ => rfl⟩
  have tk : Takes (cxOf (L2.CX P w) P w K mg base ["_law_prime_so", "_law_sign", "_law_one"] "_law_back" sc__law_back f cdv A outer s H E) (wOf E) := takes_of rfl rfl rfl rfl
  exact (trs_one (tr_ret (tr_ix ix_seq sem_ix (tr_lc (own := [("_law_one", 2)]) rfl sc.nd (tri_rng2 rfl m_range (tra_cons tr_int (tra_cons (tr_var 0) tra_nil))) (blkOk_by (N := ["_law_prime_so", "_law_sign", "_law_one"]) (sc := sc__law_back) (by decide +kernel)) (by decide) (fun _ _ _ _ _ => (trg_name sc.nd rfl (by first | exact .inl rfl | exact .inr rfl))) (fun _ _ _ _ _ => (trt_one (trb_cmp (op_eqS hr.units) sem_eqS (tr_op op_mod sem_mod (tr_callTy call_int1 sem_int1 rfl m_int bo_int (tra_cons (tr_op op_mulW sem_mul (tr_var 2) (tr_var 1)) tra_nil)) (tr_var 0)) tr_int (nomark _)))) (fun _ _ _ _ _ => (tr_var 2))) tr_int)))
theorem ok__law_value {f : Addr} {fd : FuncData} (F : FnP K "_law_value" (top 52) sc__law_value f fd) (gl : mg "_law_value" = some (.ref f)) (m_int : mg "int" = none) : FnGs P w K mg base 1 "_law_value" ["_law_prime_so", "_law_block", "_law_sign"] F__law_value := by
  have sc : FnScope ["_law_prime_so", "_law_block", "_law_sign", "_law_got", "_law_power", "_law_one"] ["_law_prime_so", "_law_block", "_law_sign"] sc__law_value := ⟨rfl, rfl, rfl, by decide +kernel, rfl, by decide +kernel, by decide +kernel⟩
  refine ⟨f, fd, fn_trG (k := 0) F sc (fun cdv A outer s H E hcd hgd hr => ?_), gl, F.kp, F.bindsN fun _ _ _ _ _ _ us hl => match us, hl with | [_, _, _], _ => rfl⟩
  have tk : Takes (cxOf (L2.CX P w) P w K mg base ["_law_prime_so", "_law_block", "_law_sign", "_law_got", "_law_power", "_law_one"] "_law_value" sc__law_value f cdv A outer s H E) (wOf E) := takes_of rfl rfl rfl rfl
  exact (trs_cons (tr_asg (tr_tup (tra_cons tr_int (tra_cons tr_int tra_nil))) (trg_tup rfl (trgs_cons (trg_name sc.nd rfl (.inl rfl)) (trgs_cons (trg_name sc.nd rfl (.inl rfl)) trgs_nil)))) (trs_cons (tr_for (passes_of rfl) rfl (tri_tup (tr_var 1)) (trg_name sc.nd rfl (.inl rfl)) (trs_one (tr_par (ps_par rfl sc.nd rfl rfl (by decide) rfl rfl (tra_cons (tr_op op_addW sem_add (tr_var 3) (tr_op op_mulW sem_mul (tr_var 5) (tr_var 4))) (tra_cons (tr_op op_mulW sem_mul (tr_var 4) (tr_var 2)) tra_nil)) (by rfl))))) (trs_one (tr_ret (tr_op op_mod sem_mod (tr_callTy call_int1 sem_int1 rfl m_int bo_int (tra_cons (tr_var 3) tra_nil)) (tr_var 0))))))
theorem ok__law_between {f : Addr} {fd : FuncData} (F : FnP K "_law_between" (top 53) sc__law_between f fd) (gl : mg "_law_between" = some (.ref f)) (m_int : mg "int" = none) (h__law_back : FnGs P w K mg base 1 "_law_back" ["_law_prime_so", "_law_sign"] F__law_back) : FnGs P w K mg base 2 "_law_between" ["_law_prime_so", "_law_points", "_law_sign"] F__law_between := by
  have sc : FnScope ["_law_prime_so", "_law_points", "_law_sign", "_law_got", "_law_one", "_law_height", "_law_top", "_law_bottom", "_law_far", "_law_rest"] ["_law_prime_so", "_law_points", "_law_sign"] sc__law_between := ⟨rfl, rfl, rfl, by decide +kernel, rfl, by decide +kernel, by decide +kernel⟩
  refine ⟨f, fd, fn_trG (k := 1) F sc (fun cdv A outer s H E hcd hgd hr => ?_), gl, F.kp, F.bindsN fun _ _ _ _ _ _ us hl => match us, hl with | [_, _, _], _ => rfl⟩
  have tk : Takes (cxOf (L2.CX P w) P w K mg base ["_law_prime_so", "_law_points", "_law_sign", "_law_got", "_law_one", "_law_height", "_law_top", "_law_bottom", "_law_far", "_law_rest"] "_law_between" sc__law_between f cdv A outer s H E) (wOf E) := takes_of rfl rfl rfl rfl
  exact (trs_cons (tr_set (i := 3) sc.nd rfl (.inl rfl) tr_int) (trs_cons (tr_for (passes_of rfl) rfl (tri_lst (tr_var 1)) (trg_tup rfl (trgs_cons (trg_name sc.nd rfl (.inl rfl)) (trgs_cons (trg_name sc.nd rfl (.inl rfl)) trgs_nil))) (trs_cons (tr_par (ps_par rfl sc.nd rfl rfl (by decide) rfl rfl (tra_cons (tr_var 5) (tra_cons tr_int tra_nil)) (by rfl))) (trs_cons (tr_for (passes_of rfl) rfl (tri_lst (tr_var 1)) (trg_tup rfl (trgs_cons (trg_name sc.nd rfl (.inl rfl)) (trgs_cons (trg_name sc.nd rfl (.inl rfl)) trgs_nil))) (trs_one (tr_ifs (trb_cmp (op_neS hr.units) sem_neS (tr_var 8) (tr_var 4) (nomark _)) (trs_one (tr_par (ps_par rfl sc.nd rfl rfl (by decide) rfl rfl (tra_cons (tr_op op_mulW sem_mul (tr_var 6) (tr_op op_sub sem_sub (tr_var 2) (tr_var 8))) (tra_cons (tr_op op_mulW sem_mul (tr_var 7) (tr_op op_sub sem_sub (tr_var 4) (tr_var 8))) tra_nil)) (by rfl)))) trs_nil))) (trs_one (tr_set (i := 3) sc.nd rfl (.inl rfl) (tr_op op_addW sem_add (tr_var 3) (tr_op op_mulW sem_mul (tr_var 6) (tr_callG h__law_back hgd (hr.mono (by decide)) tk rfl (tra_cons (tr_var 0) (tra_cons (tr_op op_mod sem_mod (tr_callTy call_int1 sem_int1 rfl m_int bo_int (tra_cons (tr_var 7) tra_nil)) (tr_var 0)) tra_nil)))))))))) (trs_one (tr_ret (tr_op op_mod sem_mod (tr_callTy call_int1 sem_int1 rfl m_int bo_int (tra_cons (tr_var 3) tra_nil)) (tr_var 0))))))
theorem ok__law_needs {f : Addr} {fd : FuncData} (F : FnP K "_law_needs" (top 54) sc__law_needs f fd) (gl : mg "_law_needs" = some (.ref f)) (m_enumerate : mg "enumerate" = none) : FnGs P w K mg base 1 "_law_needs" ["_law_shares_here"] F__law_needs := by
  have sc : FnScope ["_law_shares_here", "_law_got", "_law_spot", "_law_share"] ["_law_shares_here"] sc__law_needs := ⟨rfl, rfl, rfl, by decide +kernel, rfl, by decide +kernel, by decide +kernel⟩
  refine ⟨f, fd, fn_trG (k := 0) F sc (fun cdv A outer s H E hcd hgd hr => ?_), gl, F.kp, F.bindsN fun _ _ _ _ _ _ us hl => match us, hl with | [_], _ => rfl⟩
  have tk : Takes (cxOf (L2.CX P w) P w K mg base ["_law_shares_here", "_law_got", "_law_spot", "_law_share"] "_law_needs" sc__law_needs f cdv A outer s H E) (wOf E) := takes_of rfl rfl rfl rfl
  exact (trs_cons (tr_set (i := 1) sc.nd rfl (.inl rfl) (tr_lst tra_nil)) (trs_cons (tr_for (passes_of rfl) rfl (tri_enT rfl m_enumerate (tra_cons (tr_var 0) tra_nil)) (trg_tup rfl (trgs_cons (trg_name sc.nd rfl (.inl rfl)) (trgs_cons (trg_name sc.nd rfl (.inl rfl)) trgs_nil))) (trs_one (tr_set (i := 1) sc.nd rfl (.inl rfl) (tr_op op_addW sem_add (tr_var 1) (tr_op op_rep sem_mulL (tr_lst (tra_cons (tr_op op_addW sem_add (tr_var 2) tr_int) tra_nil)) (tr_var 3)))))) (trs_one (tr_ret (tr_var 1)))))
theorem ok__law_stair {f : Addr} {fd : FuncData} (F : FnP K "_law_stair" (top 55) sc__law_stair f fd) (gl : mg "_law_stair" = some (.ref f)) (m_enumerate : mg "enumerate" = none) (m_tuple : mg "tuple" = none) : FnGs P w K mg base 1 "_law_stair" ["_law_shares_here"] F__law_stair := by
  have sc : FnScope ["_law_shares_here", "_law_got", "_law_last", "_law_spot", "_law_share"] ["_law_shares_here"] sc__law_stair := ⟨rfl, rfl, rfl, by decide +kernel, rfl, by decide +kernel, by decide +kernel⟩
  refine ⟨f, fd, fn_trG (k := 0) F sc (fun cdv A outer s H E hcd hgd hr => ?_), gl, F.kp, F.bindsN fun _ _ _ _ _ _ us hl => match us, hl with | [_], _ => rfl⟩
  have tk : Takes (cxOf (L2.CX P w) P w K mg base ["_law_shares_here", "_law_got", "_law_last", "_law_spot", "_law_share"] "_law_stair" sc__law_stair f cdv A outer s H E) (wOf E) := takes_of rfl rfl rfl rfl
  exact (trs_cons (tr_ownPar (by decide) (ps_par rfl sc.nd rfl rfl (by decide) rfl rfl (pa_cons (pe_lst pa_nil) (tra_cons tr_int tra_nil)) (by rfl))) (trs_cons (tr_for (passes_of rfl) rfl (tri_enT rfl m_enumerate (tra_cons (tr_var 0) tra_nil)) (trg_tup rfl (trgs_cons (trg_name sc.nd rfl (.inl rfl)) (trgs_cons (trg_name sc.nd rfl (.inl rfl)) trgs_nil))) (trs_cons (tr_set (i := 2) sc.nd rfl (.inl rfl) (tr_op op_addW sem_add (tr_var 2) (tr_op op_mulW sem_mul (tr_op op_addW sem_add (tr_var 3) tr_int) (tr_var 4)))) (trs_one (tr_app (pv 1) (tra_cons (tr_var 2) tra_nil))))) (trs_one (tr_frz 1 (tr_ret (tr_callTy call_tuple_of sem_tupOf rfl m_tuple bo_tuple (tra_cons (tr_var 1) tra_nil)))))))
theorem ok__law_letters {f : Addr} {fd : FuncData} (F : FnP K "_law_letters" (top 56) sc__law_letters f fd) (gl : mg "_law_letters" = some (.ref f)) (m_range : mg "range" = none) (m_len : mg "len" = none) (m_tuple : mg "tuple" = none) (h__law_needs : FnGs P w K mg base 1 "_law_needs" ["_law_shares_here"] F__law_needs) (h__law_value : FnGs P w K mg base 1 "_law_value" ["_law_prime_so", "_law_block", "_law_sign"] F__law_value) : FnGs P w K mg base 2 "_law_letters" ["_law_prime_so", "_law_shares_here", "_law_message_so"] F__law_letters := by
  have sc : FnScope ["_law_prime_so", "_law_shares_here", "_law_message_so", "_law_blocks", "_law_at", "_law_need", "_law_got", "_law_spot", "_law_block"] ["_law_prime_so", "_law_shares_here", "_law_message_so"] sc__law_letters := ⟨rfl, rfl, rfl, by decide +kernel, rfl, by decide +kernel, by decide +kernel⟩
  refine ⟨f, fd, fn_trG (k := 1) F sc (fun cdv A outer s H E hcd hgd hr => ?_), gl, F.kp, F.bindsN fun _ _ _ _ _ _ us hl => match us, hl with | [_, _, _], _ => rfl⟩
  have tk : Takes (cxOf (L2.CX P w) P w K mg base ["_law_prime_so", "_law_shares_here", "_law_message_so", "_law_blocks", "_law_at", "_law_need", "_law_got", "_law_spot", "_law_block"] "_law_letters" sc__law_letters f cdv A outer s H E) (wOf E) := takes_of rfl rfl rfl rfl
  exact (trs_cons (tr_ownPar (by decide) (ps_par rfl sc.nd rfl rfl (by decide) rfl rfl (pa_cons (pe_lst pa_nil) (tra_cons tr_int tra_nil)) (by rfl))) (trs_cons (tr_for (passes_of rfl) rfl (tri_lst (tr_callG h__law_needs hgd (hr.mono (by decide)) tk rfl (tra_cons (tr_var 1) tra_nil))) (trg_name sc.nd rfl (.inl rfl)) (trs_cons (tr_app (pv 3) (tra_cons (tr_slice (tr_var 2) (tro_some (tr_var 4)) (tro_some (tr_op op_addW sem_add (tr_var 4) (tr_var 5)))) tra_nil)) (trs_one (tr_set (i := 4) sc.nd rfl (.inl rfl) (tr_op op_addW sem_add (tr_var 4) (tr_var 5)))))) (trs_cons (tr_own (i := 6) sc.nd rfl (.inl rfl) tra_nil) (trs_cons (tr_for (passes_of rfl) rfl (tri_rng1 rfl m_range (tra_cons (tr_callB call_len sem_len rfl m_len bo_len (tra_cons (tr_var 1) tra_nil)) tra_nil)) (trg_name sc.nd rfl (.inr rfl)) (trs_one (tr_frz 3 (tr_app (pv 6) (tra_cons (tr_callTy call_tuple_of sem_tupOf rfl m_tuple bo_tuple (tra_cons (tr_lc (own := [("_law_block", 8)]) rfl sc.nd (tri_lst (tr_var 3)) (blkOk_by (N := ["_law_prime_so", "_law_shares_here", "_law_message_so", "_law_blocks", "_law_at", "_law_need", "_law_got", "_law_spot", "_law_block"]) (sc := sc__law_letters) (by decide +kernel)) (by decide) (fun _ _ _ _ _ => (trg_name sc.nd rfl (by first | exact .inl rfl | exact .inr rfl))) (fun _ _ _ _ _ => trt_nil) (fun _ _ _ _ _ => (tr_callG h__law_value hgd (hr.mono (by decide)) takes0 rfl (tra_cons (tr_var 0) (tra_cons (tr_var 8) (tra_cons (tr_op op_addW sem_add (tr_var 7) tr_int) tra_nil)))))) tra_nil)) tra_nil))))) (trs_one (tr_frz 6 (tr_ret (tr_callTy call_tuple_of sem_tupOf rfl m_tuple bo_tuple (tra_cons (tr_var 6) tra_nil)))))))))
theorem ok__law_prime {f : Addr} {fd : FuncData} (F : FnP K "_law_prime" (top 57) sc__law_prime f fd) (gl : mg "_law_prime" = some (.ref f)) (h__law_draw : FnGs P w K mg base 2 "_law_draw" ["_law_state", "_law_many"] F__law_draw) : FnGs P w K mg base 3 "_law_prime" ["_law_state"] F__law_prime := by
  have sc : FnScope ["_law_state"] ["_law_state"] sc__law_prime := ⟨rfl, rfl, rfl, by decide +kernel, rfl, by decide +kernel, by decide +kernel⟩
  refine ⟨f, fd, fn_trG (k := 2) F sc (fun cdv A outer s H E hcd hgd hr => ?_), gl, F.kp, F.bindsN fun _ _ _ _ _ _ us hl => match us, hl with | [_], _ => rfl⟩
  have tk : Takes (cxOf (L2.CX P w) P w K mg base ["_law_state"] "_law_prime" sc__law_prime f cdv A outer s H E) (wOf E) := takes_of rfl rfl rfl rfl
  exact (trs_one (tr_ret (tr_ix ix_seq sem_ix (tr_lst (tra_cons tr_int (tra_cons tr_int (tra_cons tr_int (tra_cons tr_int (tra_cons tr_int tra_nil)))))) (tr_callG h__law_draw hgd (hr.mono (by decide)) tk rfl (tra_cons (tr_var 0) (tra_cons tr_int tra_nil))))))
theorem ok__law_shares {f : Addr} {fd : FuncData} (F : FnP K "_law_shares" (top 58) sc__law_shares f fd) (gl : mg "_law_shares" = some (.ref f)) (m_range : mg "range" = none) (m_min : mg "min" = none) (m_tuple : mg "tuple" = none) (h__law_draw : FnGs P w K mg base 2 "_law_draw" ["_law_state", "_law_many"] F__law_draw) : FnGs P w K mg base 3 "_law_shares" ["_law_state", "_law_most"] F__law_shares := by
  have sc : FnScope ["_law_state", "_law_most", "_law_got", "_law_left", "_law_k", "_law_share"] ["_law_state", "_law_most"] sc__law_shares := ⟨rfl, rfl, rfl, by decide +kernel, rfl, by decide +kernel, by decide +kernel⟩
  refine ⟨f, fd, fn_trG (k := 2) F sc (fun cdv A outer s H E hcd hgd hr => ?_), gl, F.kp, F.bindsN fun _ _ _ _ _ _ us hl => match us, hl with | [_, _], _ => rfl⟩
  have tk : Takes (cxOf (L2.CX P w) P w K mg base ["_law_state", "_law_most", "_law_got", "_law_left", "_law_k", "_law_share"] "_law_shares" sc__law_shares f cdv A outer s H E) (wOf E) := takes_of rfl rfl rfl rfl
  exact (trs_cons (tr_ownPar (by decide) (ps_par rfl sc.nd rfl rfl (by decide) rfl rfl (pa_cons (pe_lst pa_nil) (tra_cons (tr_ix ix_seq sem_ix (tr_lst (tra_cons tr_int (tra_cons tr_int (tra_cons tr_int tra_nil)))) (tr_callG h__law_draw hgd (hr.mono (by decide)) tk rfl (tra_cons (tr_var 0) (tra_cons tr_int tra_nil)))) tra_nil)) (by rfl))) (trs_cons (tr_for (passes_of rfl) rfl (tri_rng1 rfl m_range (tra_cons (tr_op op_addW sem_add tr_int (tr_callG h__law_draw hgd (hr.mono (by decide)) tk rfl (tra_cons (tr_var 0) (tra_cons (tr_var 1) tra_nil)))) tra_nil)) (trg_name sc.nd rfl (.inl rfl)) (trs_cons (tr_set (i := 5) sc.nd rfl (.inl rfl) (tr_if (trb_cmp op_gt sem_gt (tr_callG h__law_draw hgd (hr.mono (by decide)) tk rfl (tra_cons (tr_var 0) (tra_cons tr_int tra_nil))) tr_int (nomark _)) (tr_callG h__law_draw hgd (hr.mono (by decide)) tk rfl (tra_cons (tr_var 0) (tra_cons (tr_op op_addW sem_add tr_int (tr_callB (callR_or (call_min2 rfl) (cr_min rfl)) sem_min rfl m_min bo_min (tra_cons tr_int (tra_cons (tr_var 3) tra_nil)))) tra_nil))) tr_int)) (trs_cons (tr_app (pv 2) (tra_cons (tr_var 5) tra_nil)) (trs_one (tr_set (i := 3) sc.nd rfl (.inl rfl) (tr_op op_sub sem_sub (tr_var 3) (tr_var 5))))))) (trs_one (tr_frz 2 (tr_ret (tr_callTy call_tuple_of sem_tupOf rfl m_tuple bo_tuple (tra_cons (tr_var 2) tra_nil)))))))
theorem ok__law_message {f : Addr} {fd : FuncData} (F : FnP K "_law_message" (top 59) sc__law_message f fd) (gl : mg "_law_message" = some (.ref f)) (m_tuple : mg "tuple" = none) (m_range : mg "range" = none) (h__law_draw : FnGs P w K mg base 2 "_law_draw" ["_law_state", "_law_many"] F__law_draw) : FnGs P w K mg base 3 "_law_message" ["_law_state", "_law_prime_so", "_law_many"] F__law_message := by
  have sc : FnScope ["_law_state", "_law_prime_so", "_law_many", "_law_k"] ["_law_state", "_law_prime_so", "_law_many"] sc__law_message := ⟨rfl, rfl, rfl, by decide +kernel, rfl, by decide +kernel, by decide +kernel⟩
  refine ⟨f, fd, fn_trG (k := 2) F sc (fun cdv A outer s H E hcd hgd hr => ?_), gl, F.kp, F.bindsN fun _ _ _ _ _ _ us hl => match us, hl with | [_, _, _], _ => rfl⟩
  have tk : Takes (cxOf (L2.CX P w) P w K mg base ["_law_state", "_law_prime_so", "_law_many", "_law_k"] "_law_message" sc__law_message f cdv A outer s H E) (wOf E) := takes_of rfl rfl rfl rfl
  exact (trs_one (tr_ret (tr_callTy call_tuple_of sem_tupOf rfl m_tuple bo_tuple (tra_cons (tr_lc (own := [("_law_k", 3)]) rfl sc.nd (tri_rng1 rfl m_range (tra_cons (tr_var 2) tra_nil)) (blkOk_by (N := ["_law_state", "_law_prime_so", "_law_many", "_law_k"]) (sc := sc__law_message) (by decide +kernel)) (by decide) (fun _ _ _ _ _ => (trg_name sc.nd rfl (by first | exact .inl rfl | exact .inr rfl))) (fun _ _ _ _ _ => trt_nil) (fun _ _ _ _ _ => (tr_callG h__law_draw hgd (hr.mono (by decide)) takes0 rfl (tra_cons (tr_var 0) (tra_cons (tr_var 1) tra_nil))))) tra_nil))))
theorem ok__law_lot {f : Addr} {fd : FuncData} (F : FnP K "_law_lot" (top 60) sc__law_lot f fd) (gl : mg "_law_lot" = some (.ref f)) (m_tuple : mg "tuple" = none) (m_range : mg "range" = none) (h__law_draw : FnGs P w K mg base 2 "_law_draw" ["_law_state", "_law_many"] F__law_draw) : FnGs P w K mg base 3 "_law_lot" ["_law_state", "_law_many"] F__law_lot := by
  have sc : FnScope ["_law_state", "_law_many", "_law_one"] ["_law_state", "_law_many"] sc__law_lot := ⟨rfl, rfl, rfl, by decide +kernel, rfl, by decide +kernel, by decide +kernel⟩
  refine ⟨f, fd, fn_trG (k := 2) F sc (fun cdv A outer s H E hcd hgd hr => ?_), gl, F.kp, F.bindsN fun _ _ _ _ _ _ us hl => match us, hl with | [_, _], _ => rfl⟩
  have tk : Takes (cxOf (L2.CX P w) P w K mg base ["_law_state", "_law_many", "_law_one"] "_law_lot" sc__law_lot f cdv A outer s H E) (wOf E) := takes_of rfl rfl rfl rfl
  exact (trs_one (tr_ret (tr_callTy call_tuple_of sem_tupOf rfl m_tuple bo_tuple (tra_cons (tr_lc (own := [("_law_one", 2)]) rfl sc.nd (tri_rng1 rfl m_range (tra_cons (tr_var 1) tra_nil)) (blkOk_by (N := ["_law_state", "_law_many", "_law_one"]) (sc := sc__law_lot) (by decide +kernel)) (by decide) (fun _ _ _ _ _ => (trg_name sc.nd rfl (by first | exact .inl rfl | exact .inr rfl))) (fun _ _ _ _ _ => (trt_one (trb_cmp (op_eqS hr.units) sem_eqS (tr_callG h__law_draw hgd (hr.mono (by decide)) takes0 rfl (tra_cons (tr_var 0) (tra_cons tr_int tra_nil))) tr_int (nomark _)))) (fun _ _ _ _ _ => (tr_var 2))) tra_nil))))
theorem ok__law_heard {f : Addr} {fd : FuncData} (F : FnP K "_law_heard" (top 61) sc__law_heard f fd) (gl : mg "_law_heard" = some (.ref f)) (xb_Unsound : XB K (xName 11) "need" "ValueError.__new__" tlV) (g_Unsound : mg "Unsound" = some (.ref (He.ga K "Unsound"))) (e_Unsound_Unsound : PySem.W.exmOne K (.ref (He.ga K (xName 11))) (.ref (He.ga K "Unsound")) = some true) : HearIs P w K mg base "_law_heard" "_law_deed" wrI N__law_heard H__law_heard := by
  have sc : FnScope ["_law_deed", "_law_got", "e"] ["_law_deed"] sc__law_heard := ⟨rfl, rfl, rfl, by decide +kernel, rfl, by decide +kernel, by decide +kernel⟩
  refine ⟨f, fd, _, _, sc__law_heard, ["_law_deed", "_law_got", "e"], F, gl, F.bindsN fun _ _ _ _ _ _ us hl => match us, hl with | [_], _ => rfl, sc, rfl, .inl rfl, by decide, by decide, fun cdg => ?_⟩
  refine hears_S (j := 1) sc.nd (fun _ => rfl) rfl (by decide) rfl ?_ (fun _ => rfl) (fun _ => rfl) (by decide) (by decide) (fun A stack s H => ?_)
  · unfold H__law_heard
    intro x hx i hi
    simp only [List.mem_cons, List.not_mem_nil, or_false] at hx
    rcases hx with rfl <;> cases hi <;> decide
  · exact ⟨_, (.cons (x := "Unsound") (c := .ref (He.ga K "Unsound")) (ms := [11]) (m := (fun n => [11].contains n)) (io := some 2) ⟨rfl, rfl, .inl g_Unsound⟩ (fun i z => by cases z; exact ⟨"e", rfl, rfl, rfl⟩) (fun z => by cases z) (allC (p := fun n => PySem.W.exmOne K (.ref (He.ga K (xName n))) (.ref (He.ga K "Unsound")) = some ((fun n => [11].contains n) n)) e_Unsound_Unsound allN) (memC (m := (fun n => [11].contains n)) (by decide) (allN (p := fun n => (fun n => [11].contains n) n = true → n ∈ [11]))) (su_set sc.nd rfl (.inl rfl) (trx_lst (trx_cons (trx_fld (i := 2) (k := 0) (n := 11) xb_Unsound.xf xb_Unsound.no rfl (.inl rfl) rfl (by decide)) trx_nil))) .nil)⟩
theorem ok__law_fits {f : Addr} {fd : FuncData} (F : FnP K "_law_fits" (top 62) sc__law_fits f fd) (gl : mg "_law_fits" = some (.ref f)) (h__law_between : FnGs P w K mg base 2 "_law_between" ["_law_prime_so", "_law_points", "_law_sign"] F__law_between) : FnGs P w K mg base 3 "_law_fits" ["_law_prime_so", "_law_points_so", "_law_need"] F__law_fits := by
  have sc : FnScope ["_law_prime_so", "_law_points_so", "_law_need", "_law_some", "_law_one", "_law_height"] ["_law_prime_so", "_law_points_so", "_law_need"] sc__law_fits := ⟨rfl, rfl, rfl, by decide +kernel, rfl, by decide +kernel, by decide +kernel⟩
  refine ⟨f, fd, fn_trG (k := 2) F sc (fun cdv A outer s H E hcd hgd hr => ?_), gl, F.kp, F.bindsN fun _ _ _ _ _ _ us hl => match us, hl with | [_, _, _], _ => rfl⟩
  have tk : Takes (cxOf (L2.CX P w) P w K mg base ["_law_prime_so", "_law_points_so", "_law_need", "_law_some", "_law_one", "_law_height"] "_law_fits" sc__law_fits f cdv A outer s H E) (wOf E) := takes_of rfl rfl rfl rfl
  exact (trs_cons (tr_set (i := 3) sc.nd rfl (.inr rfl) (tr_slice (tr_var 1) tro_no (tro_some (tr_var 2)))) (trs_one (tr_ret (tr_cmp (op_eqS hr.units) sem_eqS (tr_lc (own := [("_law_one", 4), ("_law_height", 5)]) rfl sc.nd (tri_lst (tr_slice (tr_var 1) (tro_some (tr_var 2)) tro_no)) (blkOk_by (N := ["_law_prime_so", "_law_points_so", "_law_need", "_law_some", "_law_one", "_law_height"]) (sc := sc__law_fits) (by decide +kernel)) (by decide) (fun _ _ _ _ _ => (trg_tup rfl (trgs_cons (trg_name sc.nd rfl (by first | exact .inl rfl | exact .inr rfl)) (trgs_cons (trg_name sc.nd rfl (by first | exact .inl rfl | exact .inr rfl)) trgs_nil)))) (fun _ _ _ _ _ => (trt_one (trb_cmp (op_neS hr.units) sem_neS (tr_callG h__law_between hgd (hr.mono (by decide)) takes0 rfl (tra_cons (tr_var 0) (tra_cons (tr_var 3) (tra_cons (tr_var 4) tra_nil)))) (tr_var 5) (nomark _)))) (fun _ _ _ _ _ => tr_int)) (tr_lst tra_nil) (nomark _)))))
theorem ok__law_unfit {f : Addr} {fd : FuncData} (F : FnP K "_law_unfit" (top 63) sc__law_unfit f fd) (gl : mg "_law_unfit" = some (.ref f)) (m_enumerate : mg "enumerate" = none) (m_sorted : mg "sorted" = none) (h__law_needs : FnGs P w K mg base 1 "_law_needs" ["_law_shares_here"] F__law_needs) (h__law_fits : FnGs P w K mg base 3 "_law_fits" ["_law_prime_so", "_law_points_so", "_law_need"] F__law_fits) : FnGs P w K mg base 4 "_law_unfit" ["_law_prime_so", "_law_shares_here", "_law_mail_so"] F__law_unfit := by
  have sc : FnScope ["_law_prime_so", "_law_shares_here", "_law_mail_so", "_law_got", "_law_place", "_law_need", "_law_number", "_law_letter"] ["_law_prime_so", "_law_shares_here", "_law_mail_so"] sc__law_unfit := ⟨rfl, rfl, rfl, by decide +kernel, rfl, by decide +kernel, by decide +kernel⟩
  refine ⟨f, fd, fn_trG (k := 3) F sc (fun cdv A outer s H E hcd hgd hr => ?_), gl, F.kp, F.bindsN fun _ _ _ _ _ _ us hl => match us, hl with | [_, _, _], _ => rfl⟩
  have tk : Takes (cxOf (L2.CX P w) P w K mg base ["_law_prime_so", "_law_shares_here", "_law_mail_so", "_law_got", "_law_place", "_law_need", "_law_number", "_law_letter"] "_law_unfit" sc__law_unfit f cdv A outer s H E) (wOf E) := takes_of rfl rfl rfl rfl
  exact (trs_cons (tr_ownD (i := 3) sc.nd rfl (.inl rfl)) (trs_cons (tr_for (passes_of rfl) rfl (tri_enL rfl m_enumerate (tra_cons (tr_callG h__law_needs hgd (hr.mono (by decide)) tk rfl (tra_cons (tr_var 1) tra_nil)) tra_nil)) (trg_tup rfl (trgs_cons (trg_name sc.nd rfl (.inr rfl)) (trgs_cons (trg_name sc.nd rfl (.inl rfl)) trgs_nil))) (trs_one (tr_ifs (trb_not (trb_tru (tr_callG h__law_fits hgd (hr.mono (by decide)) tk rfl (tra_cons (tr_var 0) (tra_cons (tr_lc (own := [("_law_number", 6), ("_law_letter", 7)]) rfl sc.nd (tri_tup (tr_var 2)) (blkOk_by (N := ["_law_prime_so", "_law_shares_here", "_law_mail_so", "_law_got", "_law_place", "_law_need", "_law_number", "_law_letter"]) (sc := sc__law_unfit) (by decide +kernel)) (by decide) (fun _ _ _ _ _ => (trg_tup rfl (trgs_cons (trg_name sc.nd rfl (by first | exact .inl rfl | exact .inr rfl)) (trgs_cons (trg_name sc.nd rfl (by first | exact .inl rfl | exact .inr rfl)) trgs_nil)))) (fun _ _ _ _ _ => trt_nil) (fun _ _ _ _ _ => (tr_tup (tra_cons (tr_op op_addW sem_add (tr_var 6) tr_int) (tra_cons (tr_ix ix_seq sem_ix (tr_var 7) (tr_var 4)) tra_nil))))) (tra_cons (tr_var 5) tra_nil)))))) (trs_one (tr_dput (units1 (Room.units65 hr)) (pv 3) (tr_var 5) tr_bl)) trs_nil))) (trs_one (tr_frz 3 (tr_ret (tr_callB (call_sortedDI rfl) sem_sortedD rfl m_sorted bo_sorted (tra_cons (tr_var 3) tra_nil)))))))
theorem ok__law_altered {f : Addr} {fd : FuncData} (F : FnP K "_law_altered" (top 64) sc__law_altered f fd) (gl : mg "_law_altered" = some (.ref f)) (m_list : mg "list" = none) (m_len : mg "len" = none) (m_int : mg "int" = none) (m_tuple : mg "tuple" = none) (h__law_draw : FnGs P w K mg base 2 "_law_draw" ["_law_state", "_law_many"] F__law_draw) : FnGs P w K mg base 3 "_law_altered" ["_law_state", "_law_prime_so", "_law_mail_so"] F__law_altered := by
  have sc : FnScope ["_law_state", "_law_prime_so", "_law_mail_so", "_law_got", "_law_number", "_law_letter", "_law_signs", "_law_at"] ["_law_state", "_law_prime_so", "_law_mail_so"] sc__law_altered := ⟨rfl, rfl, rfl, by decide +kernel, rfl, by decide +kernel, by decide +kernel⟩
  refine ⟨f, fd, fn_trG (k := 2) F sc (fun cdv A outer s H E hcd hgd hr => ?_), gl, F.kp, F.bindsN fun _ _ _ _ _ _ us hl => match us, hl with | [_, _, _], _ => rfl⟩
  have tk : Takes (cxOf (L2.CX P w) P w K mg base ["_law_state", "_law_prime_so", "_law_mail_so", "_law_got", "_law_number", "_law_letter", "_law_signs", "_law_at"] "_law_altered" sc__law_altered f cdv A outer s H E) (wOf E) := takes_of rfl rfl rfl rfl
  exact (trs_cons (tr_own (i := 3) sc.nd rfl (.inl rfl) tra_nil) (trs_cons (tr_for (passes_of rfl) rfl (tri_tup (tr_var 2)) (trg_tup rfl (trgs_cons (trg_name sc.nd rfl (.inl rfl)) (trgs_cons (trg_name sc.nd rfl (.inl rfl)) trgs_nil))) (trs_cons (tr_ownOf (i := 6) sc.nd rfl (.inl rfl) rfl m_list (tr_var 5)) (trs_cons (tr_ifs (trb_frz 6 (TrW.toB (trw_and (trb_cmp (op_neS hr.units) sem_neS (tr_var 6) (tr_lst tra_nil) (nomark _)) (trw_and1 (trb_cmp (op_eqS hr.units) sem_eqS (tr_callG h__law_draw hgd (hr.mono (by decide)) tk rfl (tra_cons (tr_var 0) (tra_cons tr_int tra_nil))) tr_int (nomark _)))))) (trs_cons (tr_set (i := 7) sc.nd rfl (.inl rfl) (tr_callG h__law_draw hgd (hr.mono (by decide)) tk rfl (tra_cons (tr_var 0) (tra_cons (tre_frz 6 (tr_callB call_len sem_len rfl m_len bo_len (tra_cons (tr_var 6) tra_nil))) tra_nil)))) (trs_one (tr_at (pv 6) (tr_var 7) (tr_op op_mod sem_mod (tr_callTy call_int1 sem_int1 rfl m_int bo_int (tra_cons (tr_op op_addW sem_add (tr_op op_addW sem_add (tre_frz 6 (tr_ix ix_seq sem_ix (tr_var 6) (tr_var 7))) tr_int) (tr_callG h__law_draw hgd (hr.mono (by decide)) tk rfl (tra_cons (tr_var 0) (tra_cons (tr_op op_sub sem_sub (tr_var 1) tr_int) tra_nil)))) tra_nil)) (tr_var 1))))) trs_nil) (trs_one (tr_frz 6 (tr_app (pv 3) (tra_cons (tr_tup (tra_cons (tr_var 4) (tra_cons (tr_callTy call_tuple_of sem_tupOf rfl m_tuple bo_tuple (tra_cons (tr_var 6) tra_nil)) tra_nil))) tra_nil))))))) (trs_one (tr_frz 3 (tr_ret (tr_callTy call_tuple_of sem_tupOf rfl m_tuple bo_tuple (tra_cons (tr_var 3) tra_nil)))))))
theorem ok__law_mail_right {f : Addr} {fd : FuncData} (F : FnP K "_law_mail_right" (top 65) sc__law_mail_right f fd) (gl : mg "_law_mail_right" = some (.ref f)) (tb : ∀ z ∈ tabC K, LamX.TabB base mg z.1 z.2.1) (ap : ∀ p ∈ tabL K, ∀ q ∈ tabL K, q.1 = p.1 → q.2 = p.2) (m_range : mg "range" = none) (m_tuple : mg "tuple" = none) (m_len : mg "len" = none) (m_repr : mg "repr" = none) (m_isinstance : mg "isinstance" = none) (m_enumerate : mg "enumerate" = none) (h__law_heard : HearIs P w K mg base "_law_heard" "_law_deed" wrI N__law_heard H__law_heard) (h__law_unfit : FnGs P w K mg base 4 "_law_unfit" ["_law_prime_so", "_law_shares_here", "_law_mail_so"] F__law_unfit) (h_need_mail : FnGs P w K mg base 7 "need_mail" ["prime", "laying", "thing"] F_need_mail) (h_unfit_needs : FnGs P w K mg base 8 "unfit_needs" ["prime", "laying", "mail"] F_unfit_needs) (h_does_fit : FnGs P w K mg base 8 "does_fit" ["prime", "laying", "mail", "need"] F_does_fit) (h_read : FnGs P w K mg base 8 "read" ["prime", "laying", "mail"] F_read) (h__law_stair : FnGs P w K mg base 1 "_law_stair" ["_law_shares_here"] F__law_stair) (h__law_letters : FnGs P w K mg base 2 "_law_letters" ["_law_prime_so", "_law_shares_here", "_law_message_so"] F__law_letters) (h__law_needs : FnGs P w K mg base 1 "_law_needs" ["_law_shares_here"] F__law_needs) : FnGs P w K mg base 11 "_law_mail_right" ["_law_prime_so", "_law_shares_here", "_law_mail_so"] F__law_mail_right := by
  have sc : FnScope ["_law_prime_so", "_law_shares_here", "_law_mail_so", "_law_due", "_law_turn", "_law_need", "_law_got", "_law_whole", "_law_letters_so", "_law_place", "_law_number", "_law_letter"] ["_law_prime_so", "_law_shares_here", "_law_mail_so"] sc__law_mail_right := ⟨rfl, rfl, rfl, by decide +kernel, rfl, by decide +kernel, by decide +kernel⟩
  refine ⟨f, fd, fn_trG (k := 10) F sc (fun cdv A outer s H E hcd hgd hr => ?_), gl, F.kp, F.bindsN fun _ _ _ _ _ _ us hl => match us, hl with | [_, _, _], _ => rfl⟩
  have tk : Takes (cxOf (L2.CX P w) P w K mg base ["_law_prime_so", "_law_shares_here", "_law_mail_so", "_law_due", "_law_turn", "_law_need", "_law_got", "_law_whole", "_law_letters_so", "_law_place", "_law_number", "_law_letter"] "_law_mail_right" sc__law_mail_right f cdv A outer s H E) (wOf E) := takes_of rfl rfl rfl rfl
  have mk : MkT K mg base cdv ("_law_mail_right" ++ ".<locals>." ++ "<lambda>") := by
    rw [← hcd]
    exact mk_of F tb ap
  exact (trs_cons (tr_set (i := 3) sc.nd rfl (.inl rfl) (tr_callG h__law_unfit hgd (hr.mono (by decide)) tk rfl (tra_cons (tr_var 0) (tra_cons (tr_var 1) (tra_cons (tr_var 2) tra_nil))))) (trs_cons (tr_for (passes_of rfl) rfl (tri_rng1 rfl m_range (tra_cons tr_int tra_nil)) (trg_name sc.nd rfl (.inl rfl)) (trs_cons (tr_ifs (TrW.toB (trw_or (trb_cmp (op_neS hr.units) sem_neS (tr_callG h_need_mail hgd (hr.mono (by decide)) tk rfl (tra_cons (tr_var 0) (tra_cons (tr_var 1) (tra_cons (tr_var 2) tra_nil)))) (tr_var 2) (nomark _)) (trw_or1 (trb_cmp (op_neS hr.units) sem_neS (tr_callG h_unfit_needs hgd (hr.mono (by decide)) tk rfl (tra_cons (tr_var 0) (tra_cons (tr_var 1) (tra_cons (tr_var 2) tra_nil)))) (tr_callTy call_tuple_of sem_tupOf rfl m_tuple bo_tuple (tra_cons (tr_var 3) tra_nil)) (nomark _))))) (trs_one (tr_ret tr_bl)) trs_nil) (trs_one (tr_for (passes_of rfl) rfl (tri_rng2 rfl m_range (tra_cons tr_int (tra_cons (tr_op op_addW sem_add (tr_callB call_len sem_len rfl m_len bo_len (tra_cons (tr_var 1) tra_nil)) tr_int) tra_nil))) (trg_name sc.nd rfl (.inl rfl)) (trs_cons (tr_ifs (trb_cmp (op_neS hr.units) sem_neS (tr_callB (cr_repr hgd hr.units) sem_repr rfl m_repr bo_repr (tra_cons (tr_callG h_does_fit hgd (hr.mono (by decide)) tk rfl (tra_cons (tr_var 0) (tra_cons (tr_var 1) (tra_cons (tr_var 2) (tra_cons (tr_var 5) tra_nil))))) tra_nil)) (tr_callB (cr_repr hgd hr.units) sem_repr rfl m_repr bo_repr (tra_cons (tr_cmp (op_ninW (Room.units65 hr)) sem_nin (tr_var 5) (tr_var 3) (by with_unfolding_all rfl)) tra_nil)) (nomark _)) (trs_one (tr_ret tr_bl)) trs_nil) (trs_one (tr_ifs (TrW.toB (trw_and (trb_cmp op_le sem_le (tr_callB call_len sem_len rfl m_len bo_len (tra_cons (tr_var 2) tra_nil)) (tr_var 5) (nomark _)) (trw_and1 (trb_cmp (op_inW (Room.units65 hr)) sem_in (tr_var 5) (tr_var 3) (by with_unfolding_all rfl))))) (trs_one (tr_ret tr_bl)) trs_nil))))))) (trs_cons (tr_set (i := 6) sc.nd rfl (.inl rfl) (tr_hear (k := 8) (one := none) h__law_heard mk hgd (hr.mono (by decide)) rfl (lmS_by (by kernel_rfl)) .zero (fun _ _ _ _ _ _ _ hgd hr => (tr_callG h_read hgd (hr.mono (by decide)) (takes_of rfl rfl rfl rfl) rfl (tra_cons (tr_var 0) (tra_cons (tr_var 1) (tra_cons (tr_var 2) tra_nil))))))) (trs_cons (tr_ifs (trb_cmp (op_neS hr.units) sem_neS (tr_var 3) (tr_lst tra_nil) (nomark _)) (trs_one (tr_ret (tr_cmp (op_eqS hr.units) sem_eqS (tr_var 6) (tr_lst (tra_cons (tr_ix ix_seq sem_ix (tr_var 3) tr_int) tra_nil)) (nomark _)))) trs_nil) (trs_cons (tr_set (i := 7) sc.nd rfl (.inl rfl) (tr_op op_addW sem_add (tr_tup (tra_cons tr_int tra_nil)) (tr_callG h__law_stair hgd (hr.mono (by decide)) tk rfl (tra_cons (tr_var 1) tra_nil)))) (trs_cons (tr_ifs (TrW.toB (trw_or (trb_not (trb_tru (tr_isi isi_tuple rfl m_isinstance rfl m_tuple boot_ty_tuple (tr_var 6)))) (trw_or1 (trb_cmp (op_neS hr.units) sem_neS (tr_callB call_len sem_len rfl m_len bo_len (tra_cons (tr_var 6) tra_nil)) (tr_ix ix_seq sem_ix (tr_var 7) (tr_callB call_len sem_len rfl m_len bo_len (tra_cons (tr_var 2) tra_nil))) (nomark _))))) (trs_one (tr_ret tr_bl)) trs_nil) (trs_cons (tr_set (i := 8) sc.nd rfl (.inr rfl) (tr_callG h__law_letters hgd (hr.mono (by decide)) tk rfl (tra_cons (tr_var 0) (tra_cons (tr_var 1) (tra_cons (tr_op op_addW sem_add (tr_var 6) (tr_op op_mulTZ sem_mulTZ (tr_tup (tra_cons tr_int tra_nil)) (tr_op op_sub sem_sub (tr_ix ix_seq sem_ix (tr_var 7) (tr_un un_neg sem_neg tr_int)) (tr_callB call_len sem_len rfl m_len bo_len (tra_cons (tr_var 6) tra_nil))))) tra_nil))))) (trs_cons (tr_for (passes_of rfl) rfl (tri_enL rfl m_enumerate (tra_cons (tr_callG h__law_needs hgd (hr.mono (by decide)) tk rfl (tra_cons (tr_var 1) tra_nil)) tra_nil)) (trg_tup rfl (trgs_cons (trg_name sc.nd rfl (.inr rfl)) (trgs_cons (trg_name sc.nd rfl (.inl rfl)) trgs_nil))) (trs_one (tr_ifs (trb_cmp op_le sem_le (tr_var 5) (tr_callB call_len sem_len rfl m_len bo_len (tra_cons (tr_var 2) tra_nil)) (nomark _)) (trs_one (tr_ifs (trb_cmp (op_neS hr.units) sem_neS (tr_lc (own := [("_law_number", 10), ("_law_letter", 11)]) rfl sc.nd (tri_tup (tr_var 2)) (blkOk_by (N := ["_law_prime_so", "_law_shares_here", "_law_mail_so", "_law_due", "_law_turn", "_law_need", "_law_got", "_law_whole", "_law_letters_so", "_law_place", "_law_number", "_law_letter"]) (sc := sc__law_mail_right) (by decide +kernel)) (by decide) (fun _ _ _ _ _ => (trg_tup rfl (trgs_cons (trg_name sc.nd rfl (by first | exact .inl rfl | exact .inr rfl)) (trgs_cons (trg_name sc.nd rfl (by first | exact .inl rfl | exact .inr rfl)) trgs_nil)))) (fun _ _ _ _ _ => (trt_one (trb_cmp (op_neS hr.units) sem_neS (tr_ix ix_seq sem_ix (tr_ix ix_seq sem_ix (tr_var 8) (tr_var 10)) (tr_var 9)) (tr_ix ix_seq sem_ix (tr_var 11) (tr_var 9)) (nomark _)))) (fun _ _ _ _ _ => tr_int)) (tr_lst tra_nil) (nomark _)) (trs_one (tr_ret tr_bl)) trs_nil)) trs_nil))) (trs_one (tr_ret tr_bl))))))))))
theorem ok__law_message_right {f : Addr} {fd : FuncData} (F : FnP K "_law_message_right" (top 66) sc__law_message_right f fd) (gl : mg "_law_message_right" = some (.ref f)) (m_range : mg "range" = none) (m_tuple : mg "tuple" = none) (m_len : mg "len" = none) (m_zip : mg "zip" = none) (h__law_stair : FnGs P w K mg base 1 "_law_stair" ["_law_shares_here"] F__law_stair) (h__law_message : FnGs P w K mg base 3 "_law_message" ["_law_state", "_law_prime_so", "_law_many"] F__law_message) (h__law_letters : FnGs P w K mg base 2 "_law_letters" ["_law_prime_so", "_law_shares_here", "_law_message_so"] F__law_letters) (h_letters_of : FnGs P w K mg base 6 "letters_of" ["prime", "laying", "message"] F_letters_of) (h__law_lot : FnGs P w K mg base 3 "_law_lot" ["_law_state", "_law_many"] F__law_lot) (h_read : FnGs P w K mg base 8 "read" ["prime", "laying", "mail"] F_read) (h__law_altered : FnGs P w K mg base 3 "_law_altered" ["_law_state", "_law_prime_so", "_law_mail_so"] F__law_altered) (h__law_mail_right : FnGs P w K mg base 11 "_law_mail_right" ["_law_prime_so", "_law_shares_here", "_law_mail_so"] F__law_mail_right) (h__law_needs : FnGs P w K mg base 1 "_law_needs" ["_law_shares_here"] F__law_needs) (h_unfit_needs : FnGs P w K mg base 8 "unfit_needs" ["prime", "laying", "mail"] F_unfit_needs) : FnGs P w K mg base 12 "_law_message_right" ["_law_state", "_law_prime_so", "_law_shares_here"] F__law_message_right := by
  have sc : FnScope ["_law_state", "_law_prime_so", "_law_shares_here", "_law_whole", "_law_message_so", "_law_due", "_law_k", "_law_mail_so", "_law_bent", "_law_changed", "_law_fine", "_law_odd", "_law_need", "_law_one", "_law_far", "_law_number", "_law_letter"] ["_law_state", "_law_prime_so", "_law_shares_here"] sc__law_message_right := ⟨rfl, rfl, rfl, by decide +kernel, rfl, by decide +kernel, by decide +kernel⟩
  refine ⟨f, fd, fn_trG (k := 11) F sc (fun cdv A outer s H E hcd hgd hr => ?_), gl, F.kp, F.bindsN fun _ _ _ _ _ _ us hl => match us, hl with | [_, _, _], _ => rfl⟩
  have tk : Takes (cxOf (L2.CX P w) P w K mg base ["_law_state", "_law_prime_so", "_law_shares_here", "_law_whole", "_law_message_so", "_law_due", "_law_k", "_law_mail_so", "_law_bent", "_law_changed", "_law_fine", "_law_odd", "_law_need", "_law_one", "_law_far", "_law_number", "_law_letter"] "_law_message_right" sc__law_message_right f cdv A outer s H E) (wOf E) := takes_of rfl rfl rfl rfl
  exact (trs_cons (tr_set (i := 3) sc.nd rfl (.inl rfl) (tr_op op_addW sem_add (tr_tup (tra_cons tr_int tra_nil)) (tr_callG h__law_stair hgd (hr.mono (by decide)) tk rfl (tra_cons (tr_var 2) tra_nil)))) (trs_cons (tr_set (i := 4) sc.nd rfl (.inl rfl) (tr_callG h__law_message hgd (hr.mono (by decide)) tk rfl (tra_cons (tr_var 0) (tra_cons (tr_var 1) (tra_cons (tr_ix ix_seq sem_ix (tr_var 3) (tr_un un_neg sem_neg tr_int)) tra_nil))))) (trs_cons (tr_set (i := 5) sc.nd rfl (.inr rfl) (tr_callG h__law_letters hgd (hr.mono (by decide)) tk rfl (tra_cons (tr_var 1) (tra_cons (tr_var 2) (tra_cons (tr_var 4) tra_nil))))) (trs_cons (tr_ifs (TrW.toB (trw_or (trb_cmp (op_neS hr.units) sem_neS (tr_callG h_letters_of hgd (hr.mono (by decide)) tk rfl (tra_cons (tr_var 1) (tra_cons (tr_var 2) (tra_cons (tr_var 4) tra_nil)))) (tr_var 5) (nomark _)) (trw_or1 (trb_cmp (op_neS hr.units) sem_neS (tr_callG h_letters_of hgd (hr.mono (by decide)) tk rfl (tra_cons (tr_var 1) (tra_cons (tr_var 2) (tra_cons (tr_var 4) tra_nil)))) (tr_var 5) (nomark _))))) (trs_one (tr_ret tr_bl)) trs_nil) (trs_cons (tr_for (passes_of rfl) rfl (tri_rng1 rfl m_range (tra_cons tr_int tra_nil)) (trg_name sc.nd rfl (.inl rfl)) (trs_cons (tr_set (i := 7) sc.nd rfl (.inr rfl) (tr_callTy call_tuple_of sem_tupOf rfl m_tuple bo_tuple (tra_cons (tr_lc (own := [("_law_one", 13)]) rfl sc.nd (tri_tup (tr_callG h__law_lot hgd (hr.mono (by decide)) tk rfl (tra_cons (tr_var 0) (tra_cons (tr_callB call_len sem_len rfl m_len bo_len (tra_cons (tr_var 2) tra_nil)) tra_nil)))) (blkOk_by (N := ["_law_state", "_law_prime_so", "_law_shares_here", "_law_whole", "_law_message_so", "_law_due", "_law_k", "_law_mail_so", "_law_bent", "_law_changed", "_law_fine", "_law_odd", "_law_need", "_law_one", "_law_far", "_law_number", "_law_letter"]) (sc := sc__law_message_right) (by decide +kernel)) (by decide) (fun _ _ _ _ _ => (trg_name sc.nd rfl (by first | exact .inl rfl | exact .inr rfl))) (fun _ _ _ _ _ => trt_nil) (fun _ _ _ _ _ => (tr_tup (tra_cons (tr_var 13) (tra_cons (tr_ix ix_seq sem_ix (tr_var 5) (tr_var 13)) tra_nil))))) tra_nil))) (trs_cons (tr_ifs (trb_cmp (op_neS hr.units) sem_neS (tr_callG h_read hgd (hr.mono (by decide)) tk rfl (tra_cons (tr_var 1) (tra_cons (tr_var 2) (tra_cons (tr_var 7) tra_nil)))) (tr_slice (tr_var 4) tro_no (tro_some (tr_ix ix_seq sem_ix (tr_var 3) (tr_callB call_len sem_len rfl m_len bo_len (tra_cons (tr_var 7) tra_nil))))) (nomark _)) (trs_one (tr_ret tr_bl)) trs_nil) (trs_cons (tr_set (i := 8) sc.nd rfl (.inl rfl) (tr_callG h__law_altered hgd (hr.mono (by decide)) tk rfl (tra_cons (tr_var 0) (tra_cons (tr_var 1) (tra_cons (tr_var 7) tra_nil))))) (trs_cons (tr_ifs (TrW.toB (trw_or (trb_not (trb_tru (tr_callG h__law_mail_right hgd (hr.mono (by decide)) tk rfl (tra_cons (tr_var 1) (tra_cons (tr_var 2) (tra_cons (tr_var 7) tra_nil)))))) (trw_or1 (trb_not (trb_tru (tr_callG h__law_mail_right hgd (hr.mono (by decide)) tk rfl (tra_cons (tr_var 1) (tra_cons (tr_var 2) (tra_cons (tr_var 8) tra_nil))))))))) (trs_one (tr_ret tr_bl)) trs_nil) (trs_cons (tr_set (i := 9) sc.nd rfl (.inr rfl) (tr_callB call_len sem_len rfl m_len bo_len (tra_cons (tr_lc (own := [("_law_one", 13), ("_law_far", 14)]) rfl sc.nd (tri_zip rfl m_zip (tra_cons (tr_var 7) (tra_cons (tr_var 8) tra_nil))) (blkOk_by (N := ["_law_state", "_law_prime_so", "_law_shares_here", "_law_whole", "_law_message_so", "_law_due", "_law_k", "_law_mail_so", "_law_bent", "_law_changed", "_law_fine", "_law_odd", "_law_need", "_law_one", "_law_far", "_law_number", "_law_letter"]) (sc := sc__law_message_right) (by decide +kernel)) (by decide) (fun _ _ _ _ _ => (trg_tup rfl (trgs_cons (trg_name sc.nd rfl (by first | exact .inl rfl | exact .inr rfl)) (trgs_cons (trg_name sc.nd rfl (by first | exact .inl rfl | exact .inr rfl)) trgs_nil)))) (fun _ _ _ _ _ => (trt_one (trb_cmp (op_neS hr.units) sem_neS (tr_var 13) (tr_var 14) (nomark _)))) (fun _ _ _ _ _ => tr_int)) tra_nil))) (trs_cons (tr_setLc (i := 10) (own := [("_law_need", 12)]) rfl sc.nd rfl rfl (sw_true rfl rfl rfl (by decide +kernel)) (tri_lst (tr_callG h__law_needs hgd (hr.mono (by decide)) tk rfl (tra_cons (tr_var 2) tra_nil))) (blkOk_by (N := ["_law_state", "_law_prime_so", "_law_shares_here", "_law_whole", "_law_message_so", "_law_due", "_law_k", "_law_mail_so", "_law_bent", "_law_changed", "_law_fine", "_law_odd", "_law_need", "_law_one", "_law_far", "_law_number", "_law_letter"]) (sc := sc__law_message_right) (by decide +kernel)) (by decide) (fun _ _ _ _ _ => (trg_name sc.nd rfl (by first | exact .inl rfl | exact .inr rfl))) (fun _ _ _ _ _ => (trt_one (trb_cmp op_le sem_le (tr_var 12) (tr_op op_sub sem_sub (tr_callB call_len sem_len rfl m_len bo_len (tra_cons (tr_var 7) tra_nil)) (tr_var 9)) (nomark _)))) (fun _ _ _ _ _ => (tr_var 12))) (trs_cons (tr_ifs (TrW.toB (trw_and (trb_cmp op_gt sem_gt (tr_var 9) tr_int (nomark _)) (trw_and (trb_cmp (op_eqS hr.units) sem_eqS (tr_var 10) (tr_callG h__law_needs hgd (hr.mono (by decide)) tk rfl (tra_cons (tr_var 2) tra_nil)) (nomark _)) (trw_and1 (trb_cmp (op_eqS hr.units) sem_eqS (tr_callG h_unfit_needs hgd (hr.mono (by decide)) tk rfl (tra_cons (tr_var 1) (tra_cons (tr_var 2) (tra_cons (tr_var 8) tra_nil)))) (tr_tup tra_nil) (nomark _)))))) (trs_one (tr_ret tr_bl)) trs_nil) (trs_cons (tr_set (i := 11) sc.nd rfl (.inl rfl) (tr_callTy call_tuple_of sem_tupOf rfl m_tuple bo_tuple (tra_cons (tr_lc (own := [("_law_number", 15), ("_law_letter", 16)]) rfl sc.nd (tri_tup (tr_var 7)) (blkOk_by (N := ["_law_state", "_law_prime_so", "_law_shares_here", "_law_whole", "_law_message_so", "_law_due", "_law_k", "_law_mail_so", "_law_bent", "_law_changed", "_law_fine", "_law_odd", "_law_need", "_law_one", "_law_far", "_law_number", "_law_letter"]) (sc := sc__law_message_right) (by decide +kernel)) (by decide) (fun _ _ _ _ _ => (trg_tup rfl (trgs_cons (trg_name sc.nd rfl (by first | exact .inl rfl | exact .inr rfl)) (trgs_cons (trg_name sc.nd rfl (by first | exact .inl rfl | exact .inr rfl)) trgs_nil)))) (fun _ _ _ _ _ => trt_nil) (fun _ _ _ _ _ => (tr_tup (tra_cons (tr_var 15) (tra_cons (tr_callG h__law_message hgd (hr.mono (by decide)) takes0 rfl (tra_cons (tr_var 0) (tra_cons (tr_var 1) (tra_cons (tr_callB call_len sem_len rfl m_len bo_len (tra_cons (tr_var 16) tra_nil)) tra_nil)))) tra_nil))))) tra_nil))) (trs_one (tr_ifs (trb_not (trb_tru (tr_callG h__law_mail_right hgd (hr.mono (by decide)) tk rfl (tra_cons (tr_var 1) (tra_cons (tr_var 2) (tra_cons (tr_var 11) tra_nil)))))) (trs_one (tr_ret tr_bl)) trs_nil))))))))))) (trs_one (tr_ret tr_bl)))))))
theorem ok_law {f fB : Addr} {fd fdB : FuncData} (F : FnP K "law" (top 67) sc_law f fd) (FB : FnP K "_law_begin" (top 48) sc__law_begin fB fdB) (gB : mg "_law_begin" = some (.ref fB)) (m_list0 : mg "list" = none) (en : LawEnds g_law 5) (tb : ∀ z ∈ tabC K, LamX.TabB base mg z.1 z.2.1) (ap : ∀ p ∈ tabL K, ∀ q ∈ tabL K, q.1 = p.1 → q.2 = p.2) (m_range : mg "range" = none) (m_tuple : mg "tuple" = none) (h__law_heard : HearIs P w K mg base "_law_heard" "_law_deed" wrI N__law_heard H__law_heard) (h__law_message_right : FnGs P w K mg base 12 "_law_message_right" ["_law_state", "_law_prime_so", "_law_shares_here"] F__law_message_right) (h__law_shares : FnGs P w K mg base 3 "_law_shares" ["_law_state", "_law_most"] F__law_shares) (h__law_prime : FnGs P w K mg base 3 "_law_prime" ["_law_state"] F__law_prime) (h_letters_of : FnGs P w K mg base 6 "letters_of" ["prime", "laying", "message"] F_letters_of) (h_read : FnGs P w K mg base 8 "read" ["prime", "laying", "mail"] F_read) (h_unfit_needs : FnGs P w K mg base 8 "unfit_needs" ["prime", "laying", "mail"] F_unfit_needs) : FnG P w K mg base 13 f fd ["_law_script"] (spLaw K) := by
  have sc : FnScope ["_law_script", "_law_state", "_law_turn", "_law_wide", "_law_due", "_law_bad", "_law_sign"] ["_law_script"] sc_law := ⟨rfl, rfl, rfl, by decide +kernel, rfl, by decide +kernel, by decide +kernel⟩
  have GB : FnOk P w K mg base (L2.CX P w) 1 fB fdB ["_law_script"] (spBegin K) := ok__law_begin FB m_list0
  have bB : Binds K fdB ["_law_script"] [] := FB.bindsN fun _ _ _ _ _ _ us hl => match us, hl with | [_], _ => rfl
  refine gdef (k := 12) F sc (fun vs H Q E h => ?_) (fun cdv A outer s H vs Q E hcd hgd hr h => ?_)
  · obtain ⟨a, ns, rfl, _⟩ := h
    rfl
  have tk : Takes (cxOf (L2.CX P w) P w K mg base ["_law_script", "_law_state", "_law_turn", "_law_wide", "_law_due", "_law_bad", "_law_sign"] "law" sc_law f cdv A outer s H E) (wOf E) := takes_of rfl rfl rfl rfl
  have mk : MkT K mg base cdv ("law" ++ ".<locals>." ++ "<lambda>") := by
    rw [← hcd]
    exact mk_of F tb ap
  have rest : TrSs (cxOf (L2.CX P w) P w K mg base ["_law_script", "_law_state", "_law_turn", "_law_wide", "_law_due", "_law_bad", "_law_sign"] "law" sc_law f cdv A outer s H E) E (defBody (top 67)).tail g_law :=
    (trs_cons (tr_for (passes_of rfl) rfl (tri_rng1 rfl m_range (tra_cons tr_int tra_nil)) (trg_name sc.nd rfl (.inl rfl)) (trs_one (tr_ifs (trb_not (trb_tru (tr_callG h__law_message_right hgd (hr.mono (by decide)) tk rfl (tra_cons (tr_var 1) (tra_cons (tr_callG h__law_prime hgd (hr.mono (by decide)) tk rfl (tra_cons (tr_var 1) tra_nil)) (tra_cons (tr_callG h__law_shares hgd (hr.mono (by decide)) tk rfl (tra_cons (tr_var 1) (tra_cons tr_int tra_nil))) tra_nil)))))) (trs_one (tr_ret tr_bl)) trs_nil))) (trs_cons (tr_set (i := 3) sc.nd rfl (.inl rfl) (tr_tup (tra_cons tr_int (tra_cons tr_int (tra_cons tr_int (tra_cons tr_int (tra_cons tr_int (tra_cons tr_int (tra_cons tr_int (tra_cons tr_int tra_nil)))))))))) (trs_cons (tr_set (i := 4) sc.nd rfl (.inl rfl) (tr_callTy call_tuple_of sem_tupOf rfl m_tuple bo_tuple (tra_cons (tr_lc (own := [("_law_sign", 6)]) rfl sc.nd (tri_tup (tr_tup (tra_cons tr_int (tra_cons tr_int (tra_cons tr_int (tra_cons tr_int (tra_cons tr_int (tra_cons tr_int (tra_cons tr_int (tra_cons tr_int tra_nil)))))))))) (blkOk_by (N := ["_law_script", "_law_state", "_law_turn", "_law_wide", "_law_due", "_law_bad", "_law_sign"]) (sc := sc_law) (by decide +kernel)) (by decide) (fun _ _ _ _ _ => (trg_name sc.nd rfl (by first | exact .inl rfl | exact .inr rfl))) (fun _ _ _ _ _ => trt_nil) (fun _ _ _ _ _ => (tr_op op_addW sem_add (tr_op op_mulTZ sem_mulTZ (tr_tup (tra_cons tr_int tra_nil)) tr_int) (tr_tup (tra_cons (tr_var 6) tra_nil))))) tra_nil))) (trs_cons (tr_ifs (trb_cmp (op_neS hr.units) sem_neS (tr_callG h_letters_of hgd (hr.mono (by decide)) tk rfl (tra_cons tr_int (tra_cons (tr_var 3) (tra_cons (tr_op op_addW sem_add (tr_op op_mulTZ sem_mulTZ (tr_tup (tra_cons tr_int tra_nil)) tr_int) (tr_tup (tra_cons tr_int tra_nil))) tra_nil)))) (tr_var 4) (nomark _)) (trs_one (tr_ret tr_bl)) trs_nil) (trs_cons (tr_set (i := 4) sc.nd rfl (.inl rfl) (tr_tup (tra_cons (tr_tup (tra_cons tr_int (tra_cons tr_int tra_nil))) (tra_cons (tr_tup (tra_cons tr_int (tra_cons tr_int tra_nil))) (tra_cons (tr_tup (tra_cons tr_int (tra_cons tr_int tra_nil))) tra_nil))))) (trs_cons (tr_ifs (TrW.toB (trw_or (trb_cmp (op_neS hr.units) sem_neS (tr_callG h_letters_of hgd (hr.mono (by decide)) tk rfl (tra_cons tr_int (tra_cons (tr_tup (tra_cons tr_int (tra_cons tr_int (tra_cons tr_int tra_nil)))) (tra_cons (tr_tup (tra_cons tr_int (tra_cons tr_int (tra_cons tr_int tra_nil)))) tra_nil)))) (tr_var 4) (nomark _)) (trw_or1 (trb_cmp (op_neS hr.units) sem_neS (tr_callG h_read hgd (hr.mono (by decide)) tk rfl (tra_cons tr_int (tra_cons (tr_tup (tra_cons tr_int (tra_cons tr_int (tra_cons tr_int tra_nil)))) (tra_cons (tr_tup (tra_cons (tr_tup (tra_cons tr_int (tra_cons (tr_tup (tra_cons tr_int (tra_cons tr_int tra_nil))) tra_nil))) tra_nil)) tra_nil)))) (tr_tup (tra_cons tr_int tra_nil)) (nomark _))))) (trs_one (tr_ret tr_bl)) trs_nil) (trs_cons (tr_ifs (TrW.toB (trw_or (trb_cmp (op_neS hr.units) sem_neS (tr_callG h_read hgd (hr.mono (by decide)) tk rfl (tra_cons tr_int (tra_cons (tr_tup (tra_cons tr_int (tra_cons tr_int (tra_cons tr_int tra_nil)))) (tra_cons (tr_tup (tra_cons (tr_tup (tra_cons tr_int (tra_cons (tr_tup (tra_cons tr_int (tra_cons tr_int tra_nil))) tra_nil))) (tra_cons (tr_tup (tra_cons tr_int (tra_cons (tr_tup (tra_cons tr_int (tra_cons tr_int tra_nil))) tra_nil))) tra_nil))) tra_nil)))) (tr_tup (tra_cons tr_int (tra_cons tr_int (tra_cons tr_int tra_nil)))) (nomark _)) (trw_or1 (trb_cmp (op_neS hr.units) sem_neS (tr_callG h_read hgd (hr.mono (by decide)) tk rfl (tra_cons tr_int (tra_cons (tr_tup (tra_cons tr_int (tra_cons tr_int (tra_cons tr_int tra_nil)))) (tra_cons (tr_tup tra_nil) tra_nil)))) (tr_tup tra_nil) (nomark _))))) (trs_one (tr_ret tr_bl)) trs_nil) (trs_cons (tr_set (i := 5) sc.nd rfl (.inr rfl) (tr_tup (tra_cons (tr_tup (tra_cons tr_int (tra_cons (tr_tup (tra_cons tr_int (tra_cons tr_int tra_nil))) tra_nil))) (tra_cons (tr_tup (tra_cons tr_int (tra_cons (tr_tup (tra_cons tr_int (tra_cons tr_int tra_nil))) tra_nil))) (tra_cons (tr_tup (tra_cons tr_int (tra_cons (tr_tup (tra_cons tr_int (tra_cons tr_int tra_nil))) tra_nil))) tra_nil))))) (trs_one (tr_ret (tr_and (tr_cmp (op_eqS hr.units) sem_eqS (tr_callG h_unfit_needs hgd (hr.mono (by decide)) tk rfl (tra_cons tr_int (tra_cons (tr_tup (tra_cons tr_int (tra_cons tr_int (tra_cons tr_int tra_nil)))) (tra_cons (tr_var 5) tra_nil)))) (tr_tup (tra_cons tr_int (tra_cons tr_int tra_nil))) (nomark _)) (tr_one (tr_cmp (op_eqS hr.units) sem_eqS (tr_hear (k := 8) (one := none) h__law_heard mk hgd (hr.mono (by decide)) rfl (lmS_by (by kernel_rfl)) .zero (fun _ _ _ _ _ _ _ hgd hr => (tr_callG h_read hgd (hr.mono (by decide)) (takes_of rfl rfl rfl rfl) rfl (tra_cons tr_int (tra_cons (tr_tup (tra_cons tr_int (tra_cons tr_int (tra_cons tr_int tra_nil)))) (tra_cons (tr_var 5) tra_nil)))))) (tr_lst (tra_cons tr_int tra_nil)) (nomark _))))))))))))))
  refine ⟨_, pss_cons (ps_set (i := 1) sc.nd rfl (.inl rfl) (pe_callSD (E := fun σ => WE (wOf E) σ) GB (hr.mono (by decide)) rfl gB FB.kp bB .nil (fun σ => passAt tk σ) (pa_cons (pv 0) pa_nil))) rest, ?_⟩
  obtain ⟨a, ns, rfl, hS, hz, hT, q⟩ := h
  exact ⟨.ref a, rfl, a, ns, rfl, hS, hz, fun S ca la H' cells lefts sm nS nca nla h1 h2 h3 hl h0 hne => law_rest en hz q hS sm nS nca nla h1 h2 h3 hl h0 hne hT⟩
end
end Lw
namespace Rt
def Fr (a b : Int) : Prop := 0 < b ∧ Int.gcd a b = 1
def num (t b : Int) : Int := t / (Int.gcd t b : Int)
def den (t b : Int) : Int := b / (Int.gcd t b : Int)
theorem g_pos {t b : Int} (hb : 0 < b) : 0 < (Int.gcd t b : Int) := by
  have h : 0 < Int.gcd t b := Int.gcd_pos_of_ne_zero_right t (by omega)
  omega
theorem num_eq (t b : Int) : (Int.gcd t b : Int) * num t b = t := Int.mul_ediv_cancel' (Int.gcd_dvd_left t b)
theorem den_eq (t b : Int) : (Int.gcd t b : Int) * den t b = b := Int.mul_ediv_cancel' (Int.gcd_dvd_right t b)
theorem den_pos {t b : Int} (hb : 0 < b) : 0 < den t b := by
  have h := den_eq t b
  have g := g_pos (t := t) hb
  rcases Int.lt_trichotomy (den t b) 0 with h1 | h1 | h1
  · have : (Int.gcd t b : Int) * den t b < 0 := Int.mul_neg_of_pos_of_neg g h1
    omega
  · rw [h1] at h
    omega
  · exact h1
theorem fr_nrm {t b : Int} (hb : 0 < b) : Fr (num t b) (den t b) := by
  refine ⟨den_pos hb, ?_⟩
  have hg := g_pos (t := t) hb
  have e : Int.gcd ((Int.gcd t b : Int) * num t b) ((Int.gcd t b : Int) * den t b) = Int.gcd t b * Int.gcd (num t b) (den t b) := by
    rw [Int.gcd_mul_left, Int.natAbs_natCast]
  rw [num_eq, den_eq] at e
  have h : 0 < Int.gcd t b := by omega
  have e2 : Int.gcd t b * Int.gcd (num t b) (den t b) = Int.gcd t b * 1 := by rw [Nat.mul_one]; exact e.symm
  exact Nat.eq_of_mul_eq_mul_left h e2
theorem cross {t b : Int} : num t b * b = t * den t b := by
  have h1 := num_eq t b
  have h2 := den_eq t b
  grind
theorem dvd_help {a b c d : Int} (h : Fr a b) (hd : 0 < d) (e : a * d = c * b) : b ∣ d := by
  have h1 : b.natAbs ∣ a.natAbs * d.natAbs := by
    rw [← Int.natAbs_mul, e, Int.natAbs_mul]
    exact Nat.dvd_mul_left _ _
  have h2 : Nat.Coprime b.natAbs a.natAbs := by
    have := h.2
    unfold Int.gcd at this
    unfold Nat.Coprime
    rw [Nat.gcd_comm]
    exact this
  have h3 := Nat.Coprime.dvd_of_dvd_mul_left h2 h1
  exact Int.natAbs_dvd_natAbs.mp h3
theorem uniq {a b c d : Int} (h : Fr a b) (k : Fr c d) (e : a * d = c * b) : a = c ∧ b = d := by
  have h1 : b ∣ d := dvd_help h k.1 e
  have h2 : d ∣ b := dvd_help k h.1 e.symm
  have h3 : b = d := Int.dvd_antisymm (by have := h.1; omega) (by have := k.1; omega) h1 h2
  subst h3
  exact ⟨Int.eq_of_mul_eq_mul_right (by have := h.1; omega) e, rfl⟩
/-- what a quotient of the same worth comes to -/
theorem nrm_is {t b a c : Int} (hb : 0 < b) (h : Fr a c) (e : t * c = a * b) : num t b = a ∧ den t b = c := by
  refine uniq (fr_nrm hb) h ?_
  have hx := cross (t := t) (b := b)
  have e2 : b * (num t b * c) = b * (a * den t b) := by grind
  exact Int.eq_of_mul_eq_mul_left (by omega) e2
end Rt
namespace Lw
open PySem L2 PF Rt
abbrev J (n : Nat) (f : Nat → Int) : List PF.W := (List.range n).map fun (i : Nat) => PF.W.int (f i)
theorem J_len (n : Nat) (f : Nat → Int) : (J n f).length = n := by simp [J]
theorem J_get {n : Nat} {f : Nat → Int} {i : Nat} (h : i < n) : (J n f)[i]? = some (.int (f i)) := by simp [J, h]
theorem J_eq {n : Nat} {f g : Nat → Int} (h : ∀ i, i < n → f i = g i) : J n f = J n g := List.map_congr_left fun i hi => by rw [h i (List.mem_range.mp hi)]
theorem J_enum (n : Nat) (f : Nat → Int) (k : Int) : enumF k (J n f) = (List.range n).map fun (i : Nat) => PF.W.tup [.int (k + (i : Int)), .int (f i)] := by
  refine List.ext_getElem? fun i => ?_
  rw [enumF_get]
  by_cases h : i < n <;> simp [J, h]
theorem J_enum0 (n : Nat) (f : Nat → Int) : enumF 0 (J n f) = (List.range n).map fun (i : Nat) => PF.W.tup [.int (i : Int), .int (f i)] := by
  rw [J_enum]
  simp
theorem J_zip (n m : Nat) (f g : Nat → Int) : zipF (J n f) (J m g) = (List.range (min n m)).map fun (i : Nat) => PF.W.tup [.int (f i), .int (g i)] := by
  refine List.ext_getElem (by simp [zipF_length, J]) fun i h1 h2 => ?_
  obtain ⟨w, u, e1, e2, e3⟩ := zipF_get _ _ i _ (List.getElem?_eq_getElem h1)
  simp only [List.length_map, List.length_range] at h2
  rw [J_get (by omega)] at e1 e2
  cases e1
  cases e2
  rw [e3]
  simp
theorem J_tail (n : Nat) (f : Nat → Int) : cutW (J n f) (some 1) none = J (n - 1) fun i => f (i + 1) := by
  refine List.ext_getElem? fun i => ?_
  cases n with
  | zero => simp [J, cutW]
  | succ n =>
    simp [cutW, HT.sIx, J]
    by_cases h : i < n
    · simp [h]
    · simp [h]
theorem size_small {ws : List PF.W} (h : ws.length ≤ 1000) : sizeOk ws = true := sizeOk_is (by omega)
theorem room_is {ws : List PF.W} (h : ws.length < 16777216) : roomOk ws = true := by
  unfold roomOk
  exact decide_eq_true h
theorem mul_small {a b : Int} (ha : -(2 ^ 40) < a ∧ a < 2 ^ 40) (hb : -(2 ^ 40) < b ∧ b < 2 ^ 40) : mulOk a b = true := mulOk_of (a := 41) (b := 41) (by omega) (by omega) (by decide) (by decide) (by decide)
theorem div_small {b : Int} (h : 0 < b) (hb : b < 2 ^ 40) : divOk b = true := divOk_of (b := 41) h (by omega) (by decide) (by decide)
theorem isint_run (a : Int) : F_is_integer [.int a] = .ok (.bl true) := by
  simp [F_is_integer, defF, startE, endOf]
  rfl
theorem between_run (x lo hi : Int) : F_is_between [.int x, .int lo, .int hi] = .ok (.bl (decide (lo ≤ x) && decide (x ≤ hi))) := by
  by_cases h : lo ≤ x <;> simp [F_is_between, defF, startE, endOf, isint_run, fCh, h]
theorem tup_is (ws : List PF.W) : isiW (isOnly "tuple") (.tup ws) = .ok (.bl true) := rfl
theorem all_bls {α : Type} {as : List α} {t : α → Bool} (h : ∀ a ∈ as, t a = true) : allW [.lst (as.map fun a => PF.W.bl (t a))] = .ok (.bl true) := by
  have e : (as.map fun a => PF.W.bl (t a)) = (as.map t).map PF.W.bl := by rw [List.map_map]; rfl
  rw [e, allW_of]
  have : (as.map t).all id = true := by
    rw [List.all_map, List.all_eq_true]
    exact h
  rw [this]
structure Stair (n : Nat) (f : Nat → Int) : Prop where
  one : 1 ≤ n
  eight : n ≤ 8
  low : ∀ i, i < n → 0 ≤ f i
  top : ∀ i, i < n → f i ≤ 1000
  up : ∀ i, i + 1 < n → f i ≤ f (i + 1)
theorem Stair.mono {n : Nat} {f : Nat → Int} (h : Stair n f) : ∀ (k i : Nat), i + k < n → f i ≤ f (i + k)
  | 0, i, _ => Int.le_refl _
  | k + 1, i, hi => by
    have h1 := h.mono k i (by omega)
    have h2 := h.up (i + k) (by omega)
    show f i ≤ f (i + k + 1)
    omega
theorem Stair.le {n : Nat} {f : Nat → Int} (h : Stair n f) {i j : Nat} (hij : i ≤ j) (hj : j < n) : f i ≤ f j := by
  obtain ⟨k, rfl⟩ : ∃ k, j = i + k := ⟨j - i, by omega⟩
  exact h.mono k i hj
def rz (f : Nat → Int) (k x : Int) : Nat → Int := fun (i : Nat) => if k ≤ 1 + (i : Int) then (if x > f i then x else f i) else f i
def S (k : Nat) (a : Int) : Prop := a.natAbs < 2 ^ k
theorem S.mul {k l : Nat} {a b : Int} (h : S k a) (g : S l b) : S (k + l) (a * b) := wide_lt h g
theorem S.mono {k l : Nat} {a : Int} (h : S k a) (g : k ≤ l) : S l a := Nat.lt_of_lt_of_le h (Nat.pow_le_pow_right (by decide) g)
theorem S.add {k : Nat} {a b : Int} (h : S k a) (g : S k b) : S (k + 1) (a + b) := by
  unfold S at *
  rw [Nat.pow_succ]
  have : (a + b).natAbs ≤ a.natAbs + b.natAbs := Int.natAbs_add_le a b
  omega
theorem S.sub {k : Nat} {a b : Int} (h : S k a) (g : S k b) : S (k + 1) (a - b) := by
  unfold S at *
  rw [Nat.pow_succ]
  have : (a - b).natAbs ≤ a.natAbs + b.natAbs := by omega
  omega
theorem S.ok {k l : Nat} {a b : Int} (h : S k a) (g : S l b) (e : k + l ≤ 999998) : mulOk a b = true := mulOk_of (a := k + 1) (b := l + 1) (h.mono (Nat.le_succ k)) (g.mono (Nat.le_succ l)) (by omega) (by omega) (by omega)
theorem S.num {k : Nat} {t b : Int} (h : S k t) : S k (num t b) := Nat.lt_of_le_of_lt (Int.natAbs_ediv_le_natAbs _ _) h
theorem S.den {k : Nat} {t b : Int} (h : S k b) : S k (den t b) := Nat.lt_of_le_of_lt (Int.natAbs_ediv_le_natAbs _ _) h
theorem S.gcd {k : Nat} {t b : Int} (hb : b ≠ 0) (h : S k b) : S k (Int.gcd t b) := by
  unfold S at *
  rw [Int.natAbs_natCast]
  exact Nat.lt_of_le_of_lt (Int.gcd_le_natAbs_right t hb) h
theorem S.of {k : Nat} {a : Int} (h : -(2 ^ k : Nat) < a ∧ a < (2 ^ k : Nat)) : S k a := by
  unfold S
  omega
theorem com_loop : ∀ (n x y : Nat), y < n → whileL (fBl (f2 neS (gV 1) (fun _ => .ok (.int 0)))) (sPar 0 1 (fCons (gV 1) (fCons (f2 modW (gV 0) (fL (fCons (gV 1) fNil) intW)) fNil))) n [.val (.int x), .val (.int y)] = .ok (.nx, [.val (.int (Nat.gcd x y)), .val (.int 0)])
  | 0, x, y, h => by omega
  | n + 1, x, y, h => by
    unfold whileL
    by_cases hy : y = 0
    · subst hy
      simp
    · have hp : 0 < y := by omega
      have ih := com_loop n y (x % y) (by have := Nat.mod_lt x (show y > 0 by omega); omega)
      have e : ((x : Int) % (y : Int)) = ((x % y : Nat) : Int) := by simp
      have eg : Nat.gcd y (x % y) = Nat.gcd x y := by rw [Nat.gcd_comm y, ← Nat.gcd_rec, Nat.gcd_comm]
      simp [hp, hy]
      rw [e, ih, eg]
theorem abs_is (t : Int) : (if t < 0 then -t else t) = ((t.natAbs : Nat) : Int) := by
  split <;> omega
theorem lrat_loop (t b : Int) : ∀ (n x y : Nat), y < n → whileL (fBl (f2 neS (gV 3) (fun _ => .ok (.int 0)))) (sPar 2 3 (fCons (gV 3) (fCons (f2 modW (fL (fCons (gV 2) fNil) intW) (gV 3)) fNil))) n [.val (.int t), .val (.int b), .val (.int x), .val (.int y)] = .ok (.nx, [.val (.int t), .val (.int b), .val (.int (Nat.gcd x y)), .val (.int 0)])
  | 0, x, y, h => by omega
  | n + 1, x, y, h => by
    unfold whileL
    by_cases hy : y = 0
    · subst hy
      simp
    · have hp : 0 < y := by omega
      have ih := lrat_loop t b n y (x % y) (by have := Nat.mod_lt x (show y > 0 by omega); omega)
      have e : ((x : Int) % (y : Int)) = ((x % y : Nat) : Int) := by simp
      have eg : Nat.gcd y (x % y) = Nat.gcd x y := by rw [Nat.gcd_comm y, ← Nat.gcd_rec, Nat.gcd_comm]
      simp [hp, hy]
      rw [e, ih, eg]
abbrev fr (a b : Int) : PF.W := .tup [.int a, .int b]
theorem allW_2 : allW [.lst [.bl true, .bl true]] = .ok (.bl true) := rfl
theorem ix0 (a b : PF.W) : ixW (.tup [a, b]) (.int 0) = .ok a := rfl
theorem ix1 (a b : PF.W) : ixW (.tup [a, b]) (.int 1) = .ok b := rfl
structure Ok4 (k : Nat) (a b c d : Int) : Prop where
  p : Fr a b
  q : Fr c d
  sa : S k a
  sb : S k b
  sc : S k c
  sd : S k d
theorem bd_pos {a b c d : Int} (h1 : Fr a b) (h2 : Fr c d) : 0 < b * d := Int.mul_pos h1.1 h2.1
section
variable {a b c d : Int}
end
abbrev q8 (v : Int) : PF.W := fr (num v 840) (den v 840)
theorem q8_fr (v : Int) : Fr (num v 840) (den v 840) := fr_nrm (by decide)
theorem s840 : S 10 840 := by unfold S; decide
theorem q8_of {t m : Int} (hm : 0 < m) (hd : m * (840 / m) = 840) : fr (num t m) (den t m) = q8 (t * (840 / m)) := by
  have f := q8_fr (t * (840 / m))
  have x := cross (t := t * (840 / m)) (b := 840)
  obtain ⟨e1, e2⟩ := nrm_is (t := t) (b := m) hm f (by
    have hk : 0 < 840 / m := by
      rcases Int.lt_trichotomy (840 / m) 0 with h1 | h1 | h1
      · have : m * (840 / m) < 0 := Int.mul_neg_of_pos_of_neg hm h1
        omega
      · rw [h1] at hd
        omega
      · exact h1
    have e : (840 / m) * (t * den (t * (840 / m)) 840) = (840 / m) * (num (t * (840 / m)) 840 * m) := by
      have : num (t * (840 / m)) 840 * (m * (840 / m)) = t * (840 / m) * den (t * (840 / m)) 840 := by rw [hd]; exact x
      grind
    exact Int.eq_of_mul_eq_mul_left (by omega) e)
  rw [e1, e2]
theorem q8_add (a b : Int) : fr (num (num a 840 * den b 840 + num b 840 * den a 840) (den a 840 * den b 840)) (den (num a 840 * den b 840 + num b 840 * den a 840) (den a 840 * den b 840)) = q8 (a + b) := by
  have fa := q8_fr a
  have fb := q8_fr b
  have fs := q8_fr (a + b)
  have xa := cross (t := a) (b := 840)
  have xb := cross (t := b) (b := 840)
  have xs := cross (t := a + b) (b := 840)
  obtain ⟨e1, e2⟩ := nrm_is (t := num a 840 * den b 840 + num b 840 * den a 840) (b := den a 840 * den b 840) (bd_pos fa fb) fs (by
    refine Int.eq_of_mul_eq_mul_left (a := 840) (by decide) ?_
    grind)
  rw [e1, e2]
theorem q8_ok {a b : Int} (ha : S 100 a) (hb : S 100 b) : Ok4 3500 (num a 840) (den a 840) (num b 840) (den b 840) := ⟨q8_fr a, q8_fr b, ha.num.mono (by decide), s840.den.mono (by decide), hb.num.mono (by decide), s840.den.mono (by decide)⟩
theorem q8_0 : q8 0 = fr 0 1 := by
  have : num 0 840 = 0 ∧ den 0 840 = 1 := by decide
  show fr _ _ = _
  rw [this.1, this.2]
theorem div840 {m : Int} (h : m = 1 ∨ m = 2 ∨ m = 3 ∨ m = 4 ∨ m = 5 ∨ m = 6 ∨ m = 7 ∨ m = 8 ∨ m = 12 ∨ m = 20 ∨ m = 30 ∨ m = 42 ∨ m = 56) : 0 < m ∧ m * (840 / m) = 840 ∧ S 100 m ∧ 0 ≤ 840 / m ∧ 840 / m ≤ 840 := by
  rcases h with rfl | rfl | rfl | rfl | rfl | rfl | rfl | rfl | rfl | rfl | rfl | rfl | rfl <;> refine ⟨by decide, by decide, ?_, by decide, by decide⟩ <;> (unfold S; decide)
def Pr (p : Int) : Prop := p = 11 ∨ p = 13 ∨ p = 17 ∨ p = 19 ∨ p = 23
theorem Pr.b {p : Int} (h : Pr p) : 11 ≤ p ∧ p ≤ 23 := by
  rcases h with rfl | rfl | rfl | rfl | rfl <;> decide
theorem inv_ex {p : Int} (h : Pr p) {b : Int} (h1 : 1 ≤ b) (h2 : b < p) : ∃ o : Int, 1 ≤ o ∧ o < p ∧ o * b % p = 1 := by
  have key : ∀ P : Nat, (P = 11 ∨ P = 13 ∨ P = 17 ∨ P = 19 ∨ P = 23) → ∀ B : Nat, B < P → 1 ≤ B → ∃ o : Nat, o < P ∧ 1 ≤ o ∧ (o : Int) * (B : Int) % (P : Int) = 1 := by
    rintro P (rfl | rfl | rfl | rfl | rfl) <;> decide
  obtain ⟨o, a1, a2, a3⟩ := key p.toNat (by rcases h with rfl | rfl | rfl | rfl | rfl <;> decide) b.toNat (by omega) (by omega)
  have e1 : ((b.toNat : Nat) : Int) = b := by omega
  have e2 : ((p.toNat : Nat) : Int) = p := by omega
  rw [e1, e2] at a3
  exact ⟨o, by omega, by omega, a3⟩
theorem Pr.dvd {p : Int} (h : Pr p) {a b : Int} (d : p ∣ a * b) (n : ¬ p ∣ a) : p ∣ b := by
  have hp := h.b
  have r0 := Int.emod_nonneg a (show p ≠ 0 by omega)
  have r1 := Int.emod_lt_of_pos a (show 0 < p by omega)
  have rn : a % p ≠ 0 := fun z => n (Int.dvd_of_emod_eq_zero z)
  obtain ⟨o, o1, o2, oe⟩ := inv_ex h (b := a % p) (by omega) r1
  have e : o * a % p = 1 := by rw [← oe, Int.mul_emod, Int.mul_emod o (a % p), Int.emod_emod]
  have d2 : p ∣ o * a * b := by
    rw [Int.mul_assoc]
    exact Int.dvd_mul_of_dvd_right d
  have e3 : p ∣ o * a - 1 := by
    refine Int.dvd_of_emod_eq_zero ?_
    rw [Int.sub_emod, e, show (1 : Int) % p = 1 from Int.emod_eq_of_lt (by decide) (by omega)]
    rfl
  have e4 : b = o * a * b - (o * a - 1) * b := by grind
  rw [e4]
  exact Int.dvd_sub d2 (Int.dvd_mul_of_dvd_left e3)
/-- the value of a block, not lessened -/
def ev (s : Int) : List Int → Int
  | [] => 0
  | a :: as => a + s * ev s as
def hor (p s : Int) : List Int → Int
  | [] => 0
  | a :: as => (hor p s as * s + a) % p
theorem hor_is (p s : Int) : ∀ as, hor p s as % p = ev s as % p
  | [] => rfl
  | a :: as => by
    have ih := hor_is p s as
    show (hor p s as * s + a) % p % p = (a + s * ev s as) % p
    rw [Int.emod_emod, Int.add_emod, Int.mul_emod, ih, ← Int.mul_emod, ← Int.add_emod, Int.mul_comm, Int.add_comm]
theorem hor_b {p s : Int} (h : 0 < p) : ∀ as, 0 ≤ hor p s as ∧ hor p s as < p
  | [] => ⟨Int.le_refl 0, h⟩
  | a :: as => ⟨Int.emod_nonneg _ (by omega), Int.emod_lt_of_pos _ h⟩
theorem hor_ev {p s : Int} (h : 0 < p) (as : List Int) : hor p s as = ev s as % p := by
  rw [← hor_is, Int.emod_eq_of_lt (hor_b h as).1 (hor_b h as).2]
def Qt (a : Int) : List Int → List Int
  | [] => []
  | e :: E => ev a (e :: E) :: Qt a E
theorem Qt_len (a : Int) : ∀ D, (Qt a D).length = D.length
  | [] => rfl
  | e :: E => by simp [Qt, Qt_len a E]
theorem Qt_ev (s a : Int) : ∀ D, s * ev s D - a * ev a D = (s - a) * ev s (Qt a D)
  | [] => by simp [ev, Qt]
  | e :: E => by
    have ih := Qt_ev s a E
    show s * (e + s * ev s E) - a * (e + a * ev a E) = (s - a) * (ev a (e :: E) + s * ev s (Qt a E))
    have e1 : (s - a) * (ev a (e :: E) + s * ev s (Qt a E)) = (s - a) * ev a (e :: E) + s * ((s - a) * ev s (Qt a E)) := by grind
    rw [e1, ← ih]
    show _ = (s - a) * (e + a * ev a E) + _
    grind
theorem Qt_dvd {p a : Int} : ∀ {D : List Int}, (∀ q ∈ Qt a D, p ∣ q) → (∀ d ∈ D, p ∣ d) ∧ p ∣ ev a D
  | [], _ => ⟨fun d hd => (by cases hd), Int.dvd_zero p⟩
  | e :: E, h => by
    obtain ⟨h1, h2⟩ := Qt_dvd (D := E) fun q hq => h q (List.mem_cons_of_mem _ hq)
    have h3 : p ∣ ev a (e :: E) := h _ (List.mem_cons_self ..)
    refine ⟨fun d hd => ?_, h3⟩
    rcases List.mem_cons.mp hd with rfl | hd
    · have : d = ev a (d :: E) - a * ev a E := by
        show d = d + a * ev a E - a * ev a E
        omega
      rw [this]
      exact Int.dvd_sub h3 (Int.dvd_mul_of_dvd_right h2)
    · exact h1 d hd
theorem roots {p : Int} (h : Pr p) : ∀ (xs D : List Int), D.length ≤ xs.length → xs.Nodup → (∀ x ∈ xs, 0 ≤ x ∧ x < p) → (∀ x ∈ xs, p ∣ ev x D) → ∀ d ∈ D, p ∣ d
  | _, [], _, _, _, _ => fun d hd => by cases hd
  | [], _ :: _, hl, _, _, _ => by simp at hl
  | a :: xs, e :: E, hl, hn, hb, hv => by
    have hp := h.b
    obtain ⟨n1, n2⟩ := List.nodup_cons.mp hn
    have va : p ∣ ev a (e :: E) := hv a (List.mem_cons_self ..)
    have q := roots h xs (Qt a E) (by rw [Qt_len]; simpa using hl) n2 (fun x hx => hb x (List.mem_cons_of_mem _ hx)) fun x hx => by
      have vx : p ∣ ev x (e :: E) := hv x (List.mem_cons_of_mem _ hx)
      have d : p ∣ (x - a) * ev x (Qt a E) := by
        rw [← Qt_ev]
        have : x * ev x E - a * ev a E = ev x (e :: E) - ev a (e :: E) := by
          show _ = e + x * ev x E - (e + a * ev a E)
          omega
        rw [this]
        exact Int.dvd_sub vx va
      refine h.dvd d fun z => ?_
      have b1 := hb x (List.mem_cons_of_mem _ hx)
      have b2 := hb a (List.mem_cons_self ..)
      obtain ⟨k, hk⟩ := z
      have : k = 0 := by
        rcases Int.lt_trichotomy k 0 with hk0 | hk0 | hk0
        · have : p * k ≤ p * (-1) := Int.mul_le_mul_of_nonneg_left (by omega) (by omega)
          omega
        · exact hk0
        · have : p * 1 ≤ p * k := Int.mul_le_mul_of_nonneg_left (by omega) (by omega)
          omega
      subst this
      exact n1 (by have : x = a := by omega
                   rw [← this]; exact hx)
    obtain ⟨q1, q2⟩ := Qt_dvd q
    intro d hd
    rcases List.mem_cons.mp hd with rfl | hd
    · have : d = ev a (d :: E) - a * ev a E := by
        show d = d + a * ev a E - a * ev a E
        omega
      rw [this]
      exact Int.dvd_sub va (Int.dvd_mul_of_dvd_right q2)
    · exact q1 d hd
def sub2 : List Int → List Int → List Int
  | a :: as, b :: bs => (a - b) :: sub2 as bs
  | _, _ => []
theorem sub2_ev (s : Int) : ∀ {as bs : List Int}, as.length = bs.length → ev s (sub2 as bs) = ev s as - ev s bs
  | [], [], _ => rfl
  | a :: as, b :: bs, h => by
    show a - b + s * ev s (sub2 as bs) = a + s * ev s as - (b + s * ev s bs)
    rw [sub2_ev s (by simpa using h), Int.mul_sub]
    omega
theorem sub2_len : ∀ {as bs : List Int}, as.length = bs.length → (sub2 as bs).length = as.length
  | [], [], _ => rfl
  | a :: as, b :: bs, h => by simp [sub2, sub2_len (as := as) (bs := bs) (by simpa using h)]
theorem sub2_eq {p : Int} : ∀ {as bs : List Int}, as.length = bs.length → (∀ a ∈ as, 0 ≤ a ∧ a < p) → (∀ b ∈ bs, 0 ≤ b ∧ b < p) → (∀ d ∈ sub2 as bs, p ∣ d) → as = bs
  | [], [], _, _, _, _ => rfl
  | a :: as, b :: bs, h, ha, hb, hd => by
    have h1 := ha a (List.mem_cons_self ..)
    have h2 := hb b (List.mem_cons_self ..)
    obtain ⟨k, hk⟩ := hd (a - b) (List.mem_cons_self ..)
    have : k = 0 := by
      rcases Int.lt_trichotomy k 0 with hk0 | hk0 | hk0
      · have : p * k ≤ p * (-1) := Int.mul_le_mul_of_nonneg_left (by omega) (by omega)
        omega
      · exact hk0
      · have : p * 1 ≤ p * k := Int.mul_le_mul_of_nonneg_left (by omega) (by omega)
        omega
    subst this
    rw [sub2_eq (by simpa using h) (fun x hx => ha x (List.mem_cons_of_mem _ hx)) (fun x hx => hb x (List.mem_cons_of_mem _ hx)) fun d h => hd d (List.mem_cons_of_mem _ h)]
    congr 1
    omega
/-- one block through so many points -/
theorem uniq {p : Int} (h : Pr p) {as bs xs : List Int} (hl : as.length = bs.length) (hx : as.length ≤ xs.length) (hn : xs.Nodup) (hb : ∀ x ∈ xs, 0 ≤ x ∧ x < p) (ha : ∀ a ∈ as, 0 ≤ a ∧ a < p) (hc : ∀ b ∈ bs, 0 ≤ b ∧ b < p)
    (hv : ∀ x ∈ xs, ev x as % p = ev x bs % p) : as = bs := sub2_eq hl ha hc (roots h xs (sub2 as bs) (by rw [sub2_len hl]; exact hx) hn hb fun x hx => by
  rw [sub2_ev x hl]
  exact Int.dvd_of_emod_eq_zero (Int.emod_eq_emod_iff_emod_sub_eq_zero.mp (hv x hx)))
def rtT (p r : Int) : Int → List Int → List Int
  | c, [] => [c]
  | c, b :: bs => ((c - r * b) % p) :: rtT p r b bs
theorem rtT_len (p r : Int) : ∀ (c : Int) (bs : List Int), (rtT p r c bs).length = bs.length + 1
  | _, [] => rfl
  | c, b :: bs => by simp [rtT, rtT_len p r b bs]
theorem rtT_b {p r : Int} (h : 0 < p) : ∀ (c : Int) (bs : List Int), 0 ≤ c ∧ c < p → (∀ b ∈ bs, 0 ≤ b ∧ b < p) → ∀ x ∈ rtT p r c bs, 0 ≤ x ∧ x < p
  | c, [], hc, _, x, hx => by
    rw [List.mem_singleton.mp hx]
    exact hc
  | c, b :: bs, hc, hb, x, hx => by
    rcases List.mem_cons.mp hx with rfl | hx
    · exact ⟨Int.emod_nonneg _ (by omega), Int.emod_lt_of_pos _ h⟩
    · exact rtT_b h b bs (hb b (List.mem_cons_self ..)) (fun y hy => hb y (List.mem_cons_of_mem _ hy)) x hx
theorem rtT_ev (p r s : Int) : ∀ (c : Int) (bs : List Int), ev s (rtT p r c bs) % p = (c + (s - r) * ev s bs) % p
  | c, [] => by simp [rtT, ev]
  | c, b :: bs => by
    have ih := rtT_ev p r s b bs
    show ((c - r * b) % p + s * ev s (rtT p r b bs)) % p = (c + (s - r) * (b + s * ev s bs)) % p
    rw [Int.add_emod, Int.emod_emod, Int.mul_emod, ih, ← Int.mul_emod, ← Int.add_emod]
    congr 1
    grind
def inv (p b : Int) : Int := match (((List.range (p.toNat - 1)).filter fun (i : Nat) => (1 + (i : Int)) * b % p == 1)[0]? : Option Nat) with
  | some i => 1 + (i : Int)
  | none => 0
theorem inv_is {p b : Int} (h : Pr p) (h1 : 1 ≤ b) (h2 : b < p) : ∃ (i : Nat), ((List.range (p.toNat - 1)).filter fun (i : Nat) => (1 + (i : Int)) * b % p == 1)[0]? = some i ∧ inv p b = 1 + (i : Int) ∧ 1 ≤ inv p b ∧ inv p b < p ∧ inv p b * b % p = 1 := by
  obtain ⟨o, o1, o2, oe⟩ := inv_ex h h1 h2
  have hp := h.b
  have m : (o - 1).toNat ∈ (List.range (p.toNat - 1)).filter fun (i : Nat) => (1 + (i : Int)) * b % p == 1 := by
    refine List.mem_filter.mpr ⟨List.mem_range.mpr (by omega), ?_⟩
    have e : 1 + (((o - 1).toNat : Nat) : Int) = o := by omega
    rw [e, oe]
    rfl
  cases hl : (List.range (p.toNat - 1)).filter fun (i : Nat) => (1 + (i : Int)) * b % p == 1 with
  | nil =>
    rw [hl] at m
    cases m
  | cons i rest =>
    have mi : i ∈ (List.range (p.toNat - 1)).filter fun (i : Nat) => (1 + (i : Int)) * b % p == 1 := by rw [hl]; exact List.mem_cons_self ..
    obtain ⟨m1, m2⟩ := List.mem_filter.mp mi
    have m1 := List.mem_range.mp m1
    have e : inv p b = 1 + (i : Int) := by
      unfold inv
      rw [hl]
      rfl
    exact ⟨i, rfl, e, by omega, by omega, by rw [e]; exact eq_of_beq m2⟩
def bkF (p x : Int) : List Int → Int → List (Int × Int) → List Int × Int
  | bl, bo, [] => (bl, bo)
  | bl, bo, (o, _) :: ps => if o = x then bkF p x bl bo ps else bkF p x (rtT p o 0 bl) (bo * (x - o) % p) ps
def pro (s x : Int) : List (Int × Int) → Int
  | [] => 1
  | (o, _) :: ps => if o = x then pro s x ps else (s - o) * pro s x ps
theorem bkF_ev (p x s : Int) : ∀ (ps : List (Int × Int)) (bl : List Int) (bo : Int), ev s (bkF p x bl bo ps).1 % p = (pro s x ps * ev s bl) % p
  | [], bl, bo => by simp [bkF, pro]
  | (o, y) :: ps, bl, bo => by
    by_cases h : o = x
    · simp only [bkF, pro, h, if_true]
      exact bkF_ev p x s ps bl bo
    · simp only [bkF, pro, h, if_false]
      rw [bkF_ev p x s ps, Int.mul_emod, rtT_ev, ← Int.mul_emod, Int.zero_add]
      congr 1
      grind
theorem bkF_bo (p x : Int) : ∀ (ps : List (Int × Int)) (bl : List Int) (bo : Int), (bkF p x bl bo ps).2 % p = (pro x x ps * bo) % p
  | [], bl, bo => by simp [bkF, pro]
  | (o, y) :: ps, bl, bo => by
    by_cases h : o = x
    · simp only [bkF, pro, h, if_true]
      exact bkF_bo p x ps bl bo
    · simp only [bkF, pro, h, if_false]
      rw [bkF_bo p x ps, Int.mul_emod, Int.emod_emod, ← Int.mul_emod]
      congr 1
      grind
theorem bkF_b {p x : Int} (h : 1 < p) : ∀ (ps : List (Int × Int)) (bl : List Int) (bo : Int), (∀ b ∈ bl, 0 ≤ b ∧ b < p) → 0 ≤ bo ∧ bo < p → (∀ b ∈ (bkF p x bl bo ps).1, 0 ≤ b ∧ b < p) ∧ 0 ≤ (bkF p x bl bo ps).2 ∧ (bkF p x bl bo ps).2 < p
  | [], bl, bo, h1, h2 => ⟨h1, h2⟩
  | (o, y) :: ps, bl, bo, h1, h2 => by
    by_cases e : o = x
    · simp only [bkF, e, if_true]
      exact bkF_b h ps bl bo h1 h2
    · simp only [bkF, e, if_false]
      exact bkF_b h ps _ _ (rtT_b (by omega) 0 bl ⟨by omega, by omega⟩ h1) ⟨Int.emod_nonneg _ (by omega), Int.emod_lt_of_pos _ (by omega)⟩
def oth (x : Int) : List (Int × Int) → Nat
  | [] => 0
  | (o, _) :: ps => if o = x then oth x ps else oth x ps + 1
theorem bkF_len (p x : Int) : ∀ (ps : List (Int × Int)) (bl : List Int) (bo : Int), (bkF p x bl bo ps).1.length = bl.length + oth x ps
  | [], bl, bo => rfl
  | (o, y) :: ps, bl, bo => by
    by_cases e : o = x
    · simp only [bkF, oth, e, if_true]
      exact bkF_len p x ps bl bo
    · simp only [bkF, oth, e, if_false]
      rw [bkF_len p x ps, rtT_len]
      omega
theorem oth_not (x : Int) : ∀ (ps : List (Int × Int)), x ∉ ps.map (·.1) → oth x ps = ps.length
  | [], _ => rfl
  | (o, y) :: ps, h => by
    simp only [List.map_cons, List.mem_cons, not_or] at h
    simp only [oth, if_neg (Ne.symm h.1), oth_not x ps h.2, List.length_cons]
theorem oth_in (x : Int) : ∀ (ps : List (Int × Int)), (ps.map (·.1)).Nodup → x ∈ ps.map (·.1) → oth x ps + 1 = ps.length
  | [], _, h => by cases h
  | (o, y) :: ps, hn, h => by
    simp only [List.map_cons] at hn h
    obtain ⟨n1, n2⟩ := List.nodup_cons.mp hn
    by_cases e : o = x
    · subst e
      simp only [oth, if_true, oth_not o ps n1, List.length_cons]
    · rcases List.mem_cons.mp h with z | z
      · exact absurd z.symm e
      · have := oth_in x ps n2 z
        simp only [oth, if_neg e, List.length_cons]
        omega
theorem pro_zero {s x : Int} (h : s ≠ x) : ∀ {ps : List (Int × Int)}, s ∈ ps.map (·.1) → pro s x ps = 0
  | [], h => by cases h
  | (o, y) :: ps, hm => by
    simp only [List.map_cons, List.mem_cons] at hm
    by_cases e : o = x
    · simp only [pro, e, if_true]
      refine pro_zero h (hm.resolve_left fun z => h (z.trans e))
    · simp only [pro, e, if_false]
      rcases hm with z | z
      · rw [z, Int.sub_self, Int.zero_mul]
      · rw [pro_zero h z, Int.mul_zero]
theorem small_dvd {p a b : Int} (ha : 0 ≤ a ∧ a < p) (hb : 0 ≤ b ∧ b < p) (d : p ∣ a - b) : a = b := by
  obtain ⟨k, hk⟩ := d
  have : k = 0 := by
    rcases Int.lt_trichotomy k 0 with hk0 | hk0 | hk0
    · have : p * k ≤ p * (-1) := Int.mul_le_mul_of_nonneg_left (by omega) (by omega)
      omega
    · exact hk0
    · have : p * 1 ≤ p * k := Int.mul_le_mul_of_nonneg_left (by omega) (by omega)
      omega
  subst this
  omega
theorem pro_nd {p x : Int} (h : Pr p) (hx : 0 ≤ x ∧ x < p) : ∀ {ps : List (Int × Int)}, (∀ q ∈ ps, 0 ≤ q.1 ∧ q.1 < p) → ¬ p ∣ pro x x ps
  | [], _ => fun d => by
    have hp := h.b
    obtain ⟨k, hk⟩ := d
    have hk : 1 = p * k := hk
    rcases Int.lt_trichotomy k 0 with hk0 | hk0 | hk0
    · have : p * k ≤ p * (-1) := Int.mul_le_mul_of_nonneg_left (by omega) (by omega)
      omega
    · subst hk0; omega
    · have : p * 1 ≤ p * k := Int.mul_le_mul_of_nonneg_left (by omega) (by omega)
      omega
  | (o, y) :: ps, hb => by
    have ih := pro_nd h hx (ps := ps) fun q hq => hb q (List.mem_cons_of_mem _ hq)
    by_cases e : o = x
    · simp only [pro, e, if_true]
      exact ih
    · simp only [pro, e, if_false]
      intro d
      exact ih (h.dvd d fun z => e (small_dvd hx (hb _ (List.mem_cons_self ..)) z).symm)
def comb (p f : Int) : List Int → List Int → List Int
  | a :: as, b :: bs => ((a + f * b) % p) :: comb p f as bs
  | _, _ => []
theorem comb_len (p f : Int) : ∀ {as bs : List Int}, as.length = bs.length → (comb p f as bs).length = as.length
  | [], [], _ => rfl
  | a :: as, b :: bs, h => by simp [comb, comb_len p f (as := as) (bs := bs) (by simpa using h)]
theorem comb_b {p f : Int} (h : 0 < p) : ∀ {as bs : List Int}, ∀ x ∈ comb p f as bs, 0 ≤ x ∧ x < p
  | a :: as, b :: bs, x, hx => by
    rcases List.mem_cons.mp hx with rfl | hx
    · exact ⟨Int.emod_nonneg _ (by omega), Int.emod_lt_of_pos _ h⟩
    · exact comb_b h x hx
  | [], _, x, hx => by cases hx
  | _ :: _, [], x, hx => by cases hx
theorem comb_ev (p f s : Int) : ∀ {as bs : List Int}, as.length = bs.length → ev s (comb p f as bs) % p = (ev s as + f * ev s bs) % p
  | [], [], _ => by simp [comb, ev]
  | a :: as, b :: bs, h => by
    have ih := comb_ev p f s (as := as) (bs := bs) (by simpa using h)
    show ((a + f * b) % p + s * ev s (comb p f as bs)) % p = (a + s * ev s as + f * (b + s * ev s bs)) % p
    rw [Int.add_emod, Int.emod_emod, Int.mul_emod, ih, ← Int.mul_emod, ← Int.add_emod]
    congr 1
    grind
def fac (p : Int) (P : List (Int × Int)) (x y : Int) : Int := y * inv p (bkF p x [1] 1 P).2 % p
def thF (p : Int) (P : List (Int × Int)) : List Int → List (Int × Int) → List Int
  | fo, [] => fo
  | fo, (x, y) :: ps => thF p P (comb p (fac p P x y) fo (bkF p x [1] 1 P).1) ps
def thr (p : Int) (P : List (Int × Int)) : List Int := thF p P (List.replicate P.length 0) P
structure Pts (p : Int) (P : List (Int × Int)) : Prop where
  one : 1 ≤ P.length
  eight : P.length ≤ 8
  each : ∀ q ∈ P, (0 ≤ q.1 ∧ q.1 < p) ∧ 0 ≤ q.2 ∧ q.2 < p
  nd : (P.map (·.1)).Nodup
section
variable {p : Int} {P : List (Int × Int)}
theorem bk_len (h : Pts p P) {q : Int × Int} (hq : q ∈ P) : (bkF p q.1 [1] 1 P).1.length = P.length := by
  rw [bkF_len]
  have := oth_in q.1 P h.nd (List.mem_map.mpr ⟨q, hq, rfl⟩)
  simp only [List.length_cons, List.length_nil]
  omega
theorem thF_len (h : Pts p P) : ∀ (ps : List (Int × Int)) (fo : List Int), (∀ q ∈ ps, q ∈ P) → fo.length = P.length → (thF p P fo ps).length = P.length
  | [], fo, _, hl => hl
  | (x, y) :: ps, fo, hs, hl => by
    refine thF_len h ps _ (fun q hq => hs q (List.mem_cons_of_mem _ hq)) ?_
    rw [comb_len, hl]
    rw [hl]
    exact (bk_len h (hs (x, y) (List.mem_cons_self ..))).symm
theorem thF_b (hp : 0 < p) : ∀ (ps : List (Int × Int)) (fo : List Int), (∀ a ∈ fo, 0 ≤ a ∧ a < p) → ∀ a ∈ thF p P fo ps, 0 ≤ a ∧ a < p
  | [], fo, h => h
  | (x, y) :: ps, fo, h => thF_b hp ps _ (comb_b hp)
theorem thr_len (h : Pts p P) : (thr p P).length = P.length := thF_len h P _ (fun _ h => h) (by simp)
theorem thr_b (hp : 0 < p) : ∀ a ∈ thr p P, 0 ≤ a ∧ a < p := thF_b hp P _ fun a ha => by
  rw [(List.mem_replicate.mp ha).2]
  exact ⟨by omega, hp⟩
theorem bk_pos (hp : Pr p) (h : Pts p P) {q : Int × Int} (hq : q ∈ P) : 1 ≤ (bkF p q.1 [1] 1 P).2 ∧ (bkF p q.1 [1] 1 P).2 < p := by
  have b := hp.b
  obtain ⟨_, b1, b2⟩ := bkF_b (p := p) (x := q.1) (by omega) P [1] 1 (fun b hb => by rw [List.mem_singleton.mp hb]; omega) ⟨by omega, by omega⟩
  refine ⟨?_, b2⟩
  rcases Int.lt_or_eq_of_le b1 with z | z
  · omega
  · exfalso
    have e := bkF_bo p q.1 P [1] 1
    rw [← z, Int.mul_one] at e
    exact pro_nd hp (h.each q hq).1 (fun r hr => (h.each r hr).1) (Int.dvd_of_emod_eq_zero (by rw [← e]; simp))
theorem fac_is (hp : Pr p) (h : Pts p P) {q : Int × Int} (hq : q ∈ P) : fac p P q.1 q.2 * pro q.1 q.1 P % p = q.2 := by
  have b := hp.b
  obtain ⟨k1, k2⟩ := bk_pos hp h hq
  obtain ⟨_, _, _, i1, i2, i3⟩ := inv_is hp k1 k2
  have e := bkF_bo p q.1 P [1] 1
  rw [Int.mul_one] at e
  unfold fac
  rw [Int.mul_emod, Int.emod_emod, ← e, ← Int.mul_emod, Int.mul_assoc, Int.mul_emod, i3, Int.mul_one, Int.emod_emod, Int.emod_eq_of_lt (h.each q hq).2.1 (h.each q hq).2.2]
theorem thF_ev (hp : Pr p) (h : Pts p P) {q : Int × Int} (hq : q ∈ P) : ∀ (ps : List (Int × Int)) (fo : List Int), (∀ r ∈ ps, r ∈ P) → (ps.map (·.1)).Nodup → fo.length = P.length → ev q.1 (thF p P fo ps) % p = (ev q.1 fo + if q.1 ∈ ps.map (·.1) then q.2 else 0) % p
  | [], fo, _, _, _ => by simp [thF]
  | (x, y) :: ps, fo, hs, hn, hl => by
    have hx := hs (x, y) (List.mem_cons_self ..)
    have hbl := bk_len h hx
    have cl : (comb p (fac p P x y) fo (bkF p x [1] 1 P).1).length = P.length := by rw [comb_len, hl]; rw [hl]; exact hbl.symm
    simp only [List.map_cons] at hn
    obtain ⟨n1, n2⟩ := List.nodup_cons.mp hn
    show ev q.1 (thF p P _ ps) % p = _
    rw [thF_ev hp h hq ps _ (fun r hr => hs r (List.mem_cons_of_mem _ hr)) n2 cl, Int.add_emod, comb_ev p _ q.1 (by rw [hl]; exact hbl.symm), ← Int.add_emod]
    have e1 : ev q.1 [(1 : Int)] = 1 := by simp [ev]
    have bk := bkF_ev p x q.1 P [1] 1
    rw [e1, Int.mul_one] at bk
    by_cases e : q.1 = x
    · have ey : q.2 = y := by
        have hnd := h.nd
        have : ∀ {L : List (Int × Int)}, (L.map (·.1)).Nodup → ∀ a ∈ L, ∀ b ∈ L, a.1 = b.1 → a = b := by
          intro L
          induction L with
          | nil => intro _ a ha; cases ha
          | cons c L ih =>
            intro hn a ha b hb hab
            simp only [List.map_cons] at hn
            obtain ⟨m1, m2⟩ := List.nodup_cons.mp hn
            rcases List.mem_cons.mp ha with rfl | ha2 <;> rcases List.mem_cons.mp hb with rfl | hb2
            · rfl
            · exact (m1 (List.mem_map.mpr ⟨b, hb2, hab.symm⟩)).elim
            · exact (m1 (List.mem_map.mpr ⟨a, ha2, hab⟩)).elim
            · exact ih m2 a ha2 b hb2 hab
        exact congrArg (·.2) (this hnd q hq (x, y) hx e)
      have f1 := fac_is hp h hx
      have nin : q.1 ∉ ps.map (·.1) := by rw [e]; exact n1
      have yin : q.1 ∈ x :: ps.map (·.1) := by rw [e]; exact List.mem_cons_self ..
      rw [if_neg nin, List.map_cons, if_pos yin, Int.add_zero, Int.add_emod, Int.mul_emod, bk, ← Int.mul_emod, e, f1, ey]
      rw [Int.add_emod (ev x fo) y, Int.emod_eq_of_lt (h.each _ hx).2.1 (h.each _ hx).2.2]
    · have z := pro_zero e (ps := P) (List.mem_map.mpr ⟨q, hq, rfl⟩)
      rw [z] at bk
      have k : (fac p P x y * ev q.1 (bkF p x [1] 1 P).1) % p = 0 := by
        rw [Int.mul_emod, bk]
        simp
      have io : (q.1 ∈ List.map (·.1) ((x, y) :: ps)) = (q.1 ∈ ps.map (·.1)) := by
        rw [List.map_cons, List.mem_cons]
        exact propext ⟨fun z => z.resolve_left e, .inr⟩
      simp only [io]
      have e5 : ∀ a b c : Int, b % p = 0 → (a + b + c) % p = (a + c) % p := fun a b c hb => by
        rw [Int.add_right_comm, Int.add_emod, hb, Int.add_zero, Int.emod_emod]
      exact e5 _ _ _ k
theorem thr_ev (hp : Pr p) (h : Pts p P) {q : Int × Int} (hq : q ∈ P) : ev q.1 (thr p P) % p = q.2 := by
  have z : ∀ n : Nat, ev q.1 (List.replicate n 0) = 0 := fun n => by
    induction n with
    | zero => rfl
    | succ n ih => simp [List.replicate_succ, ev, ih]
  unfold thr
  rw [thF_ev hp h hq P _ (fun _ h => h) h.nd (by simp), z, if_pos (List.mem_map.mpr ⟨q, hq, rfl⟩), Int.zero_add, Int.emod_eq_of_lt (h.each q hq).2.1 (h.each q hq).2.2]
/-- points in another turn -/
theorem thr_perm {P' : List (Int × Int)} (hp : Pr p) (h : Pts p P) (h' : Pts p P') (hm : ∀ q ∈ P, q ∈ P') (hl : P.length = P'.length) : thr p P = thr p P' := by
  have b := hp.b
  refine uniq hp (xs := P.map (·.1)) (by rw [thr_len h, thr_len h', hl]) (by rw [thr_len h]; simp) h.nd (fun x hx => ?_) (thr_b (by omega)) (thr_b (by omega)) fun x hx => ?_
  · obtain ⟨q, hq, rfl⟩ := List.mem_map.mp hx
    exact (h.each q hq).1
  · obtain ⟨q, hq, rfl⟩ := List.mem_map.mp hx
    rw [thr_ev hp h hq, thr_ev hp h' (hm q hq)]
end
def smF (p s : Int) (P : List (Int × Int)) : List (Int × Int) → Int
  | [] => 0
  | q :: ps => fac p P q.1 q.2 * pro s q.1 P + smF p s P ps
theorem thF_any {p : Int} {P : List (Int × Int)} (h : Pts p P) (s : Int) : ∀ (ps : List (Int × Int)) (fo : List Int), (∀ r ∈ ps, r ∈ P) → fo.length = P.length → ev s (thF p P fo ps) % p = (ev s fo + smF p s P ps) % p
  | [], fo, _, _ => by simp [thF, smF]
  | (x, y) :: ps, fo, hs, hl => by
    have hx := hs (x, y) (List.mem_cons_self ..)
    have hbl := bk_len h hx
    have cl : (comb p (fac p P x y) fo (bkF p x [1] 1 P).1).length = P.length := by rw [comb_len, hl]; rw [hl]; exact hbl.symm
    show ev s (thF p P _ ps) % p = _
    rw [thF_any h s ps _ (fun r hr => hs r (List.mem_cons_of_mem _ hr)) cl, Int.add_emod, comb_ev p _ s (by rw [hl]; exact hbl.symm), ← Int.add_emod]
    have e1 : ev s [(1 : Int)] = 1 := by simp [ev]
    have bk := bkF_ev p x s P [1] 1
    rw [e1, Int.mul_one] at bk
    show (ev s fo + fac p P x y * ev s (bkF p x [1] 1 P).1 + smF p s P ps) % p = (ev s fo + (fac p P x y * pro s x P + smF p s P ps)) % p
    have e5 : ∀ a b b' c : Int, b % p = b' % p → (a + b + c) % p = (a + (b' + c)) % p := fun a b b' c hb => by
      rw [show a + b + c = a + c + b by omega, Int.add_emod, hb, ← Int.add_emod]
      congr 1
      omega
    exact e5 _ _ _ _ (by rw [Int.mul_emod, bk, ← Int.mul_emod])
theorem thr_any {p : Int} {P : List (Int × Int)} (h : Pts p P) (s : Int) : ev s (thr p P) % p = smF p s P P % p := by
  have z : ∀ n : Nat, ev s (List.replicate n 0) = 0 := fun n => by
    induction n with
    | zero => rfl
    | succ n ih => simp [List.replicate_succ, ev, ih]
  unfold thr
  rw [thF_any h s P _ (fun _ h => h) (by simp), z, Int.zero_add]
/-- the law's own value between points -/
def btS (p s : Int) (P : List (Int × Int)) : List (Int × Int) → Int
  | [] => 0
  | q :: ps => q.2 * pro s q.1 P * inv p (pro q.1 q.1 P % p) + btS p s P ps
theorem bk_pro {p : Int} {P : List (Int × Int)} (hp : Pr p) (h : Pts p P) {q : Int × Int} (hq : q ∈ P) : (bkF p q.1 [1] 1 P).2 = pro q.1 q.1 P % p := by
  have b := bk_pos hp h hq
  have e := bkF_bo p q.1 P [1] 1
  rw [Int.mul_one] at e
  rw [← e, Int.emod_eq_of_lt (by omega) b.2]
theorem bt_sm {p s : Int} {P : List (Int × Int)} (hp : Pr p) (h : Pts p P) : ∀ (ps : List (Int × Int)), (∀ q ∈ ps, q ∈ P) → btS p s P ps % p = smF p s P ps % p
  | [], _ => rfl
  | q :: ps, hs => by
    have ih := bt_sm (s := s) hp h ps fun r hr => hs r (List.mem_cons_of_mem _ hr)
    have hq := hs q (List.mem_cons_self ..)
    show (q.2 * pro s q.1 P * inv p (pro q.1 q.1 P % p) + btS p s P ps) % p = (fac p P q.1 q.2 * pro s q.1 P + smF p s P ps) % p
    rw [Int.add_emod, ih, ← Int.add_emod, Int.add_emod, Int.add_emod (fac p P q.1 q.2 * pro s q.1 P)]
    congr 2
    unfold fac
    rw [bk_pro hp h hq, Int.mul_emod (_ % p), Int.emod_emod, ← Int.mul_emod]
    congr 1
    grind
theorem bt_is {p s : Int} {P : List (Int × Int)} (hp : Pr p) (h : Pts p P) : btS p s P P % p = hor p s (thr p P) := by
  have b := hp.b
  rw [hor_ev (by omega), thr_any h, bt_sm hp h P fun _ h => h]
abbrev Mail := List (Int × List Int)
def pts (m : Mail) (k : Nat) : List (Int × Int) := m.map fun q => (q.1 + 1, q.2.getD k 0)
def fitB (p : Int) (P : List (Int × Int)) (n : Int) : Bool := (P.drop n.toNat).all fun q => hor p q.1 (thr p (P.take n.toNat)) == q.2
def addk (ks : List Int) (n : Int) : List Int := if n ∈ ks then ks else ks ++ [n]
def unfL (p : Int) (m : Mail) : Nat → List Int → List Int → List Int
  | _, [], ks => ks
  | k, n :: ns, ks => unfL p m (k + 1) ns (if fitB p (pts m k) n then ks else addk ks n)
theorem addk_mem {ks : List Int} {n x : Int} : x ∈ addk ks n ↔ x ∈ ks ∨ x = n := by
  unfold addk
  split
  · rename_i h
    exact ⟨.inl, fun z => z.elim id fun e => e ▸ h⟩
  · simp
theorem unfL_mem {p : Int} {m : Mail} {x : Int} : ∀ (ns : List Int) (k : Nat) (ks : List Int), x ∈ unfL p m k ns ks ↔ x ∈ ks ∨ ∃ i, ns[i]? = some x ∧ fitB p (pts m (k + i)) x = false
  | [], k, ks => by simp [unfL]
  | n :: ns, k, ks => by
    rw [show unfL p m k (n :: ns) ks = unfL p m (k + 1) ns (if fitB p (pts m k) n then ks else addk ks n) from rfl, unfL_mem ns (k + 1)]
    have e : ∀ i, k + 1 + i = k + (i + 1) := fun i => by omega
    constructor
    · rintro (h | ⟨i, h1, h2⟩)
      · cases hf : fitB p (pts m k) n with
        | true =>
          rw [hf, if_pos rfl] at h
          exact .inl h
        | false =>
          rw [hf, if_neg (by decide)] at h
          rcases addk_mem.mp h with h | rfl
          · exact .inl h
          · exact .inr ⟨0, rfl, by simpa using hf⟩
      · exact .inr ⟨i + 1, h1, by rw [← e]; exact h2⟩
    · rintro (h | ⟨i, h1, h2⟩)
      · refine .inl ?_
        split
        · exact h
        · exact addk_mem.mpr (.inl h)
      · cases i with
        | zero =>
          have : n = x := by simpa using h1
          subst this
          refine .inl ?_
          rw [show fitB p (pts m k) n = false by simpa using h2, if_neg (by decide)]
          exact addk_mem.mpr (.inr rfl)
        | succ i => exact .inr ⟨i, h1, by rw [e]; exact h2⟩
theorem unfL_len {p : Int} {m : Mail} : ∀ (ns : List Int) (k : Nat) (ks : List Int), (unfL p m k ns ks).length ≤ ks.length + ns.length
  | [], k, ks => by simp [unfL]
  | n :: ns, k, ks => by
    have := unfL_len (p := p) (m := m) ns (k + 1) (if fitB p (pts m k) n then ks else addk ks n)
    have a : (addk ks n).length ≤ ks.length + 1 := by
      unfold addk
      split
      · omega
      · simp
    show (unfL p m (k + 1) ns _).length ≤ _
    rw [List.length_cons]
    split at this
    · rename_i h
      rw [if_pos h]
      omega
    · rename_i h
      rw [if_neg h]
      omega
def rdL (p : Int) (m : Mail) : Nat → List Int → List Int
  | _, [] => []
  | k, n :: ns => (if n ≤ (m.length : Int) then thr p ((pts m k).take n.toNat) else []) ++ rdL p m (k + 1) ns
def cutL : List Int → List Int → List (List Int)
  | _, [] => []
  | ms, n :: ns => ms.take n.toNat :: cutL (ms.drop n.toNat) ns
theorem cutL_len : ∀ (ns ms : List Int), (cutL ms ns).length = ns.length
  | [], _ => rfl
  | n :: ns, ms => by simp [cutL, cutL_len ns]
/-- needs that ascend, from 1 on -/
def asc : Int → List Int → Prop
  | _, [] => True
  | l, n :: ns => l ≤ n ∧ asc n ns
theorem asc_ge : ∀ {l : Int} {ns : List Int}, asc l ns → ∀ {i : Nat} {n : Int}, ns[i]? = some n → l ≤ n
  | l, n :: ns, h, 0, x, e => by
    have : n = x := by simpa using e
    subst this
    exact h.1
  | l, n :: ns, h, i + 1, x, e => Int.le_trans h.1 (asc_ge h.2 (i := i) (by simpa using e))
structure Ml (p : Int) (L N : Nat) (m : Mail) : Prop where
  len : m.length ≤ L
  each : ∀ q ∈ m, (0 ≤ q.1 ∧ q.1 < L) ∧ (∀ a ∈ q.2, 0 ≤ a ∧ a < p) ∧ q.2.length = N
  rise : (m.map (·.1)).Pairwise (· < ·)
section
variable {p : Int} {L N : Nat} {m : Mail}
theorem pts_take (hp : Pr p) (h : Ml p L N m) (hL : L ≤ 8) {k n : Nat} (hk : k < N) (hn : 1 ≤ n) (hm : 1 ≤ m.length) : Pts p ((pts m k).take n) := by
  have b := hp.b
  have hl := h.len
  refine ⟨by simp [pts]; omega, by simp [pts]; omega, fun q hq => ?_, ?_⟩
  · obtain ⟨r, hr, rfl⟩ := List.mem_map.mp (List.mem_of_mem_take hq)
    obtain ⟨e1, e2, e3⟩ := h.each r hr
    have hk' : k < r.2.length := by omega
    have : r.2.getD k 0 ∈ r.2 := by simp [List.getD, hk', List.getElem_mem]
    exact ⟨by show 0 ≤ r.1 + 1 ∧ r.1 + 1 < p; omega, e2 _ this⟩
  · have e : (pts m k).map (·.1) = (m.map (·.1)).map (· + 1) := by simp [pts, List.map_map, Function.comp_def]
    have nd : ((pts m k).map (·.1)).Nodup := by
      rw [e]
      refine List.pairwise_map.mpr (h.rise.imp fun z => ?_)
      omega
    rw [List.map_take]
    exact nd.sublist (List.take_sublist ..)
theorem fit_long {P : List (Int × Int)} {n : Int} (h : fitB p P n = false) : n < P.length := by
  by_cases hl : n < (P.length : Int)
  · exact hl
  · unfold fitB at h
    rw [List.drop_eq_nil_of_le (by omega)] at h
    cases h
/-- what is read, cut again -/
theorem rd_cut (hp : Pr p) (h : Ml p L N m) (hL : L ≤ 8) (zs : List Int) : ∀ (ns : List Int) (k : Nat) (l : Int), 1 ≤ l → asc l ns → k + ns.length = N → ∀ {i : Nat} {n : Int}, ns[i]? = some n → n ≤ m.length → (cutL (rdL p m k ns ++ zs) ns)[i]? = some (thr p ((pts m (k + i)).take n.toNat))
  | [], k, l, _, _, _, i, n, e, _ => by simp at e
  | x :: ns, k, l, hl, ha, hN, i, n, e, hn => by
    rw [List.length_cons] at hN
    have hx1 := ha.1
    have hx : x ≤ (m.length : Int) := by
      cases i with
      | zero =>
        have : x = n := by simpa using e
        omega
      | succ i =>
        have := asc_ge ha.2 (i := i) (n := n) (by simpa using e)
        omega
    have pt := pts_take hp h hL (k := k) (n := x.toNat) (by omega) (by omega) (by omega)
    have tl : (thr p ((pts m k).take x.toNat)).length = x.toNat := by
      rw [thr_len pt]
      simp [pts]
      omega
    have er : rdL p m k (x :: ns) ++ zs = thr p ((pts m k).take x.toNat) ++ (rdL p m (k + 1) ns ++ zs) := by
      show (if x ≤ (m.length : Int) then thr p ((pts m k).take x.toNat) else []) ++ rdL p m (k + 1) ns ++ zs = _
      rw [if_pos hx, List.append_assoc]
    rw [er]
    show (List.take x.toNat _ :: cutL (List.drop x.toNat _) ns)[i]? = _
    rw [List.take_left' tl, List.drop_left' tl]
    cases i with
    | zero =>
      have : x = n := by simpa using e
      subst this
      rfl
    | succ i =>
      have := rd_cut hp h hL zs ns (k + 1) x (by omega) ha.2 (by omega) (i := i) (n := n) (by simpa using e) hn
      rw [List.getElem?_cons_succ, this]
      congr 4
      omega
def sumLe (m : Int) : List Int → Int
  | [] => 0
  | n :: ns => (if n ≤ m then n else 0) + sumLe m ns
theorem rd_len (hp : Pr p) (h : Ml p L N m) (hL : L ≤ 8) : ∀ (ns : List Int) (k : Nat), (∀ n ∈ ns, 1 ≤ n) → k + ns.length = N → ((rdL p m k ns).length : Int) = sumLe m.length ns
  | [], k, _, _ => rfl
  | x :: ns, k, h1, hN => by
    rw [List.length_cons] at hN
    have ih := rd_len hp h hL ns (k + 1) (fun n hn => h1 n (List.mem_cons_of_mem _ hn)) (by omega)
    have hx := h1 x (List.mem_cons_self ..)
    show ((((if x ≤ (m.length : Int) then thr p ((pts m k).take x.toNat) else []) ++ rdL p m (k + 1) ns).length : Nat) : Int) = (if x ≤ (m.length : Int) then x else 0) + sumLe m.length ns
    rw [List.length_append]
    by_cases hm : x ≤ (m.length : Int)
    · have pt := pts_take hp h hL (k := k) (n := x.toNat) (by omega) (by omega) (by omega)
      have tl : (thr p ((pts m k).take x.toNat)).length = x.toNat := by
        rw [thr_len pt]
        simp [pts]
        omega
      rw [if_pos hm, if_pos hm, tl]
      omega
    · rw [if_neg hm, if_neg hm]
      simp only [List.length_nil]
      omega
theorem rd_b (hp : Pr p) : ∀ (ns : List Int) (k : Nat), ∀ a ∈ rdL p m k ns, 0 ≤ a ∧ a < p
  | [], k, a, ha => by cases ha
  | x :: ns, k, a, ha => by
    have b := hp.b
    rcases List.mem_append.mp (show a ∈ (if x ≤ (m.length : Int) then thr p ((pts m k).take x.toNat) else []) ++ rdL p m (k + 1) ns from ha) with z | z
    · split at z
      · exact thr_b (by omega) a z
      · cases z
    · exact rd_b hp ns (k + 1) a z
end
def laidL (p : Int) (B : List (List Int)) (q : Int) : List Int := B.map fun b => hor p (q + 1) b
theorem cut_at : ∀ (ns ms : List Int), (∀ n ∈ ns, 0 ≤ n) → (ms.length : Int) = ns.sum → ∀ {i : Nat} {n : Int}, ns[i]? = some n → ∃ b, (cutL ms ns)[i]? = some b ∧ (b.length : Int) = n ∧ ∀ a ∈ b, a ∈ ms
  | [], ms, _, _, i, n, e => by simp at e
  | x :: ns, ms, h0, hs, i, n, e => by
    have hx := h0 x (List.mem_cons_self ..)
    rw [List.sum_cons] at hs
    have sn : 0 ≤ ns.sum := by
      have : ∀ l : List Int, (∀ n ∈ l, 0 ≤ n) → 0 ≤ l.sum := by
        intro l
        induction l with
        | nil => intro _; decide
        | cons a l ih =>
          intro h
          rw [List.sum_cons]
          have := h a (List.mem_cons_self ..)
          have := ih fun n hn => h n (List.mem_cons_of_mem _ hn)
          omega
      exact this ns fun n hn => h0 n (List.mem_cons_of_mem _ hn)
    cases i with
    | zero =>
      have : x = n := by simpa using e
      subst this
      refine ⟨ms.take x.toNat, rfl, ?_, fun a ha => List.mem_of_mem_take ha⟩
      rw [List.length_take]
      omega
    | succ i =>
      obtain ⟨b, h1, h2, h3⟩ := cut_at ns (ms.drop x.toNat) (fun n hn => h0 n (List.mem_cons_of_mem _ hn)) (by rw [List.length_drop]; omega) (i := i) (n := n) (by simpa using e)
      exact ⟨b, h1, h2, fun a ha => List.mem_of_mem_drop (h3 a ha)⟩
section
variable {p : Int} {L N : Nat} {m : Mail}
/-- points that lie on a block -/
theorem on_block (hp : Pr p) {P : List (Int × Int)} {b : List Int} (hP : Pts p P) (hb : ∀ a ∈ b, 0 ≤ a ∧ a < p) (hl : b.length = P.length) (ho : ∀ q ∈ P, hor p q.1 b = q.2) : thr p P = b := by
  have bb := hp.b
  refine uniq hp (xs := P.map (·.1)) (by rw [thr_len hP, hl]) (by rw [thr_len hP]; simp) hP.nd (fun x hx => ?_) (thr_b (by omega)) hb fun x hx => ?_
  · obtain ⟨q, hq, rfl⟩ := List.mem_map.mp hx
    exact (hP.each q hq).1
  · obtain ⟨q, hq, rfl⟩ := List.mem_map.mp hx
    rw [thr_ev hp hP hq, ← ho q hq, hor_ev (by omega)]
theorem pts_on {B : List (List Int)} {k : Nat} {b : List Int} (hb : B[k]? = some b) (hm : ∀ q ∈ m, q.2 = laidL p B q.1) : ∀ q ∈ pts m k, hor p q.1 b = q.2 := fun q hq => by
  obtain ⟨r, hr, rfl⟩ := List.mem_map.mp hq
  rw [hm r hr]
  show hor p (r.1 + 1) b = (laidL p B r.1).getD k 0
  unfold laidL
  simp [List.getD, hb]
theorem mess_fit (hp : Pr p) (h : Ml p L N m) (hL : L ≤ 8) {B : List (List Int)} (hm : ∀ q ∈ m, q.2 = laidL p B q.1) {k : Nat} {n : Int} {b : List Int} (hk : k < N) (hn : 1 ≤ n) (hb : B[k]? = some b) (hbl : (b.length : Int) = n) (hbs : ∀ a ∈ b, 0 ≤ a ∧ a < p) :
    (n ≤ m.length → thr p ((pts m k).take n.toNat) = b) ∧ fitB p (pts m k) n = true := by
  have key : n ≤ m.length → thr p ((pts m k).take n.toNat) = b := fun hnm => by
    refine on_block hp (pts_take hp h hL hk (by omega) (by omega)) hbs ?_ fun q hq => pts_on hb hm q (List.mem_of_mem_take hq)
    simp [pts]
    omega
  refine ⟨key, ?_⟩
  cases hf : fitB p (pts m k) n with
  | true => rfl
  | false =>
    have := fit_long hf
    have hnm : n ≤ m.length := by
      simp [pts] at this
      omega
    rw [← hf]
    unfold fitB
    rw [List.all_eq_true]
    intro q hq
    rw [key hnm, beq_iff_eq]
    exact pts_on hb hm q (List.mem_of_mem_drop hq)
theorem mess_rd (hp : Pr p) (h : Ml p L N m) (hL : L ≤ 8) {B : List (List Int)} (hm : ∀ q ∈ m, q.2 = laidL p B q.1) : ∀ (ns ms : List Int) (k : Nat) (l : Int), 1 ≤ l → asc l ns → k + ns.length = N → (ms.length : Int) = ns.sum → (∀ a ∈ ms, 0 ≤ a ∧ a < p) → (∀ i, (cutL ms ns)[i]? = B[k + i]?) → rdL p m k ns = ms.take (sumLe m.length ns).toNat
  | [], ms, k, l, _, _, _, hs, _, _ => by simp [rdL, sumLe]
  | x :: ns, ms, k, l, hl, ha, hN, hs, hms, hB => by
    rw [List.length_cons] at hN
    rw [List.sum_cons] at hs
    have hx := ha.1
    have pos : ∀ {l : Int} {ns : List Int}, 1 ≤ l → asc l ns → ∀ n ∈ ns, 1 ≤ n := fun hl ha n hn => by
      obtain ⟨i, hi, e⟩ := List.mem_iff_getElem.mp hn
      have := asc_ge ha (i := i) (n := n) (by rw [List.getElem?_eq_getElem hi, e])
      omega
    have nn : ∀ l : List Int, (∀ n ∈ l, 1 ≤ n) → 0 ≤ l.sum ∧ 0 ≤ sumLe m.length l ∧ sumLe m.length l ≤ l.sum := by
      intro l
      induction l with
      | nil => intro _; exact ⟨Int.le_refl 0, Int.le_refl 0, Int.le_refl 0⟩
      | cons a l ih =>
        intro h
        have h1 := h a (List.mem_cons_self ..)
        have h2 := ih fun n hn => h n (List.mem_cons_of_mem _ hn)
        rw [List.sum_cons]
        show 0 ≤ _ ∧ 0 ≤ (if a ≤ (m.length : Int) then a else 0) + sumLe m.length l ∧ (if a ≤ (m.length : Int) then a else 0) + sumLe m.length l ≤ _
        split <;> omega
    have hq := nn ns (pos (by omega) ha.2)
    have b0 : B[k]? = some (ms.take x.toNat) := by
      have := hB 0
      rw [Nat.add_zero] at this
      rw [← this]
      rfl
    show (if x ≤ (m.length : Int) then thr p ((pts m k).take x.toNat) else []) ++ rdL p m (k + 1) ns = ms.take ((if x ≤ (m.length : Int) then x else 0) + sumLe m.length ns).toNat
    by_cases hxm : x ≤ (m.length : Int)
    · rw [if_pos hxm, if_pos hxm]
      have tk := (mess_fit hp h hL hm (k := k) (n := x) (by omega) (by omega) b0 (by rw [List.length_take]; omega) fun a ha => hms a (List.mem_of_mem_take ha)).1 hxm
      have ih := mess_rd hp h hL hm ns (ms.drop x.toNat) (k + 1) x (by omega) ha.2 (by omega) (by rw [List.length_drop]; omega) (fun a ha => hms a (List.mem_of_mem_drop ha)) fun i => by
        have := hB (i + 1)
        rw [show k + 1 + i = k + (i + 1) by omega, ← this]
        rfl
      rw [tk, ih, show (x + sumLe m.length ns).toNat = x.toNat + (sumLe m.length ns).toNat by omega, List.take_add]
    · rw [if_neg hxm, if_neg hxm]
      have z : ∀ {l : Int} (ns : List Int) (k : Nat), (m.length : Int) < l → asc l ns → rdL p m k ns = [] ∧ sumLe m.length ns = 0 := by
        intro l ns
        induction ns generalizing l with
        | nil => intro k _ _; exact ⟨rfl, rfl⟩
        | cons y ns ih =>
          intro k hl ha
          have hy := ha.1
          obtain ⟨i1, i2⟩ := ih (k + 1) (show (m.length : Int) < y by omega) ha.2
          have ny : ¬ y ≤ (m.length : Int) := by omega
          constructor
          · show (if y ≤ (m.length : Int) then _ else []) ++ rdL p m (k + 1) ns = []
            rw [if_neg ny, i1]
            rfl
          · show (if y ≤ (m.length : Int) then y else 0) + sumLe m.length ns = 0
            rw [if_neg ny, i2]
            rfl
      obtain ⟨z1, z2⟩ := z ns (k + 1) (show (m.length : Int) < x by omega) ha.2
      rw [z1, z2]
      simp
/-- altered mail is noticed where enough letters are unaltered -/
theorem alt_unfit (hp : Pr p) {m' : Mail} (h : Ml p L N m) (h' : Ml p L N m') (hL : L ≤ 8) (hl : m.length = m'.length) (hnum : m.map (·.1) = m'.map (·.1)) {B : List (List Int)} (hBl : B.length = N) (hm : ∀ q ∈ m, q.2 = laidL p B q.1) {ns : List Int} (hns : ns.length = N)
    (hB : ∀ (i : Nat) (n : Int), ns[i]? = some n → ∃ b, B[i]? = some b ∧ (b.length : Int) = n ∧ ∀ a ∈ b, 0 ≤ a ∧ a < p) (h1 : ∀ n ∈ ns, 1 ≤ n) (hc : ((m.zip m').filter fun q => !decide (q.1 = q.2)) ≠ [])
    (hf : ∀ n ∈ ns, n ≤ (m.length : Int) - ((m.zip m').filter fun q => !decide (q.1 = q.2)).length) : unfL p m' 0 ns [] ≠ [] := by
  have bb := hp.b
  obtain ⟨c, hcm⟩ := List.exists_mem_of_ne_nil _ hc
  obtain ⟨cz, cd⟩ := List.mem_filter.mp hcm
  have cd : c.1 ≠ c.2 := by simpa using cd
  have c1 := (List.of_mem_zip cz).1
  have c2 := (List.of_mem_zip cz).2
  have numz : ∀ q ∈ m.zip m', q.1.1 = q.2.1 := by
    have : ∀ (a b : Mail), a.map (·.1) = b.map (·.1) → ∀ q ∈ a.zip b, q.1.1 = q.2.1 := by
      intro a
      induction a with
      | nil => intro b _ q hq; simp at hq
      | cons x a ih =>
        intro b hab q hq
        cases b with
        | nil => simp at hq
        | cons y b =>
          simp only [List.map_cons, List.cons.injEq] at hab
          rw [List.zip_cons_cons] at hq
          rcases List.mem_cons.mp hq with rfl | hq
          · exact hab.1
          · exact ih b hab.2 q hq
    exact this m m' hnum
  have en := numz c cz
  have l1 := (h.each _ c1).2.2
  have l2 := (h'.each _ c2).2.2
  -- the place where they differ
  have hi : ∃ i, i < N ∧ c.1.2.getD i 0 ≠ c.2.2.getD i 0 := by
    false_or_by_contra
    rename_i hn
    refine cd (Prod.ext en (List.ext_getElem? fun i => ?_))
    by_cases hiN : i < N
    · have : c.1.2.getD i 0 = c.2.2.getD i 0 := by
        false_or_by_contra
        rename_i z
        exact hn ⟨i, hiN, z⟩
      simp only [List.getD] at this
      rw [List.getElem?_eq_getElem (by omega), List.getElem?_eq_getElem (by omega)] at this ⊢
      simpa using this
    · rw [List.getElem?_eq_none (by omega), List.getElem?_eq_none (by omega)]
  obtain ⟨i, hiN, hdf⟩ := hi
  have hgn : ns[i]? = some ns[i] := List.getElem?_eq_getElem (by omega)
  generalize hne : ns[i] = n at hgn
  have hn1 := h1 n (by rw [← hne]; exact List.getElem_mem _)
  have hn2 := hf n (by rw [← hne]; exact List.getElem_mem _)
  obtain ⟨b, hb1, hb2, hb3⟩ := hB i n hgn
  intro hu
  have hfit : fitB p (pts m' i) n = true := by
    cases hq : fitB p (pts m' i) n with
    | true => rfl
    | false =>
      have : n ∈ unfL p m' 0 ns [] := (unfL_mem ns 0 []).mpr (.inr ⟨i, hgn, by rw [Nat.zero_add]; exact hq⟩)
      rw [hu] at this
      cases this
  have pt := pts_take hp h' hL (k := i) (n := n.toNat) hiN (by omega) (by have := List.length_pos_of_mem c2; omega)
  generalize hC : thr p ((pts m' i).take n.toNat) = C at *
  have onC : ∀ q ∈ pts m' i, hor p q.1 C = q.2 := fun q hq => by
    rw [← List.take_append_drop n.toNat (pts m' i)] at hq
    rcases List.mem_append.mp hq with z | z
    · rw [← hC, hor_ev (by omega), thr_ev hp pt z]
    · unfold fitB at hfit
      rw [hC] at hfit
      exact beq_iff_eq.mp (List.all_eq_true.mp hfit q z)
  have onB := pts_on (p := p) hb1 hm
  have same : b = C := by
    have zl : (m.zip m').length = m.length := by simp [hl]
    have fl : ((m.zip m').filter fun q => decide (q.1 = q.2)).length + ((m.zip m').filter fun q => !decide (q.1 = q.2)).length = (m.zip m').length := by
      have : ∀ (l : List ((Int × List Int) × (Int × List Int))), (l.filter fun q => decide (q.1 = q.2)).length + (l.filter fun q => !decide (q.1 = q.2)).length = l.length := by
        intro l
        induction l with
        | nil => rfl
        | cons x l ih =>
          by_cases hx : x.1 = x.2
          · simp only [List.filter_cons, hx, decide_true, if_true, Bool.not_true, Bool.false_eq_true, if_false, List.length_cons]
            omega
          · simp only [List.filter_cons, hx, decide_false, Bool.false_eq_true, if_false, Bool.not_false, if_true, List.length_cons]
            omega
      exact this _
    have Cl : C.length = n.toNat := by
      rw [← hC, thr_len pt]
      simp [pts]
      omega
    have sub : (((m.zip m').filter fun q => decide (q.1 = q.2)).map fun q => q.1.1 + 1).Nodup := by
      have z1 : ((m.zip m').map fun q => q.1.1) = m.map (·.1) := by
        have : (m.zip m').map (·.1) = m := by rw [List.map_fst_zip]; omega
        calc (m.zip m').map (fun q => q.1.1) = ((m.zip m').map (·.1)).map (·.1) := by rw [List.map_map]; rfl
          _ = m.map (·.1) := by rw [this]
      have z2 : ((m.zip m').map fun q => q.1.1 + 1).Nodup := by
        have : ((m.zip m').map fun q => q.1.1 + 1) = (m.map (·.1)).map (· + 1) := by rw [← z1, List.map_map]; rfl
        rw [this]
        exact List.pairwise_map.mpr (h.rise.imp fun z => by omega)
      exact z2.sublist ((List.filter_sublist).map _)
    refine uniq hp (xs := ((m.zip m').filter fun q => decide (q.1 = q.2)).map fun q => q.1.1 + 1) (by omega) (by rw [List.length_map]; omega) sub (fun x hx => ?_) hb3 (by rw [← hC]; exact thr_b (by omega)) fun x hx => ?_
    · obtain ⟨q, hq, rfl⟩ := List.mem_map.mp hx
      have := (h.each _ (List.of_mem_zip (List.mem_filter.mp hq).1).1).1
      omega
    · obtain ⟨q, hq, rfl⟩ := List.mem_map.mp hx
      obtain ⟨q1, q2⟩ := List.mem_filter.mp hq
      have qe : q.1 = q.2 := by simpa using q2
      have o1 := onB _ (List.mem_map.mpr ⟨q.1, (List.of_mem_zip q1).1, rfl⟩)
      have o2 := onC _ (List.mem_map.mpr ⟨q.2, (List.of_mem_zip q1).2, rfl⟩)
      rw [← qe] at o2
      have o3 := o1.trans o2.symm
      rw [hor_ev (by omega), hor_ev (by omega)] at o3
      exact o3
  have o1 := onB _ (List.mem_map.mpr ⟨c.1, c1, rfl⟩)
  have o2 := onC _ (List.mem_map.mpr ⟨c.2, c2, rfl⟩)
  rw [same] at o1
  refine hdf ?_
  have o1 : hor p (c.1.1 + 1) C = c.1.2.getD i 0 := o1
  have o2 : hor p (c.2.1 + 1) C = c.2.2.getD i 0 := o2
  rw [← o1, ← o2, en]
end
abbrev I (ns : List Int) : List PF.W := ns.map PF.W.int
abbrev Sg (p : Int) (as : List Int) : Prop := ∀ a ∈ as, 0 ≤ a ∧ a < p
theorem rest_run {p : Int} (h : 0 < p) (a : Int) : F_rest_of [.int p, .int a] = .ok (.int (a % p)) := by
  simp [F_rest_of, defF, startE, endOf, h]
theorem pr_in {p : Int} (h : Pr p) : ninW (.int p) k_PRIMES = .ok (.bl false) := by
  rcases h with rfl | rfl | rfl | rfl | rfl <;> rfl
theorem nprime_run {p : Int} (h : Pr p) : F_need_prime [.int p] = .ok .non := by
  simp [F_need_prime, defF, startE, isint_run, pr_in h, endOf]
theorem issign_run (p a : Int) : F_is_sign [.int p, .int a] = .ok (.bl (decide (0 ≤ a) && decide (a ≤ p - 1))) := by
  simp [F_is_sign, defF, startE, between_run, endOf]
theorem aresigns_run {p : Int} {as : List Int} (h : Sg p as) (hl : as.length ≤ 1000) : F_are_signs [.int p, .tup (I as)] = .ok (.bl true) := by
  have hz : sizeOk (I as) = true := size_small (by simpa using hl)
  have c : compL (goName 2) fYes (fL (fCons (gV 0) (fCons (gV 2) fNil)) F_is_sign) [.val (.int p), .val (.tup (I as)), .un] (I as) = .ok (as.map fun a => PF.W.bl (decide (0 ≤ a) && decide (a ≤ p - 1))) := by
    refine compL_map _ _ _ fun a _ => ⟨_, rfl, rfl, ?_⟩
    simp [issign_run]
  have hA := all_bls (as := as) (t := fun a => decide (0 ≤ a) && decide (a ≤ p - 1)) fun a ha => by
    have := h a ha
    have e : a ≤ p - 1 := by omega
    simp [this.1, e]
  simp [F_are_signs, defF, startE, tup_is, fComp, tupW, hz, wipeE, c, hA, endOf]
theorem nmess_run {p : Int} {as : List Int} (hp : Pr p) (h : Sg p as) (hl : as.length ≤ 96) : F_need_message [.int p, .tup (I as)] = .ok (.tup (I as)) := by
  have l2 : ¬ (96 : Int) < (as.length : Int) := by omega
  simp [F_need_message, defF, startE, nprime_run hp, aresigns_run h (by omega), k_MOST_SIGNS, l2, endOf]
abbrev gV1 : En → T (Fl × En) := (sSet 3 (fL (fCons (gV 0) (fCons (f2 addW (f2 mulW (gV 3) (gV 2)) (gV 4)) fNil)) F_rest_of))
theorem snoc_ind {C : List Int → Prop} (h0 : C []) (h1 : ∀ xs x, C xs → C (xs ++ [x])) (xs : List Int) : C xs := by
  have : ∀ ys : List Int, C ys.reverse := fun ys => by
    induction ys with
    | nil => exact h0
    | cons y ys ih =>
      rw [List.reverse_cons]
      exact h1 _ _ ih
  have := this xs.reverse
  rwa [List.reverse_reverse] at this
theorem vin_loop {p s : Int} (hp : Pr p) (hs : 0 ≤ s ∧ s < p) (v1 : Sl) : ∀ (xs ys : List Int) (y4 : Sl), Sg p xs → ∃ z4, forL (goName 4) gV1 (I xs.reverse) [.val (.int p), v1, .val (.int s), .val (.int (hor p s ys)), y4] = .ok (.nx, [.val (.int p), v1, .val (.int s), .val (.int (hor p s (xs ++ ys))), z4]) := by
  intro xs
  refine snoc_ind (C := fun xs => ∀ (ys : List Int) (y4 : Sl), Sg p xs → ∃ z4, forL (goName 4) gV1 (I xs.reverse) [.val (.int p), v1, .val (.int s), .val (.int (hor p s ys)), y4] = .ok (.nx, [.val (.int p), v1, .val (.int s), .val (.int (hor p s (xs ++ ys))), z4])) (fun ys y4 _ => ⟨y4, rfl⟩) (fun xs x ih => ?_) xs
  · intro ys y4 hx
    have b := hp.b
    have hh := hor_b (p := p) (s := s) (by omega) ys
    have hxx := hx x (by simp)
    obtain ⟨z4, e⟩ := ih (x :: ys) (.val (.int x)) fun a ha => hx a (by simp [ha])
    refine ⟨z4, ?_⟩
    have mo : mulOk (hor p s ys) s = true := mul_small (by omega) (by omega)
    rw [List.reverse_append, List.reverse_singleton, I, List.map_append, List.map_cons, List.map_nil, List.singleton_append]
    unfold forL
    simp only [goName_eq, List.set_cons_succ, List.set_cons_zero, gV1, sSet_eq, fL_eq, fCons_eq, fNil_eq, f2_eq, gV_eq, List.getElem?_cons_succ, List.getElem?_cons_zero, T.bind_ok, mulW_int, mo, if_true, addW_int, rest_run (show 0 < p by omega)]
    have ea : xs ++ [x] ++ ys = xs ++ x :: ys := by simp
    rw [ea]
    exact e
theorem vin_run {p s : Int} {as : List Int} (hp : Pr p) (hs : 0 ≤ s ∧ s < p) (h : Sg p as) : F_value_in [.int p, .tup (I as), .int s] = .ok (.int (hor p s as)) := by
  obtain ⟨z4, e⟩ := vin_loop hp hs (.val (.tup (I as))) as [] .un h
  rw [List.append_nil] at e
  have e2 : (I as).reverse = I as.reverse := by simp [I]
  have e : forL (goName 4) gV1 (I as.reverse) [.val (.int p), .val (.tup (I as)), .val (.int s), .val (.int 0), .un] = _ := e
  simp only [gV1] at e
  simp [F_value_in, defF, startE, backW, tupW, e2, e, endOf, -List.map_reverse]
abbrev gV2 : En → T (Fl × En) := (sPar 3 4 (fCons (f2 addW (gV 3) (f2 mulW (gV 5) (gV 4))) (fCons (f2 mulW (gV 4) (gV 2)) fNil)))
theorem lval_loop {p s : Int} (hs : 0 ≤ s ∧ s < 32) (v1 : Sl) : ∀ (xs : List Int) (got pw : Int) (k : Nat) (y5 : Sl), (∀ a ∈ xs, 0 ≤ a ∧ a < 32) → S (5 * k + 5) pw → k + xs.length ≤ 1000 → ∃ z4 z5, forL (goName 5) gV2 (I xs) [.val (.int p), v1, .val (.int s), .val (.int got), .val (.int pw), y5] = .ok (.nx, [.val (.int p), v1, .val (.int s), .val (.int (got + pw * ev s xs)), z4, z5])
  | [], got, pw, k, y5, _, _, _ => ⟨.val (.int pw), y5, by simp [forL, ev]⟩
  | x :: xs, got, pw, k, y5, hx, hw, hk => by
    rw [List.length_cons] at hk
    have sx : S 5 x := by
      have := hx x (List.mem_cons_self ..)
      unfold S
      omega
    have ss : S 5 s := by
      unfold S
      omega
    have w2 : S (5 * (k + 1) + 5) (pw * s) := (hw.mul ss).mono (by omega)
    obtain ⟨z4, z5, e⟩ := lval_loop hs v1 xs (got + x * pw) (pw * s) (k + 1) (.val (.int x)) (fun a ha => hx a (List.mem_cons_of_mem _ ha)) w2 (by omega)
    refine ⟨z4, z5, ?_⟩
    have m1 : mulOk x pw = true := sx.ok hw (by omega)
    have m2 : mulOk pw s = true := hw.ok ss (by omega)
    rw [I, List.map_cons]
    unfold forL
    have ef : got + x * pw + pw * s * ev s xs = got + pw * (x + s * ev s xs) := by grind
    rw [ef] at e
    simp only [goName_eq, List.set_cons_succ, List.set_cons_zero, gV2, sPar_eq, fCons_eq, fNil_eq, f2_eq, gV_eq, List.getElem?_cons_succ, List.getElem?_cons_zero, T.bind_ok, mulW_int, m1, m2, if_true, addW_int]
    exact e
theorem lval_run {p s : Int} {as : List Int} (hp : Pr p) (hs : 0 ≤ s ∧ s < p) (h : Sg p as) (hl : as.length ≤ 96) : F__law_value [.int p, .tup (I as), .int s] = .ok (.int (hor p s as)) := by
  have b := hp.b
  obtain ⟨z4, z5, e⟩ := lval_loop (p := p) (s := s) ⟨hs.1, by omega⟩ (.val (.tup (I as))) as 0 1 0 .un (fun a ha => by have := h a ha; omega) (by unfold S; decide) (by omega)
  rw [Int.zero_add, Int.one_mul] at e
  have e3 : sizeOk [PF.W.int 0, PF.W.int 1] = true := sizeOk_2 ..
  have pp : 0 < p := by omega
  simp only [gV2] at e
  have go : (goTup 2 (goCons (goName 3) (goCons (goName 4) goNil))) (.tup [.int 0, .int 1]) [.val (.int p), .val (.tup (I as)), .val (.int s), .un, .un, .un] = some [.val (.int p), .val (.tup (I as)), .val (.int s), .val (.int 0), .val (.int 1), .un] := rfl
  unfold F__law_value
  rw [defF_eq _ _ _ _ rfl]
  simp only [startE, List.map_cons, List.map_nil, List.length_cons, List.length_nil, Nat.reduceAdd, Nat.reduceSub, List.replicate, List.cons_append, List.nil_append, sSeq_eq, sAsg, fL_eq, fCons_eq, fNil_eq, T.bind_ok, mkTup_eq, e3, if_true, go, sFor_eq, iOf_eq, tupW, gV_eq, List.getElem?_cons_succ, List.getElem?_cons_zero, e, sRet_eq, f2_eq, intW_int, modW_int, decide_eq_true pp, endOf, hor_ev pp]
theorem ints1 (n : Nat) : PF.intsFrom 1 n = (List.range n).map fun (i : Nat) => PF.W.int (1 + (i : Int)) := by
  refine List.ext_getElem? fun i => ?_
  rw [PF.intsFrom_get]
  by_cases h : i < n <;> simp [h]
section
variable {p : Int}
theorem rng_p (hp : Pr p) : rng2 [.int 1, .int p] = .ok (PF.intsFrom 1 (p.toNat - 1)) := by
  have b := hp.b
  have a1 : rngOk 1 = true := rngOk_is (by decide) (by decide)
  have a2 : rngOk p = true := rngOk_is (by omega) (by omega)
  have e : (p - 1).toNat = p.toNat - 1 := by omega
  simp [rng2, a1, a2, e]
theorem ix_inv (hp : Pr p) {b : Int} (h1 : 1 ≤ b) (h2 : b < p) : ixW (.lst (((List.range (p.toNat - 1)).filter fun (i : Nat) => (1 + (i : Int)) * b % p == 1).map fun (i : Nat) => PF.W.int (1 + (i : Int)))) (.int 0) = .ok (.int (inv p b)) := by
  obtain ⟨i, e, e2, _⟩ := inv_is hp h1 h2
  generalize ((List.range (p.toNat - 1)).filter fun (i : Nat) => (1 + (i : Int)) * b % p == 1) = xs at e
  cases xs with
  | nil => simp at e
  | cons x xs =>
    have e : x = i := by simpa using e
    subst e
    rw [List.map_cons, e2]
    simp [ixW, atI, ixN]
theorem inv_run (hp : Pr p) {b : Int} (h1 : 1 ≤ b) (h2 : b < p) : F_inverse_in [.int p, .int b] = .ok (.int (inv p b)) := by
  have bb := hp.b
  have hz : sizeOk (PF.intsFrom 1 (p.toNat - 1)) = true := size_small (by rw [PF.intsFrom_length]; omega)
  have c : compL (goName 2) (fBl (f2 eqS (fL (fCons (gV 0) (fCons (f2 mulW (gV 2) (gV 1)) fNil)) F_rest_of) (fun _ => .ok (.int 1)))) (gV 2) [.val (.int p), .val (.int b), .un] (PF.intsFrom 1 (p.toNat - 1)) = .ok (((List.range (p.toNat - 1)).filter fun (i : Nat) => (1 + (i : Int)) * b % p == 1).map fun (i : Nat) => PF.W.int (1 + (i : Int))) := by
    rw [ints1]
    refine compL_filter _ _ _ _ fun i hi => ⟨_, rfl, ?_, fun _ => by simp⟩
    have hi := List.mem_range.mp hi
    have mo : mulOk (1 + (i : Int)) b = true := mul_small (by omega) (by omega)
    simp [mo, rest_run (show 0 < p by omega)]
  simp [F_inverse_in, defF, startE, fComp, rng_p hp, hz, wipeE, c, ix_inv hp h1 h2, endOf]
theorem lback_run (hp : Pr p) {b : Int} (h1 : 1 ≤ b) (h2 : b < p) : F__law_back [.int p, .int b] = .ok (.int (inv p b)) := by
  have bb := hp.b
  have hz : sizeOk (PF.intsFrom 1 (p.toNat - 1)) = true := size_small (by rw [PF.intsFrom_length]; omega)
  have c : compL (goName 2) (fBl (f2 eqS (f2 modW (fL (fCons (f2 mulW (gV 2) (gV 1)) fNil) intW) (gV 0)) (fun _ => .ok (.int 1)))) (gV 2) [.val (.int p), .val (.int b), .un] (PF.intsFrom 1 (p.toNat - 1)) = .ok (((List.range (p.toNat - 1)).filter fun (i : Nat) => (1 + (i : Int)) * b % p == 1).map fun (i : Nat) => PF.W.int (1 + (i : Int))) := by
    rw [ints1]
    refine compL_filter _ _ _ _ fun i hi => ⟨_, rfl, ?_, fun _ => by simp⟩
    have hi := List.mem_range.mp hi
    have mo : mulOk (1 + (i : Int)) b = true := mul_small (by omega) (by omega)
    have pp : 0 < p := by omega
    simp [mo, pp]
  simp [F__law_back, defF, startE, fComp, rng_p hp, hz, wipeE, c, ix_inv hp h1 h2, endOf]
end
abbrev pw (q : Int × Int) : PF.W := .tup [.int q.1, .int q.2]
theorem dcL_keys (ρ : En) (hρ : ∃ x0 x1 x2, ρ = [x0, x1, x2]) : ∀ (P : List (Int × Int)) (acc : List (Key × PF.W)), (P.map (·.1)).Nodup → (∀ q ∈ P, ∀ kv ∈ acc, kv.1 ≠ Sum.inl q.1) → ∃ acc', dcL (goName 2) fYes (f2 ixW (gV 2) (fun _ => .ok (.int 0))) (fun _ => .ok (.bl true)) ρ (P.map pw) acc = .ok acc' ∧ acc'.length = acc.length + P.length
  | [], acc, _, _ => ⟨acc, rfl, rfl⟩
  | q :: P, acc, hn, ha => by
    simp only [List.map_cons] at hn
    obtain ⟨n1, n2⟩ := List.nodup_cons.mp hn
    have hany : (acc.any fun kv => decide (kv.1 = (Sum.inl q.1 : Key))) = false := by
      rw [List.any_eq_false]
      intro kv hkv
      have := ha q (List.mem_cons_self ..) kv hkv
      simp [this]
    have pe : putW acc (.inl q.1) (.bl true) = acc ++ [(.inl q.1, .bl true)] := by
      unfold putW
      rw [hany]
      rfl
    obtain ⟨acc', e, el⟩ := dcL_keys ρ hρ P (acc ++ [(.inl q.1, .bl true)]) n2 fun r hr kv hkv => by
      rcases List.mem_append.mp hkv with h | h
      · exact ha r (List.mem_cons_of_mem _ hr) kv h
      · rw [List.mem_singleton.mp h]
        intro z
        have z : q.1 = r.1 := by injection z
        exact n1 (List.mem_map.mpr ⟨r, hr, z.symm⟩)
    refine ⟨acc', ?_, by rw [el, List.length_append]; simp; omega⟩
    obtain ⟨x0, x1, x2, rfl⟩ := hρ
    have i0 : ixW (pw q) (.int 0) = .ok (.int q.1) := rfl
    rw [List.map_cons]
    unfold dcL
    simp only [goName_eq, List.set_cons_succ, List.set_cons_zero, fYes, noX_ok, T.bind_ok, if_true, f2_eq, gV_eq, List.getElem?_cons_succ, List.getElem?_cons_zero, i0, keyW, pe]
    exact e
abbrev gT : En → T (Fl × En) := (sAt 3 (gV 4) (fL (fCons (gV 0) (fCons (f2 subW (fun ρ => (onFrzN 3 (f2 ixW (gV 3) (gV 4)) ρ).bind flat) (f2 mulW (gV 2) (gV 5))) fNil)) F_rest_of))
theorem set_mid (xs : List Int) (c d : Int) (ys : List Int) : (I (xs ++ c :: ys)).set xs.length (.int d) = I (xs ++ d :: ys) := by
  simp [I, List.map_append, List.set_append]
theorem ixN_nat {L k : Nat} (h : k < L) : ixN L (k : Int) = some k := by
  have h' : (k : Int) < (L : Int) := by omega
  unfold ixN
  simp [h']
theorem at_mid (dn : List Int) (c : Int) (ys : List Int) : atI (I (dn ++ c :: ys)) (dn.length : Int) = some (.int c) := by
  unfold atI
  rw [ixN_nat (by simp)]
  simp [I]
theorem root_loop {p r : Int} (hp : Pr p) (hr : 0 ≤ r ∧ r < p) (v1 : Sl) : ∀ (bs dn : List Int) (c : Int) (y4 y5 : Sl), Sg p bs → 0 ≤ c ∧ c < p → dn.length + bs.length ≤ 1000 → ∃ z4 z5, forL (goTup 2 (goCons (goName 4) (goCons (goName 5) goNil))) gT (enumF dn.length (I bs)) [.val (.int p), v1, .val (.int r), .own (I (dn ++ c :: bs)), y4, y5] = .ok (.nx, [.val (.int p), v1, .val (.int r), .own (I (dn ++ rtT p r c bs)), z4, z5])
  | [], dn, c, y4, y5, _, _, _ => ⟨y4, y5, rfl⟩
  | b :: bs, dn, c, y4, y5, hs, hc, hl => by
    rw [List.length_cons] at hl
    have bb := hp.b
    have hb := hs b (List.mem_cons_self ..)
    obtain ⟨z4, z5, e⟩ := root_loop hp hr v1 bs (dn ++ [(c - r * b) % p]) b (.val (.int dn.length)) (.val (.int b)) (fun a ha => hs a (List.mem_cons_of_mem _ ha)) hb (by simp; omega)
    refine ⟨z4, z5, ?_⟩
    have mo : mulOk r b = true := mul_small (by omega) (by omega)
    have l1 : (dn ++ [(c - r * b) % p]).length = dn.length + 1 := by simp
    have l2 : ((dn.length + 1 : Nat) : Int) = (dn.length : Int) + 1 := by omega
    have a1 : dn ++ [(c - r * b) % p] ++ b :: bs = dn ++ (c - r * b) % p :: b :: bs := by simp
    have a2 : dn ++ [(c - r * b) % p] ++ rtT p r b bs = dn ++ rtT p r c (b :: bs) := by simp [rtT]
    rw [l1, l2, a1, a2] at e
    have ix : ixW (.lst (I (dn ++ c :: b :: bs))) (.int dn.length) = .ok (.int c) := by
      have := at_mid dn c (b :: bs)
      simp only [ixW, this]
    have nx : ixN (I (dn ++ c :: b :: bs)).length (dn.length : Int) = some dn.length := ixN_nat (by simp)
    have st := set_mid dn c ((c - r * b) % p) (b :: bs)
    show forL _ gT (.tup [.int dn.length, .int b] :: enumF ((dn.length : Int) + 1) (I bs)) _ = _
    unfold forL
    have go : (goTup 2 (goCons (goName 4) (goCons (goName 5) goNil))) (.tup [.int dn.length, .int b]) [.val (.int p), v1, .val (.int r), .own (I (dn ++ c :: b :: bs)), y4, y5] = some [.val (.int p), v1, .val (.int r), .own (I (dn ++ c :: b :: bs)), .val (.int dn.length), .val (.int b)] := rfl
    rw [go]
    simp only [gT, sAt, List.getElem?_cons_succ, List.getElem?_cons_zero, fL_eq, fCons_eq, fNil_eq, f2_eq, gV_eq, onFrzN, frz, List.set_cons_succ, List.set_cons_zero, T.bind_ok, ix, noX_ok, flat, mulW_int, mo, if_true, subW_int, rest_run (show 0 < p by omega), nx, st]
    exact e
theorem root_run {p r : Int} {bl : List Int} (hp : Pr p) (hr : 0 ≤ r ∧ r < p) (hb : Sg p bl) (hl : bl.length ≤ 100) : F_times_root [.int p, .lst (I bl), .int r] = .ok (.lst (I (rtT p r 0 bl))) := by
  have bb := hp.b
  obtain ⟨z4, z5, e⟩ := root_loop hp hr (.val (.lst (I bl))) bl [] 0 .un .un hb ⟨by omega, by omega⟩ (by simp; omega)
  have e : forL (goTup 2 (goCons (goName 4) (goCons (goName 5) goNil))) gT (enumF 0 (I bl)) [.val (.int p), .val (.lst (I bl)), .val (.int r), .own (.int 0 :: I bl), .un, .un] = .ok (.nx, [.val (.int p), .val (.lst (I bl)), .val (.int r), .own (I (rtT p r 0 bl)), z4, z5]) := e
  simp only [gT] at e
  have hz : sizeOk (PF.W.int 0 :: I bl) = true := size_small (by simp; omega)
  simp [F_times_root, defF, startE, sOwn, fStar, seqW, hz, enL, isT, enW, e, onFrz, frz, endOf, -List.map_append]
abbrev gIn : En → T (Fl × En) := (sIf (fBl (f2 neS (gV 7) (gV 3))) (sPar 5 6 (fCons (fL (fCons (gV 0) (fCons (gV 5) (fCons (gV 7) fNil))) F_times_root) (fCons (fL (fCons (gV 0) (fCons (f2 mulW (gV 6) (f2 subW (gV 3) (gV 7))) fNil)) F_rest_of) fNil))) sNil)
theorem in_loop {p x : Int} (hp : Pr p) (hx : 0 ≤ x ∧ x < p) (v1 v2 v4 v9 v10 v11 : Sl) : ∀ (ps : List (Int × Int)) (bl : List Int) (bo : Int) (y7 y8 : Sl), (∀ q ∈ ps, 0 ≤ q.1 ∧ q.1 < p) → Sg p bl → 0 ≤ bo ∧ bo < p → bl.length + ps.length ≤ 50 →
    ∃ z7 z8, forL (goTup 2 (goCons (goName 7) (goCons (goName 8) goNil))) gIn (ps.map pw) [.val (.int p), v1, v2, .val (.int x), v4, .val (.lst (I bl)), .val (.int bo), y7, y8, v9, v10, v11] = .ok (.nx, [.val (.int p), v1, v2, .val (.int x), v4, .val (.lst (I (bkF p x bl bo ps).1)), .val (.int (bkF p x bl bo ps).2), z7, z8, v9, v10, v11])
  | [], bl, bo, y7, y8, _, _, _, _ => ⟨y7, y8, rfl⟩
  | (o, h) :: ps, bl, bo, y7, y8, hq, hb, hbo, hl => by
    rw [List.length_cons] at hl
    have bb := hp.b
    have ho : 0 ≤ o ∧ o < p := hq (o, h) (List.mem_cons_self ..)
    have go : (goTup 2 (goCons (goName 7) (goCons (goName 8) goNil))) (pw (o, h)) [.val (.int p), v1, v2, .val (.int x), v4, .val (.lst (I bl)), .val (.int bo), y7, y8, v9, v10, v11] = some [.val (.int p), v1, v2, .val (.int x), v4, .val (.lst (I bl)), .val (.int bo), .val (.int o), .val (.int h), v9, v10, v11] := rfl
    rw [List.map_cons]
    unfold forL
    rw [go]
    by_cases e : o = x
    · obtain ⟨z7, z8, ih⟩ := in_loop hp hx v1 v2 v4 v9 v10 v11 ps bl bo (.val (.int o)) (.val (.int h)) (fun q h => hq q (List.mem_cons_of_mem _ h)) hb hbo (by omega)
      refine ⟨z7, z8, ?_⟩
      have ne : (o == x) = true := beq_iff_eq.mpr e
      have eb : bkF p x bl bo ((o, h) :: ps) = bkF p x bl bo ps := by simp [bkF, e]
      rw [eb]
      simp only [gIn, sIf_eq, fBl_eq, f2_eq, gV_eq, List.getElem?_cons_succ, List.getElem?_cons_zero, T.bind_ok, neS_int, ne, Bool.not_true, blW_bl, Bool.false_eq_true, if_false, sNil_eq]
      exact ih
    · have rb := rtT_b (p := p) (r := o) (by omega) 0 bl ⟨by omega, by omega⟩ hb
      obtain ⟨z7, z8, ih⟩ := in_loop hp hx v1 v2 v4 v9 v10 v11 ps (rtT p o 0 bl) (bo * (x - o) % p) (.val (.int o)) (.val (.int h)) (fun q h => hq q (List.mem_cons_of_mem _ h)) rb ⟨Int.emod_nonneg _ (by omega), Int.emod_lt_of_pos _ (by omega)⟩ (by rw [rtT_len]; omega)
      refine ⟨z7, z8, ?_⟩
      have ne : (o == x) = false := by simpa using e
      have eb : bkF p x bl bo ((o, h) :: ps) = bkF p x (rtT p o 0 bl) (bo * (x - o) % p) ps := by simp [bkF, e]
      have mo : mulOk bo (x - o) = true := mul_small (by omega) (by omega)
      rw [eb]
      simp only [gIn, sIf_eq, fBl_eq, f2_eq, gV_eq, List.getElem?_cons_succ, List.getElem?_cons_zero, T.bind_ok, neS_int, ne, Bool.not_false, blW_bl, if_true, sPar_eq, fL_eq, fCons_eq, fNil_eq, root_run hp ho hb (show bl.length ≤ 100 by omega), subW_int, mulW_int, mo, rest_run (show 0 < p by omega), List.set_cons_succ, List.set_cons_zero]
      exact ih
theorem zip_ints : ∀ (xs ys : List Int), zipF (I xs) (I ys) = (xs.zip ys).map fun q => PF.W.tup [.int q.1, .int q.2]
  | [], ys => rfl
  | x :: xs, [] => rfl
  | x :: xs, y :: ys => by
    show PF.W.tup [.int x, .int y] :: zipF (I xs) (I ys) = _
    rw [zip_ints xs ys]
    rfl
theorem comb_zip (p f : Int) : ∀ (xs ys : List Int), I (comb p f xs ys) = (xs.zip ys).map fun q => PF.W.int ((q.1 + f * q.2) % p)
  | [], ys => rfl
  | x :: xs, [] => rfl
  | x :: xs, y :: ys => by
    show PF.W.int ((x + f * y) % p) :: I (comb p f xs ys) = _
    rw [comb_zip p f xs ys]
    rfl
abbrev gOut : En → T (Fl × En) := (sSeq (sPar 5 6 (fCons (fL (fCons (fun _ => .ok (.int 1)) fNil) mkLst) (fCons (fun _ => .ok (.int 1)) fNil))) (sSeq (sFor (iOf tupW (gV 1)) (goTup 2 (goCons (goName 7) (goCons (goName 8) goNil))) (sIf (fBl (f2 neS (gV 7) (gV 3))) (sPar 5 6 (fCons (fL (fCons (gV 0) (fCons (gV 5) (fCons (gV 7) fNil))) F_times_root) (fCons (fL (fCons (gV 0) (fCons (f2 mulW (gV 6) (f2 subW (gV 3) (gV 7))) fNil)) F_rest_of) fNil))) sNil)) (sSeq (sSet 9 (fL (fCons (gV 0) (fCons (f2 mulW (gV 4) (fL (fCons (gV 0) (fCons (gV 6) fNil)) F_inverse_in)) fNil)) F_rest_of)) (sSet 2 (fComp [10, 11] (iL zpW (fCons (gV 2) (fCons (gV 5) fNil))) (goTup 2 (goCons (goName 10) (goCons (goName 11) goNil))) fYes (fL (fCons (gV 0) (fCons (f2 addW (gV 10) (f2 mulW (gV 9) (gV 11))) fNil)) F_rest_of))))))
theorem out_loop {p : Int} {P : List (Int × Int)} (hp : Pr p) (h : Pts p P) : ∀ (ps : List (Int × Int)) (fo : List Int) (y3 y4 y5 y6 y7 y8 y9 : Sl), (∀ q ∈ ps, q ∈ P) → Sg p fo → fo.length ≤ 8 →
    ∃ z3 z4 z5 z6 z7 z8 z9, forL (goTup 2 (goCons (goName 3) (goCons (goName 4) goNil))) gOut (ps.map pw) [.val (.int p), .val (.tup (P.map pw)), .val (.lst (I fo)), y3, y4, y5, y6, y7, y8, y9, .un, .un] = .ok (.nx, [.val (.int p), .val (.tup (P.map pw)), .val (.lst (I (thF p P fo ps))), z3, z4, z5, z6, z7, z8, z9, .un, .un])
  | [], fo, y3, y4, y5, y6, y7, y8, y9, _, _, _ => ⟨y3, y4, y5, y6, y7, y8, y9, rfl⟩
  | (x, y) :: ps, fo, y3, y4, y5, y6, y7, y8, y9, hs, hf, hl => by
    have bb := hp.b
    have hx := hs (x, y) (List.mem_cons_self ..)
    have he := h.each _ hx
    have h8 := h.eight
    obtain ⟨z7, z8, e⟩ := in_loop hp he.1 (.val (.tup (P.map pw))) (.val (.lst (I fo))) (.val (.int y)) y9 .un .un P [1] 1 y7 y8 (fun q hq => (h.each q hq).1) (fun b hb => by rw [List.mem_singleton.mp hb]; omega) ⟨by omega, by omega⟩ (by simp; omega)
    obtain ⟨b1, b2, b3⟩ := bkF_b (p := p) (x := x) (by omega) P [1] 1 (fun b hb => by rw [List.mem_singleton.mp hb]; omega) ⟨by omega, by omega⟩
    obtain ⟨k1, k2⟩ := bk_pos hp h hx
    have k1 : 1 ≤ (bkF p x [1] 1 P).2 := k1
    have k2 : (bkF p x [1] 1 P).2 < p := k2
    obtain ⟨_, _, _, i1, i2, _⟩ := inv_is hp k1 k2
    have y1 : 0 ≤ y := he.2.1
    have y2 : y < p := he.2.2
    have cl : (comb p (fac p P x y) fo (bkF p x [1] 1 P).1).length ≤ 8 := by
      have := congrArg List.length (comb_zip p (fac p P x y) fo (bkF p x [1] 1 P).1)
      simp only [I, List.length_map, List.length_zip] at this
      omega
    obtain ⟨w3, w4, w5, w6, w7, w8, w9, ih⟩ := out_loop hp h ps (comb p (fac p P x y) fo (bkF p x [1] 1 P).1) (.val (.int x)) (.val (.int y)) (.val (.lst (I (bkF p x [1] 1 P).1))) (.val (.int (bkF p x [1] 1 P).2)) z7 z8 (.val (.int (fac p P x y))) (fun q hq => hs q (List.mem_cons_of_mem _ hq)) (comb_b (by omega)) cl
    refine ⟨w3, w4, w5, w6, w7, w8, w9, ?_⟩
    have go : (goTup 2 (goCons (goName 3) (goCons (goName 4) goNil))) (pw (x, y)) [.val (.int p), .val (.tup (P.map pw)), .val (.lst (I fo)), y3, y4, y5, y6, y7, y8, y9, .un, .un] = some [.val (.int p), .val (.tup (P.map pw)), .val (.lst (I fo)), .val (.int x), .val (.int y), y5, y6, y7, y8, y9, .un, .un] := rfl
    have mo : mulOk y (inv p (bkF p x [1] 1 P).2) = true := mul_small (by omega) (by omega)
    have fb : 0 ≤ fac p P x y ∧ fac p P x y < p := ⟨Int.emod_nonneg _ (by omega), Int.emod_lt_of_pos _ (by omega)⟩
    have cc : compL (goTup 2 (goCons (goName 10) (goCons (goName 11) goNil))) fYes (fL (fCons (gV 0) (fCons (f2 addW (gV 10) (f2 mulW (gV 9) (gV 11))) fNil)) F_rest_of) [.val (.int p), .val (.tup (P.map pw)), .val (.lst (I fo)), .val (.int x), .val (.int y), .val (.lst (I (bkF p x [1] 1 P).1)), .val (.int (bkF p x [1] 1 P).2), z7, z8, .val (.int (fac p P x y)), .un, .un] (zipF (I fo) (I (bkF p x [1] 1 P).1)) = .ok (I (comb p (fac p P x y) fo (bkF p x [1] 1 P).1)) := by
      rw [zip_ints, comb_zip]
      refine compL_map _ _ _ fun q hq => ⟨_, rfl, rfl, ?_⟩
      have q2 := b1 q.2 (List.of_mem_zip hq).2
      have m2 : mulOk (fac p P x y) q.2 = true := mul_small (by omega) (by omega)
      simp only [fL_eq, fCons_eq, fNil_eq, f2_eq, gV_eq, List.set_cons_succ, List.set_cons_zero, List.getElem?_cons_succ, List.getElem?_cons_zero, T.bind_ok, mulW_int, m2, if_true, addW_int, rest_run (show 0 < p by omega)]
    have hz : sizeOk (zipF (I fo) (I (bkF p x [1] 1 P).1)) = true := size_small (by rw [zip_ints]; simp; omega)
    have ef : (y * inv p (bkF p x [1] 1 P).2) % p = fac p P x y := rfl
    rw [List.map_cons]
    unfold forL
    rw [go]
    have e : forL (goTup 2 (goCons (goName 7) (goCons (goName 8) goNil))) gIn (P.map pw) [.val (.int p), .val (.tup (P.map pw)), .val (.lst (I fo)), .val (.int x), .val (.int y), .val (.lst [.int 1]), .val (.int 1), y7, y8, y9, .un, .un] = _ := e
    simp only [gIn] at e
    simp only [gOut, sSeq_eq, sPar_eq, fL_eq, fCons_eq, fNil_eq, T.bind_ok, mkLst_eq, sizeOk_1, if_true, List.set_cons_succ, List.set_cons_zero, sFor_eq, iOf_eq, tupW, gV_eq, List.getElem?_cons_succ, List.getElem?_cons_zero, e, sSet_eq, f2_eq, inv_run hp k1 k2, mulW_int, mo, rest_run (show 0 < p by omega), ef, fComp_eq, iL_eq, zpW, hz, wipeE, cc]
    exact ih
theorem many_0 (n : Nat) : manyW n [.int 0] = I (List.replicate n 0) := by
  unfold manyW
  induction n with
  | zero => rfl
  | succ n ih =>
    rw [List.replicate_succ, List.flatten_cons, ih, List.replicate_succ]
    rfl
theorem thin_run {p : Int} {P : List (Int × Int)} (hp : Pr p) (h : Pts p P) : F_through_in [.int p, .tup (P.map pw)] = .ok (.tup (I (thr p P))) := by
  have h8 := h.eight
  have bb := hp.b
  obtain ⟨z3, z4, z5, z6, z7, z8, z9, e⟩ := out_loop hp h P (List.replicate P.length 0) .un .un .un .un .un .un .un (fun _ h => h) (fun a ha => by rw [(List.mem_replicate.mp ha).2]; omega) (by simp; omega)
  have lo : lmulOk 1 (P.length : Int) = true := by
    unfold lmulOk
    rw [rngOk_is (by omega) (by omega)]
    simp
    omega
  have ml : mulL (.lst [.int 0]) (.int P.length) = .ok (.lst (I (List.replicate P.length 0))) := by
    simp only [mulL, List.length_cons, List.length_nil, lo, if_true, Int.toNat_natCast, many_0]
  simp only [gOut] at e
  unfold F_through_in
  rw [defF_eq _ _ _ _ rfl]
  simp only [startE, List.map_cons, List.map_nil, List.length_cons, List.length_nil, Nat.reduceAdd, Nat.reduceSub, List.replicate, List.cons_append, List.nil_append, sSeq_eq, sSet_eq, f2_eq, fL_eq, fCons_eq, fNil_eq, T.bind_ok, mkLst_eq, sizeOk_1, if_true, gV_eq, List.getElem?_cons_succ, List.getElem?_cons_zero, lenW_tup, List.length_map, ml, List.set_cons_succ, List.set_cons_zero, sFor_eq, iOf_eq, tupW, e, sRet_eq, tupOfW_lst, endOf]
  rfl
end Lw
namespace Lw.Li
open PySem L2 PF Rt
abbrev I (ns : List Int) : List PF.W := ns.map PF.W.int
theorem mul_small {a b : Int} (ha : -(2 ^ 40) < a ∧ a < 2 ^ 40) (hb : -(2 ^ 40) < b ∧ b < 2 ^ 40) : mulOk a b = true := mulOk_of (a := 41) (b := 41) (by omega) (by omega) (by decide) (by decide) (by decide)
theorem div_small {b : Int} (h : 0 < b) (hb : b < 2 ^ 40) : divOk b = true := divOk_of (b := 41) h (by omega) (by decide) (by decide)
theorem room_is {ws : List PF.W} (h : ws.length < 16777216) : roomOk ws = true := by
  unfold roomOk
  exact decide_eq_true h
theorem isint_run (a : Int) : F_is_integer [.int a] = .ok (.bl true) := by
  simp [F_is_integer, defF, startE, endOf]
  rfl
theorem between_run (x lo hi : Int) : F_is_between [.int x, .int lo, .int hi] = .ok (.bl (decide (lo ≤ x) && decide (x ≤ hi))) := by
  by_cases h : lo ≤ x <;> simp [F_is_between, defF, startE, endOf, isint_run, fCh, h]
theorem tup_is (ws : List PF.W) : isiW (isOnly "tuple") (.tup ws) = .ok (.bl true) := rfl
theorem len_ok {n : Nat} (h1 : 1 ≤ n) (h8 : n ≤ 8) : decide ((1 : Int) ≤ (n : Int)) = true ∧ decide ((n : Int) ≤ 8) = true := ⟨decide_eq_true (by omega), decide_eq_true (by omega)⟩
theorem size_small {ws : List PF.W} (h : ws.length ≤ 1000) : sizeOk ws = true := sizeOk_is (by omega)
theorem laying_run {ns : List Int} (h1 : 1 ≤ ns.length) (h8 : ns.length ≤ 8) : F_is_laying [.tup (I ns)] = .ok (.bl (ns.all (fun x => decide (0 ≤ x) && decide (x ≤ 6)) && decide (ns.sum ≤ 12))) := by
  have hz : sizeOk (I ns) = true := size_small (by simp; omega)
  have c : compL (goName 1) fYes (fL (fCons (gV 1) (fCons (fun _ => .ok (.int 0)) (fCons (fun _ => .ok k_MOST_SHARE) fNil))) F_is_between) [.val (.tup (I ns)), .un] (I ns) = .ok ((ns.map fun x => decide (0 ≤ x) && decide (x ≤ 6)).map PF.W.bl) := by
    rw [List.map_map]
    refine compL_map PF.W.int _ ns fun a _ => ⟨_, rfl, rfl, ?_⟩
    simp [k_MOST_SHARE, between_run]
  have i1 : (1 : Int) ≤ (ns.length : Int) := by omega
  have i8 : (ns.length : Int) ≤ 8 := by omega
  have hA : allW [.lst ((ns.map fun x => decide (0 ≤ x) && decide (x ≤ 6)).map PF.W.bl)] = .ok (.bl (ns.all fun x => decide (0 ≤ x) && decide (x ≤ 6))) := by
    rw [allW_of, List.all_map]
    rfl
  cases ha : ns.all (fun x => decide (0 ≤ x) && decide (x ≤ 6)) <;> rw [ha] at hA <;>
  simp [F_is_laying, defF, startE, tup_is, fCh, k_MOST_LETTERS, k_MOST_ROOM, i1, i8, fComp, tupW, hz, wipeE, c, hA, endOf, -List.map_map]
def prof : Int → Int → List Int → List Int
  | _, _, [] => []
  | k, l, x :: xs => (l + (k + 1) * x) :: prof (k + 1) (l + (k + 1) * x) xs
abbrev gP : En → T (Fl × En) := (sSeq (sSet 2 (f2 addW (gV 2) (f2 mulW (f2 addW (gV 3) (fun _ => .ok (.int 1))) (gV 4)))) (sApp 1 (fCons (gV 2) fNil)))
abbrev go34 : PF.W → En → Option En := (goTup 2 (goCons (goName 3) (goCons (goName 4) goNil)))
theorem go34_is (a b : PF.W) (v0 v1 v2 v3 v4 : Sl) : go34 (.tup [a, b]) [v0, v1, v2, v3, v4] = some [v0, v1, v2, .val a, .val b] := rfl
theorem prof_loop (v0 : Sl) : ∀ (xs acc : List Int) (k l : Int) (y3 y4 : Sl), 0 ≤ k → k + xs.length ≤ 1000 → acc.length ≤ k → (∀ x ∈ xs, -1000 ≤ x ∧ x ≤ 1000) → ∃ l' z3 z4, forL go34 gP (enumF k (I xs)) [v0, .own (I acc), .val (.int l), y3, y4] = .ok (.nx, [v0, .own (I (acc ++ prof k l xs)), .val (.int l'), z3, z4])
  | [], acc, k, l, y3, y4, h0, h1, h2, h3 => ⟨l, y3, y4, by simp [enumF, forL, prof]⟩
  | x :: xs, acc, k, l, y3, y4, h0, h1, h2, h3 => by
    rw [List.length_cons] at h1
    have hx := h3 x (List.mem_cons_self ..)
    obtain ⟨l', z3, z4, ih⟩ := prof_loop v0 xs (acc ++ [l + (k + 1) * x]) (k + 1) (l + (k + 1) * x) (.val (.int k)) (.val (.int x)) (by omega) (by omega) (by rw [List.length_append]; simp; omega) fun y hy => h3 y (List.mem_cons_of_mem _ hy)
    refine ⟨l', z3, z4, ?_⟩
    have hm : mulOk (k + 1) x = true := mul_small (by omega) (by omega)
    have hr : roomOk (I acc) = true := room_is (by simp; omega)
    simp only [I, List.map_cons, enumF, forL, go34_is]
    simp [hm, sApp, hr]
    have e : List.map PF.W.int acc ++ [PF.W.int (l + (k + 1) * x)] = I (acc ++ [l + (k + 1) * x]) := by simp
    rw [e, ih]
    simp [prof]
theorem profin_run {ns : List Int} (h : ns.length ≤ 1000) (h3 : ∀ x ∈ ns, -1000 ≤ x ∧ x ≤ 1000) : F_profile_in [.tup (I ns)] = .ok (.lst (I (prof 0 0 ns))) := by
  obtain ⟨l', z3, z4, e⟩ := prof_loop (.val (.tup (I ns))) ns [] 0 0 .un .un (by omega) (by omega) (by simp) h3
  simp [F_profile_in, defF, startE, sOwnPar, enT, enW, isT]
  simp at e
  simp [e, onFrz, frz, endOf]
theorem lstair_run {ns : List Int} (h : ns.length ≤ 1000) (h3 : ∀ x ∈ ns, -1000 ≤ x ∧ x ≤ 1000) : F__law_stair [.tup (I ns)] = .ok (.tup (I (prof 0 0 ns))) := by
  obtain ⟨l', z3, z4, e⟩ := prof_loop (.val (.tup (I ns))) ns [] 0 0 .un .un (by omega) (by omega) (by simp) h3
  simp [F__law_stair, defF, startE, sOwnPar, enT, enW, isT]
  simp at e
  simp [e, onFrz, frz, endOf]
def needs : Int → List Int → List Int
  | _, [] => []
  | k, x :: xs => List.replicate x.toNat (k + 1) ++ needs (k + 1) xs
theorem many_one (n : Nat) (k : Int) : manyW n [.int k] = I (List.replicate n k) := by
  unfold manyW
  induction n with
  | zero => rfl
  | succ n ih =>
    rw [List.replicate_succ, List.flatten_cons, ih, List.replicate_succ]
    rfl
theorem lmul_is {n : Nat} {k : Int} (h : 0 ≤ k ∧ k ≤ 1000) (hn : n ≤ 1000) : lmulOk n k = true := by
  unfold lmulOk
  rw [rngOk_is (by omega) (by omega), Bool.true_and]
  refine decide_eq_true ?_
  have : n * k.toNat ≤ 1000 * 1000 := Nat.mul_le_mul hn (by omega)
  omega
abbrev go23 : PF.W → En → Option En := (goTup 2 (goCons (goName 2) (goCons (goName 3) goNil)))
theorem go23_is (a b : PF.W) (v0 v1 v2 v3 : Sl) : go23 (.tup [a, b]) [v0, v1, v2, v3] = some [v0, v1, .val a, .val b] := rfl
abbrev gN1 : En → T (Fl × En) := (sSet 1 (f2 addW (gV 1) (f2 mulL (fL (fCons (f2 addW (gV 2) (fun _ => .ok (.int 1))) fNil) mkLst) (fL (fCons (gV 3) fNil) intW))))
abbrev gN2 : En → T (Fl × En) := (sSet 1 (f2 addW (gV 1) (f2 mulL (fL (fCons (f2 addW (gV 2) (fun _ => .ok (.int 1))) fNil) mkLst) (gV 3))))
theorem addL_is (xs ys : List PF.W) (h : xs.length + ys.length ≤ 16777216) : addW (.lst xs) (.lst ys) = .ok (.lst (xs ++ ys)) := by
  have : sz2 xs.length ys.length = true := sz2_is h
  simp [addW, this]
theorem needs_loop (v0 : Sl) (g : En → T (Fl × En)) (hg : g = gN1 ∨ g = gN2) : ∀ (xs acc : List Int) (k : Int) (y3 y4 : Sl), 0 ≤ k → k + xs.length ≤ 1000 → acc.length ≤ 100 * k → (∀ x ∈ xs, 0 ≤ x ∧ x ≤ 100) → ∃ z3 z4, forL go23 g (enumF k (I xs)) [v0, .val (.lst (I acc)), y3, y4] = .ok (.nx, [v0, .val (.lst (I (acc ++ needs k xs))), z3, z4])
  | [], acc, k, y3, y4, h0, h1, h2, h3 => ⟨y3, y4, by simp [enumF, forL, needs]⟩
  | x :: xs, acc, k, y3, y4, h0, h1, h2, h3 => by
    rw [List.length_cons] at h1
    have hx := h3 x (List.mem_cons_self ..)
    obtain ⟨z3, z4, ih⟩ := needs_loop v0 g hg xs (acc ++ List.replicate x.toNat (k + 1)) (k + 1) (.val (.int k)) (.val (.int x)) (by omega) (by omega) (by rw [List.length_append, List.length_replicate]; omega) fun y hy => h3 y (List.mem_cons_of_mem _ hy)
    refine ⟨z3, z4, ?_⟩
    have hm : lmulOk 1 x = true := lmul_is (by omega) (by omega)
    have ha : addW (.lst (I acc)) (.lst (I (List.replicate x.toNat (k + 1)))) = .ok (.lst (I (acc ++ List.replicate x.toNat (k + 1)))) := by
      rw [addL_is _ _ (by simp; omega)]
      simp
    simp only [I, List.map_cons, enumF, forL, go23_is]
    rcases hg with rfl | rfl
    · simp [mulL, hm, many_one, -List.map_append, -List.map_replicate]
      rw [ha]
      simp only [T.bind_ok]
      rw [ih]
      simp [needs]
    · simp [mulL, hm, many_one, -List.map_append, -List.map_replicate]
      rw [ha]
      simp only [T.bind_ok]
      rw [ih]
      simp [needs]
theorem needsin_run {ns : List Int} (h : ns.length ≤ 1000) (h3 : ∀ x ∈ ns, 0 ≤ x ∧ x ≤ 100) : F_needs_in [.tup (I ns)] = .ok (.lst (I (needs 0 ns))) := by
  obtain ⟨z3, z4, e⟩ := needs_loop (.val (.tup (I ns))) gN1 (.inl rfl) ns [] 0 .un .un (by omega) (by omega) (by simp) h3
  simp [F_needs_in, defF, startE, enT, enW, isT]
  simp at e
  simp [e, endOf]
theorem lneeds_run {ns : List Int} (h : ns.length ≤ 1000) (h3 : ∀ x ∈ ns, 0 ≤ x ∧ x ≤ 100) : F__law_needs [.tup (I ns)] = .ok (.lst (I (needs 0 ns))) := by
  obtain ⟨z3, z4, e⟩ := needs_loop (.val (.tup (I ns))) gN2 (.inr rfl) ns [] 0 .un .un (by omega) (by omega) (by simp) h3
  simp [F__law_needs, defF, startE, enT, enW, isT]
  simp at e
  simp [e, endOf]
structure Shares (sh : List Int) : Prop where
  one : 1 ≤ sh.length
  eight : sh.length ≤ 8
  each : ∀ x ∈ sh, 0 ≤ x ∧ x ≤ 6
  room : sh.sum ≤ 12
def shE (n D : Nat) (ws : List PF.W) (d : Nat) (ρ : En) : Prop := ∃ acc left x4 x5, ρ = [.val .stt, .val (.int 8), .own (I acc), .val (.int left), x4, x5] ∧ acc.length + ws.length = n ∧ (∀ x ∈ acc, 0 ≤ x ∧ x ≤ 6) ∧ 0 ≤ left ∧ acc.sum + left ≤ 12 ∧ D + 2 * ws.length ≤ d
theorem sh_step {n D : Nat} (hn : n ≤ 8) {E : Nat → Nat → List PF.W → Prop} (w : PF.W) (ws : List PF.W) (d : Nat) (ρ : En) (h : shE n D (w :: ws) d ρ) : ∃ ρ1, goName 4 w ρ = some ρ1 ∧ ((sSeq (sSet 5 (fIf (fBl (f2 gtW (fL (fCons (gV 0) (fCons (fun _ => .ok (.int 3)) fNil)) F__law_draw) (fun _ => .ok (.int 0)))) (fL (fCons (gV 0) (fCons (f2 addW (fun _ => .ok (.int 1)) (fL (fCons (fun _ => .ok (.int 6)) (fCons (gV 3) fNil)) minW)) fNil)) F__law_draw) (fun _ => .ok (.int 0)))) (sSeq (sApp 2 (fCons (gV 5) fNil)) (sSet 3 (f2 subW (gV 3) (gV 5))))) ρ1).AllB (fun d x => ∃ ρ2, x = (.nx, ρ2) ∧ shE n D ws d ρ2) E d := by
  obtain ⟨acc, left, x4, x5, rfl, h1, h2, h3, h4, h5⟩ := h
  rw [List.length_cons] at h1 h5
  refine ⟨_, rfl, ?_⟩
  have hr : roomOk (I acc) = true := room_is (by simp; omega)
  have fin : ∀ (y : Int) (d' : Nat), 0 ≤ y → y ≤ 6 → y ≤ left → d ≤ d' + 2 → T.AllB (fun d x => ∃ ρ2, x = (Fl.nx, ρ2) ∧ shE n D ws d ρ2) E d' (T.ok (Fl.nx, [.val .stt, .val (.int 8), .own (I acc ++ [.int y]), .val (.int (left - y)), .val w, .val (.int y)])) := fun y d' g1 g2 g3 g4 => by
    refine ⟨_, rfl, acc ++ [y], left - y, .val w, .val (.int y), by simp, by rw [List.length_append]; simp; omega, fun x hx => ?_, by omega, by rw [List.sum_append]; simp; omega, by omega⟩
    rcases List.mem_append.mp hx with hx | hx
    · exact h2 x hx
    · rw [List.mem_singleton.mp hx]
      exact ⟨g1, g2⟩
  simp [draw_is (n := 3) (by decide) (by decide)]
  refine ask_all (by omega) fun i hi => ?_
  by_cases h0 : 0 < i
  · have hb : (0 : Int) < 1 + (if left < 6 then left else 6) ∧ 1 + (if left < 6 then left else 6) < 2 ^ 60 := by split <;> omega
    simp [h0, draw_is hb.1 hb.2]
    refine ask_all (by omega) fun j hj => ?_
    simp [sApp, hr]
    refine fin j (d - 1 - 1) (by omega) ?_ ?_ (by omega)
    · split at hj <;> omega
    · split at hj <;> omega
  · simp [h0, sApp, hr]
    have := fin 0 (d - 1) (by omega) (by omega) (by omega) (by omega)
    simp at this
    exact this
theorem shares_all {P : Nat → PF.W → Prop} {E : Nat → Nat → List PF.W → Prop} {d : Nat} (hd : 50 ≤ d) (h : ∀ d' sh, d ≤ d' + 50 → Shares sh → P d' (.tup (I sh))) : (F__law_shares [.stt, .int 8]).AllB P E d := by
  have hx : ∀ i : Nat, i < 3 → ∃ l : Int, ixW (.lst [.int 2, .int 5, .int 12]) (.int i) = .ok (.int l) ∧ 0 ≤ l ∧ l ≤ 12 := fun i hi => by
    have : i = 0 ∨ i = 1 ∨ i = 2 := by omega
    rcases this with rfl | rfl | rfl
    · exact ⟨2, rfl, by decide, by decide⟩
    · exact ⟨5, rfl, by decide, by decide⟩
    · exact ⟨12, rfl, by decide, by decide⟩
  simp [F__law_shares, defF, startE, sOwnPar, draw_is (n := 3) (by decide) (by decide)]
  refine ask_all (by omega) fun i hi => ?_
  obtain ⟨left, hl, l0, l12⟩ := hx i hi
  simp [hl, draw_is (n := 8) (by decide) (by decide)]
  refine ask_all (by omega) fun j hj => ?_
  have hr : rng1 [.int (1 + (j : Int))] = .ok (intsFrom 0 (j + 1)) := by
    have e : (1 + (j : Int)).toNat = j + 1 := by omega
    rw [rng1_is (by omega) (by omega), e]
  simp only [hr, T.bind_ok]
  refine T.allB_bind.mpr ?_
  refine T.allB_bind.mpr ?_
  refine T.AllB.imp (fun d' x hx' => ?_) (fun _ _ _ y => y) (forL_all (shE (j + 1) (d - 2 - 2 * (j + 1))) (sh_step (by omega)) (intsFrom 0 (j + 1)) (d - 1 - 1) _ ⟨[], left, .un, .un, rfl, by rw [ints_len]; simp, fun x hx => (by cases hx), l0, by simp; omega, by rw [ints_len]; omega⟩)
  obtain ⟨ρ2, rfl, acc, lf, x4, x5, rfl, g1, g2, g3, g4, g5⟩ := hx'
  simp [onFrz, frz, endOf]
  exact h d' acc (by simp at g5; omega) ⟨by simp at g1; omega, by simp at g1; omega, g2, by omega⟩
theorem need_run {sh : List Int} (h : Shares sh) : F_need_laying [.tup (I sh)] = .ok (.tup (I sh)) := by
  have al : sh.all (fun x => decide (0 ≤ x) && decide (x ≤ 6)) = true := by
    rw [List.all_eq_true]
    intro x hx
    have := h.each x hx
    simp [this.1, this.2]
  have hl := laying_run h.one h.eight
  rw [al, decide_eq_true h.room] at hl
  simp [F_need_laying, defF, startE, hl, endOf]
theorem ix_last {xs : List Int} (h : 0 < xs.length) : ∃ l : Int, ixW (.tup (I xs)) (.int (-1)) = .ok (.int l) ∧ ixW (.lst (I xs)) (.int (-1)) = .ok (.int l) := by
  have hi : xs.length - 1 < xs.length := by omega
  refine ⟨xs[xs.length - 1], ?_, ?_⟩ <;>
  · have : atI (I xs) (-1 : Int) = some (.int xs[xs.length - 1]) := by
      unfold atI ixN
      have e : (xs.length : Int) + -1 = ((xs.length - 1 : Nat) : Int) := by omega
      have g1 : (1 : Int) ≤ (xs.length : Int) := by omega
      have g2 : (-1 + (xs.length : Int)).toNat = xs.length - 1 := by omega
      simp [g1, g2, hi]
    simp [ixW, this]
end Lw.Li
namespace Lw
open PySem L2 PF Rt
theorem rep_asc {c l : Int} (h : l ≤ c) : ∀ (n : Nat) {ns : List Int}, asc c ns → asc l (List.replicate n c ++ ns)
  | 0, ns, ha => by
    cases ns with
    | nil => trivial
    | cons x ns => exact ⟨Int.le_trans h ha.1, ha.2⟩
  | n + 1, ns, ha => ⟨h, rep_asc (Int.le_refl c) n ha⟩
theorem asc_low {l c : Int} (h : l ≤ c) : ∀ {ns : List Int}, asc c ns → asc l ns
  | [], _ => trivial
  | x :: ns, ha => ⟨Int.le_trans h ha.1, ha.2⟩
theorem needs_asc : ∀ (xs : List Int) (k : Int), asc (k + 1) (Li.needs k xs)
  | [], k => trivial
  | x :: xs, k => by
    show asc (k + 1) (List.replicate x.toNat (k + 1) ++ Li.needs (k + 1) xs)
    exact rep_asc (Int.le_refl _) _ (asc_low (by omega) (needs_asc xs (k + 1)))
theorem needs_len : ∀ (xs : List Int) (k : Int), (∀ x ∈ xs, 0 ≤ x) → ((Li.needs k xs).length : Int) = xs.sum
  | [], k, _ => rfl
  | x :: xs, k, h => by
    have h1 := h x (List.mem_cons_self ..)
    have ih := needs_len xs (k + 1) fun y hy => h y (List.mem_cons_of_mem _ hy)
    show ((List.replicate x.toNat (k + 1) ++ Li.needs (k + 1) xs).length : Int) = _
    rw [List.length_append, List.length_replicate, List.sum_cons]
    omega
theorem needs_b : ∀ (xs : List Int) (k : Int), 0 ≤ k → ∀ n ∈ Li.needs k xs, k + 1 ≤ n ∧ n ≤ k + xs.length
  | [], k, _, n, hn => by cases hn
  | x :: xs, k, hk, n, hn => by
    rw [List.length_cons]
    rcases List.mem_append.mp (show n ∈ List.replicate x.toNat (k + 1) ++ Li.needs (k + 1) xs from hn) with h | h
    · rw [(List.mem_replicate.mp h).2]
      omega
    · have := needs_b xs (k + 1) (by omega) n h
      omega
theorem sumLe_app (m : Int) : ∀ (xs ys : List Int), sumLe m (xs ++ ys) = sumLe m xs + sumLe m ys
  | [], ys => by simp [sumLe]
  | x :: xs, ys => by
    show (if x ≤ m then x else 0) + sumLe m (xs ++ ys) = (if x ≤ m then x else 0) + sumLe m xs + sumLe m ys
    rw [sumLe_app m xs ys]
    omega
theorem sumLe_rep {m c : Int} (h : c ≤ m) : ∀ n : Nat, sumLe m (List.replicate n c) = c * n
  | 0 => by simp [sumLe]
  | n + 1 => by
    show (if c ≤ m then c else 0) + sumLe m (List.replicate n c) = _
    rw [if_pos h, sumLe_rep h n, show ((n + 1 : Nat) : Int) = (n : Int) + 1 by omega, Int.mul_add]
    omega
theorem sumLe_none {m : Int} : ∀ {ns : List Int}, (∀ n ∈ ns, m < n) → sumLe m ns = 0
  | [], _ => rfl
  | x :: ns, h => by
    have := h x (List.mem_cons_self ..)
    show (if x ≤ m then x else 0) + sumLe m ns = 0
    rw [if_neg (by omega), sumLe_none fun n hn => h n (List.mem_cons_of_mem _ hn)]
    rfl
theorem sumLe_prof : ∀ (xs : List Int) (k l : Int) (i : Nat), 0 ≤ k → (∀ x ∈ xs, 0 ≤ x) → i ≤ xs.length → (l :: Li.prof k l xs)[i]? = some (l + sumLe (k + i) (Li.needs k xs))
  | xs, k, l, 0, hk, _, _ => by
    rw [sumLe_none fun n hn => by have := needs_b xs k hk n hn; omega]
    simp
  | [], k, l, i + 1, _, _, hi => by simp at hi
  | x :: xs, k, l, i + 1, hk, h, hi => by
    have h1 := h x (List.mem_cons_self ..)
    have ih := sumLe_prof xs (k + 1) (l + (k + 1) * x) i (by omega) (fun y hy => h y (List.mem_cons_of_mem _ hy)) (by simpa using hi)
    rw [List.getElem?_cons_succ]
    show ((l + (k + 1) * x) :: Li.prof (k + 1) (l + (k + 1) * x) xs)[i]? = some (l + sumLe (k + ((i + 1 : Nat) : Int)) (List.replicate x.toNat (k + 1) ++ Li.needs (k + 1) xs))
    rw [ih, sumLe_app, sumLe_rep (by omega)]
    have e1 : ((x.toNat : Nat) : Int) = x := by omega
    have e2 : k + 1 + (i : Int) = k + ((i + 1 : Nat) : Int) := by omega
    rw [e1, e2]
    congr 1
    omega
theorem sumLe_all {m : Int} : ∀ {ns : List Int}, (∀ n ∈ ns, n ≤ m) → sumLe m ns = ns.sum
  | [], _ => rfl
  | x :: ns, h => by
    show (if x ≤ m then x else 0) + sumLe m ns = _
    rw [if_pos (h x (List.mem_cons_self ..)), sumLe_all fun n hn => h n (List.mem_cons_of_mem _ hn), List.sum_cons]
/-- what is known of a drawn laying -/
theorem sh_nn {sh : List Int} (h : Li.Shares sh) : ∀ x ∈ sh, 0 ≤ x := fun x hx => (h.each x hx).1
abbrev ND (sh : List Int) : List Int := Li.needs 0 sh
theorem nd_len {sh : List Int} (h : Li.Shares sh) : ((ND sh).length : Int) = sh.sum := needs_len sh 0 (sh_nn h)
theorem nd_b {sh : List Int} : ∀ n ∈ ND sh, 1 ≤ n ∧ n ≤ sh.length := fun n hn => by
  have := needs_b sh 0 (Int.le_refl 0) n hn
  omega
theorem whole_at {sh : List Int} (h : Li.Shares sh) {i : Nat} (hi : i ≤ sh.length) : (0 :: Li.prof 0 0 sh)[i]? = some (sumLe i (ND sh)) := by
  have := sumLe_prof sh 0 0 i (Int.le_refl 0) (sh_nn h) hi
  rw [this]
  congr 1
  have e : (0 : Int) + (i : Int) = i := by omega
  rw [e, Int.zero_add]
theorem whole_end {sh : List Int} (h : Li.Shares sh) : (0 :: Li.prof 0 0 sh)[sh.length]? = some (ND sh).sum := by
  rw [whole_at h (Nat.le_refl _), sumLe_all fun n hn => (nd_b n hn).2]
end Lw
namespace Lw
open PySem L2 PF Rt
theorem sIx_nat (n d k : Nat) : HT.sIx n d (some (k : Int)) = min k n := by
  simp [HT.sIx]
  try omega
theorem cut_mid {α : Type} (f : α → PF.W) (ms : List α) (a n : Nat) : cutW (ms.map f) (some (a : Int)) (some (((a + n : Nat) : Int))) = ((ms.drop a).take n).map f := by
  unfold cutW
  rw [sIx_nat, sIx_nat, List.length_map, List.map_take, List.map_drop]
  refine List.ext_getElem? fun i => ?_
  rw [List.getElem?_take, List.getElem?_take, List.getElem?_drop, List.getElem?_drop]
  by_cases h : a + i < ms.length
  · have e1 : min a ms.length + i = a + i := by omega
    rw [e1]
    by_cases hi : i < n
    · rw [if_pos (by omega), if_pos hi]
    · rw [if_neg (by omega), if_neg hi]
  · have e2 : (List.map f ms)[a + i]? = none := List.getElem?_eq_none (by rw [List.length_map]; omega)
    rw [e2]
    have e3 : (List.map f ms)[min a ms.length + i]? = none ∨ ¬ i < min (a + n) ms.length - min a ms.length := by
      by_cases ha : a ≤ ms.length
      · left
        exact List.getElem?_eq_none (by rw [List.length_map]; omega)
      · right
        omega
    rcases e3 with e3 | e3
    · rw [e3]
      simp
    · rw [if_neg e3]
      simp
theorem cut_up {α : Type} (f : α → PF.W) (ms : List α) (n : Nat) : cutW (ms.map f) none (some (n : Int)) = (ms.take n).map f := by
  unfold cutW
  rw [sIx_nat, List.length_map]
  show ((ms.map f).drop 0).take (min n ms.length - 0) = _
  rw [List.drop_zero, Nat.sub_zero, List.map_take]
  by_cases h : n ≤ ms.length
  · rw [Nat.min_eq_left h]
  · rw [Nat.min_eq_right (by omega), List.take_of_length_le (by simp), List.take_of_length_le (by simp; omega)]
theorem cut_dn {α : Type} (f : α → PF.W) (ms : List α) (n : Nat) : cutW (ms.map f) (some (n : Int)) none = (ms.drop n).map f := by
  unfold cutW
  rw [sIx_nat, List.length_map, List.map_drop]
  show ((ms.map f).drop (min n ms.length)).take (ms.length - min n ms.length) = _
  by_cases h : n ≤ ms.length
  · rw [Nat.min_eq_left h, List.take_of_length_le (by simp)]
  · rw [Nat.min_eq_right (by omega), List.drop_eq_nil_of_le (by simp), List.drop_eq_nil_of_le (by simp; omega)]
    simp
abbrev TI (b : List Int) : PF.W := .tup (I b)
abbrev gBl : En → T (Fl × En) := (sSeq (sApp 2 (fCons (fSl (gV 1) (pSome (gV 3)) (pSome (f2 addW (gV 3) (gV 4)))) fNil)) (sSet 3 (f2 addW (gV 3) (gV 4))))
theorem bl_loop (v0 : Sl) (ms : List Int) : ∀ (ns : List Int) (dn : List (List Int)) (a : Nat) (x4 : Sl), (∀ n ∈ ns, 0 ≤ n) → dn.length + ns.length ≤ 1000 → ∃ s' z4, forL (goName 4) gBl (I ns) [v0, .val (TI ms), .own (dn.map TI), .val (.int a), x4] = .ok (.nx, [v0, .val (TI ms), .own ((dn ++ cutL (ms.drop a) ns).map TI), s', z4])
  | [], dn, a, x4, _, _ => ⟨.val (.int a), x4, by simp [forL, cutL]⟩
  | n :: ns, dn, a, x4, h, hl => by
    rw [List.length_cons] at hl
    have hn := h n (List.mem_cons_self ..)
    obtain ⟨s', z4, e⟩ := bl_loop v0 ms ns (dn ++ [(ms.drop a).take n.toNat]) (a + n.toNat) (.val (.int n)) (fun x hx => h x (List.mem_cons_of_mem _ hx)) (by simp; omega)
    refine ⟨s', z4, ?_⟩
    have ea : ((a : Int) + n) = ((a + n.toNat : Nat) : Int) := by omega
    have ec : dn ++ [(ms.drop a).take n.toNat] ++ cutL (ms.drop (a + n.toNat)) ns = dn ++ cutL (ms.drop a) (n :: ns) := by simp [cutL, List.drop_drop]
    rw [ec] at e
    have hr : roomOk (dn.map TI) = true := room_is (by simp; omega)
    have cm := cut_mid PF.W.int ms a n.toNat
    have mp : (dn ++ [(ms.drop a).take n.toNat]).map TI = dn.map TI ++ [TI ((ms.drop a).take n.toNat)] := by simp
    rw [mp] at e
    show forL (goName 4) gBl (.int n :: I ns) _ = _
    unfold forL
    simp only [goName_eq, List.set_cons_succ, List.set_cons_zero, gBl, sSeq_eq, sApp, fCons_eq, fNil_eq, fSl_eq, pSome, pInt, f2_eq, gV_eq, List.getElem?_cons_succ, List.getElem?_cons_zero, T.bind_ok, addW_int, ea, slW, cm, hr, if_true, sSet_eq]
    exact e
theorem blocks_run {sh ms : List Int} (h : Li.Shares sh) : F_blocks_in [.tup (I sh), .tup (I ms)] = .ok (.lst ((cutL ms (ND sh)).map TI)) := by
  have h8 := h.eight
  have nl := nd_len h
  have hr := h.room
  have nr := Li.needsin_run (ns := sh) (by omega) fun x hx => by have := h.each x hx; omega
  obtain ⟨s', z4, e⟩ := bl_loop (.val (.tup (I sh))) ms (ND sh) [] 0 .un (fun n hn => by have := nd_b n hn; omega) (by simp; omega)
  have e : forL (goName 4) gBl (I (ND sh)) [.val (.tup (I sh)), .val (.tup (I ms)), .own [], .val (.int 0), .un] = .ok (.nx, [.val (.tup (I sh)), .val (.tup (I ms)), .own ((cutL ms (ND sh)).map TI), s', z4]) := e
  simp only [gBl] at e
  unfold F_blocks_in
  rw [defF_eq _ _ _ _ rfl]
  simp only [startE, List.map_cons, List.map_nil, List.length_cons, List.length_nil, Nat.reduceAdd, Nat.reduceSub, List.replicate, List.cons_append, List.nil_append, sSeq_eq, sOwnPar, fCons_eq, fNil_eq, T.bind_ok, List.set_cons_succ, List.set_cons_zero, sFor_eq, iOf_eq, fL_eq, gV_eq, List.getElem?_cons_succ, List.getElem?_cons_zero, nr, lstW, e, onFrz, frz, sRet_eq, endOf]
theorem letin_run {p : Int} {sh ms : List Int} (hp : Pr p) (h : Li.Shares sh) (hs : Sg p ms) : F_letters_in [.int p, .tup (I sh), .tup (I ms)] = .ok (.tup ((List.range sh.length).map fun (i : Nat) => TI (laidL p (cutL ms (ND sh)) i))) := by
  have b := hp.b
  have h8 := h.eight
  have nl := nd_len h
  have hr := h.room
  have bs : ∀ b ∈ cutL ms (ND sh), Sg p b := by
    have : ∀ (ns ms : List Int), Sg p ms → ∀ b ∈ cutL ms ns, Sg p b := by
      intro ns
      induction ns with
      | nil => intro ms _ b hb; cases hb
      | cons n ns ih =>
        intro ms hm b hb
        rcases List.mem_cons.mp hb with rfl | hb
        · exact fun a ha => hm a (List.mem_of_mem_take ha)
        · exact ih _ (fun a ha => hm a (List.mem_of_mem_drop ha)) b hb
    exact this _ _ hs
  have hz : sizeOk (PF.intsFrom 0 sh.length) = true := size_small (by rw [PF.intsFrom_length]; omega)
  have hz2 : sizeOk ((cutL ms (ND sh)).map TI) = true := size_small (by rw [List.length_map, cutL_len]; omega)
  have e0 : PF.intsFrom 0 sh.length = (List.range sh.length).map fun (i : Nat) => PF.W.int (i : Int) := by
    refine List.ext_getElem? fun i => ?_
    rw [PF.intsFrom_get]
    by_cases h : i < sh.length <;> simp [h]
  have inner : ∀ i : Nat, i < sh.length → compL (goName 5) fYes (fL (fCons (gV 0) (fCons (gV 5) (fCons (f2 addW (gV 4) (fun _ => .ok (.int 1))) fNil))) F_value_in) [.val (.int p), .val (.tup (I sh)), .val (.tup (I ms)), .val (.lst ((cutL ms (ND sh)).map TI)), .val (.int i), .un] ((cutL ms (ND sh)).map TI) = .ok (I (laidL p (cutL ms (ND sh)) i)) := fun i hi => by
    have : I (laidL p (cutL ms (ND sh)) i) = (cutL ms (ND sh)).map fun b => PF.W.int (hor p ((i : Int) + 1) b) := by simp [I, laidL, List.map_map, Function.comp_def]
    rw [this]
    refine compL_map _ _ _ fun bl hb => ⟨_, rfl, rfl, ?_⟩
    have r := vin_run (as := bl) hp (s := (i : Int) + 1) ⟨by omega, by omega⟩ (bs bl hb)
    simp only [fL_eq, fCons_eq, fNil_eq, f2_eq, gV_eq, List.set_cons_succ, List.set_cons_zero, List.getElem?_cons_succ, List.getElem?_cons_zero, T.bind_ok, addW_int, r]
  have outer : compL (goName 4) fYes (fL (fCons (fComp [5] (iOf lstW (gV 3)) (goName 5) fYes (fL (fCons (gV 0) (fCons (gV 5) (fCons (f2 addW (gV 4) (fun _ => .ok (.int 1))) fNil))) F_value_in)) fNil) tupOfW) [.val (.int p), .val (.tup (I sh)), .val (.tup (I ms)), .val (.lst ((cutL ms (ND sh)).map TI)), .un, .un] (PF.intsFrom 0 sh.length) = .ok ((List.range sh.length).map fun (i : Nat) => TI (laidL p (cutL ms (ND sh)) i)) := by
    rw [e0]
    refine compL_map _ _ _ fun i hi => ⟨_, rfl, rfl, ?_⟩
    have r := inner i (List.mem_range.mp hi)
    simp only [fL_eq, fCons_eq, fNil_eq, fComp_eq, iOf_eq, gV_eq, List.set_cons_succ, List.set_cons_zero, List.getElem?_cons_succ, List.getElem?_cons_zero, T.bind_ok, lstW, hz2, if_true, wipeE, r, tupOfW_lst]
  have rg : rng1 [.int ((I sh).length : Int)] = .ok (PF.intsFrom 0 sh.length) := by
    rw [rng1_is (by omega) (by simp; omega)]
    simp
  unfold F_letters_in
  rw [defF_eq _ _ _ _ rfl]
  simp only [startE, List.map_cons, List.map_nil, List.length_cons, List.length_nil, Nat.reduceAdd, Nat.reduceSub, List.replicate, List.cons_append, List.nil_append, sSeq_eq, sSet_eq, fL_eq, fCons_eq, fNil_eq, gV_eq, List.getElem?_cons_succ, List.getElem?_cons_zero, T.bind_ok, blocks_run h, List.set_cons_succ, List.set_cons_zero, sRet_eq, fComp_eq, iL_eq, lenW_tup, rg, hz, if_true, wipeE, outer, tupOfW_lst, endOf]
end Lw
namespace Lw
open PySem L2 PF Rt
theorem ixN_m1 {L : Nat} (h : 1 ≤ L) : ixN L (-1) = some (L - 1) := by
  unfold ixN
  simp
  omega
theorem ix_m1 {xs : List Int} {y : Int} (h : xs[xs.length - 1]? = some y) : ixW (.lst (I xs)) (.int (-1)) = .ok (.int y) ∧ ixW (.tup (I xs)) (.int (-1)) = .ok (.int y) := by
  have hl : 1 ≤ xs.length := by
    cases xs with
    | nil => simp at h
    | cons x xs => simp
  have : atI (I xs) (-1 : Int) = some (.int y) := by
    unfold atI
    rw [List.length_map, ixN_m1 hl]
    simp [I, h]
  exact ⟨by simp only [ixW, this], by simp only [ixW, this]⟩
theorem prof_len : ∀ (k l : Int) (xs : List Int), (Li.prof k l xs).length = xs.length
  | _, _, [] => rfl
  | k, l, x :: xs => by simp [Li.prof, prof_len]
theorem prof_end {sh : List Int} (h : Li.Shares sh) : (Li.prof 0 0 sh)[(Li.prof 0 0 sh).length - 1]? = some (ND sh).sum := by
  have e := whole_end h
  have o := h.one
  rw [prof_len]
  obtain ⟨L, hL⟩ : ∃ L, sh.length = L + 1 := ⟨sh.length - 1, by omega⟩
  rw [hL] at e ⊢
  simpa using e
theorem nd_sum {sh : List Int} (h : Li.Shares sh) : 0 ≤ (ND sh).sum ∧ (ND sh).sum ≤ 96 := by
  have h8 := h.eight
  have hr := h.room
  have nl := nd_len h
  have : ∀ l : List Int, (∀ n ∈ l, 1 ≤ n ∧ n ≤ 8) → 0 ≤ l.sum ∧ l.sum ≤ 8 * l.length := by
    intro l
    induction l with
    | nil => intro _; exact ⟨Int.le_refl 0, Int.le_refl 0⟩
    | cons a l ih =>
      intro h
      have h1 := h a (List.mem_cons_self ..)
      have h2 := ih fun n hn => h n (List.mem_cons_of_mem _ hn)
      rw [List.sum_cons, List.length_cons]
      omega
  have := this (ND sh) fun n hn => by have := nd_b n hn; omega
  omega
theorem letof_run {p : Int} {sh ms : List Int} (hp : Pr p) (h : Li.Shares sh) (hs : Sg p ms) (hl : (ms.length : Int) = (ND sh).sum) : F_letters_of [.int p, .tup (I sh), .tup (I ms)] = .ok (.tup ((List.range sh.length).map fun (i : Nat) => TI (laidL p (cutL ms (ND sh)) i))) := by
  have h8 := h.eight
  have ns := nd_sum h
  have pf := Li.profin_run (ns := sh) (by omega) fun x hx => by have := h.each x hx; omega
  have ix := (ix_m1 (prof_end h)).1
  have bq : ((I ms).length : Int) == (ND sh).sum := by simp [I, hl]
  unfold F_letters_of
  rw [defF_eq _ _ _ _ rfl]
  simp only [startE, List.map_cons, List.map_nil, List.length_cons, List.length_nil, Nat.reduceAdd, Nat.reduceSub, List.replicate, List.cons_append, List.nil_append, sSeq_eq, sExpr_eq, fL_eq, fCons_eq, fNil_eq, gV_eq, List.getElem?_cons_succ, List.getElem?_cons_zero, T.bind_ok, nprime_run hp, Li.need_run h, nmess_run hp hs (show ms.length ≤ 96 by omega), sIf_eq, fBl_eq, f2_eq, lenW_tup, pf, f1_eq, negW, ix, neS_int, bq, Bool.not_true, blW_bl, Bool.false_eq_true, if_false, sNil_eq, sRet_eq, letin_run hp h hs, endOf]
abbrev gLb : En → T (Fl × En) := (sSeq (sApp 3 (fCons (fSl (gV 2) (pSome (gV 4)) (pSome (f2 addW (gV 4) (gV 5)))) fNil)) (sSet 4 (f2 addW (gV 4) (gV 5))))
theorem lb_loop (v0 v1 v6 v7 v8 : Sl) (ms : List Int) : ∀ (ns : List Int) (dn : List (List Int)) (a : Nat) (x5 : Sl), (∀ n ∈ ns, 0 ≤ n) → dn.length + ns.length ≤ 1000 → ∃ s' z5, forL (goName 5) gLb (I ns) [v0, v1, .val (TI ms), .own (dn.map TI), .val (.int a), x5, v6, v7, v8] = .ok (.nx, [v0, v1, .val (TI ms), .own ((dn ++ cutL (ms.drop a) ns).map TI), s', z5, v6, v7, v8])
  | [], dn, a, x5, _, _ => ⟨.val (.int a), x5, by simp [forL, cutL]⟩
  | n :: ns, dn, a, x5, h, hl => by
    rw [List.length_cons] at hl
    have hn := h n (List.mem_cons_self ..)
    obtain ⟨s', z5, e⟩ := lb_loop v0 v1 v6 v7 v8 ms ns (dn ++ [(ms.drop a).take n.toNat]) (a + n.toNat) (.val (.int n)) (fun x hx => h x (List.mem_cons_of_mem _ hx)) (by simp; omega)
    refine ⟨s', z5, ?_⟩
    have ea : ((a : Int) + n) = ((a + n.toNat : Nat) : Int) := by omega
    have ec : dn ++ [(ms.drop a).take n.toNat] ++ cutL (ms.drop (a + n.toNat)) ns = dn ++ cutL (ms.drop a) (n :: ns) := by simp [cutL, List.drop_drop]
    rw [ec] at e
    have hr : roomOk (dn.map TI) = true := room_is (by simp; omega)
    have cm := cut_mid PF.W.int ms a n.toNat
    have mp : (dn ++ [(ms.drop a).take n.toNat]).map TI = dn.map TI ++ [TI ((ms.drop a).take n.toNat)] := by simp
    rw [mp] at e
    show forL (goName 5) gLb (.int n :: I ns) _ = _
    unfold forL
    simp only [goName_eq, List.set_cons_succ, List.set_cons_zero, gLb, sSeq_eq, sApp, fCons_eq, fNil_eq, fSl_eq, pSome, pInt, f2_eq, gV_eq, List.getElem?_cons_succ, List.getElem?_cons_zero, T.bind_ok, addW_int, ea, slW, cm, hr, if_true, sSet_eq]
    exact e
theorem cut_sg {p : Int} : ∀ (ns ms : List Int), Sg p ms → ∀ b ∈ cutL ms ns, Sg p b ∧ b.length ≤ ms.length
  | [], ms, _, b, hb => by cases hb
  | n :: ns, ms, hm, b, hb => by
    rcases List.mem_cons.mp hb with rfl | hb
    · exact ⟨fun a ha => hm a (List.mem_of_mem_take ha), by rw [List.length_take]; omega⟩
    · have := cut_sg ns (ms.drop n.toNat) (fun a ha => hm a (List.mem_of_mem_drop ha)) b hb
      refine ⟨this.1, ?_⟩
      have h2 := this.2
      rw [List.length_drop] at h2
      omega
abbrev gLs : En → T (Fl × En) := (onFrz 3 (sApp 6 (fCons (fL (fCons (fComp [8] (iOf lstW (gV 3)) (goName 8) fYes (fL (fCons (gV 0) (fCons (gV 8) (fCons (f2 addW (gV 7) (fun _ => .ok (.int 1))) fNil))) F__law_value)) fNil) tupOfW) fNil)))
theorem ls_loop {p : Int} (hp : Pr p) {B : List (List Int)} (hB : ∀ b ∈ B, Sg p b ∧ b.length ≤ 96) (hBl : B.length ≤ 100) (v1 v2 v4 v5 : Sl) (x3 : Sl) (hx3 : x3 = .own (B.map TI) ∨ x3 = .val (.lst (B.map TI))) : ∀ (m k : Nat) (y3 y7 : Sl), (y3 = .own (B.map TI) ∨ y3 = .val (.lst (B.map TI))) → k + m ≤ 8 → ∃ z3 z7, forL (goName 7) gLs ((List.range' k m).map fun (i : Nat) => PF.W.int (i : Int)) [.val (.int p), v1, v2, y3, v4, v5, .own ((List.range k).map fun (i : Nat) => TI (laidL p B i)), y7, .un] = .ok (.nx, [.val (.int p), v1, v2, z3, v4, v5, .own ((List.range (k + m)).map fun (i : Nat) => TI (laidL p B i)), z7, .un])
  | 0, k, y3, y7, _, _ => ⟨y3, y7, by simp [forL]⟩
  | m + 1, k, y3, y7, hy, hk => by
    have b := hp.b
    obtain ⟨z3, z7, e⟩ := ls_loop hp hB hBl v1 v2 v4 v5 x3 hx3 m (k + 1) (.val (.lst (B.map TI))) (.val (.int k)) (.inr rfl) (by omega)
    refine ⟨z3, z7, ?_⟩
    have hz2 : sizeOk (B.map TI) = true := size_small (by rw [List.length_map]; omega)
    have inner : compL (goName 8) fYes (fL (fCons (gV 0) (fCons (gV 8) (fCons (f2 addW (gV 7) (fun _ => .ok (.int 1))) fNil))) F__law_value) [.val (.int p), v1, v2, .val (.lst (B.map TI)), v4, v5, .own ((List.range k).map fun (i : Nat) => TI (laidL p B i)), .val (.int k), .un] (B.map TI) = .ok (I (laidL p B k)) := by
      have : I (laidL p B k) = B.map fun b => PF.W.int (hor p ((k : Int) + 1) b) := by simp [I, laidL, List.map_map, Function.comp_def]
      rw [this]
      refine compL_map _ _ _ fun bl hb => ⟨_, rfl, rfl, ?_⟩
      have r := lval_run (as := bl) hp (s := (k : Int) + 1) ⟨by omega, by omega⟩ (hB bl hb).1 (hB bl hb).2
      simp only [fL_eq, fCons_eq, fNil_eq, f2_eq, gV_eq, List.set_cons_succ, List.set_cons_zero, List.getElem?_cons_succ, List.getElem?_cons_zero, T.bind_ok, addW_int, r]
    have hr : roomOk ((List.range k).map fun (i : Nat) => TI (laidL p B i)) = true := room_is (by simp; omega)
    have fz : frz 3 [.val (.int p), v1, v2, y3, v4, v5, .own ((List.range k).map fun (i : Nat) => TI (laidL p B i)), .val (.int k), .un] = [.val (.int p), v1, v2, .val (.lst (B.map TI)), v4, v5, .own ((List.range k).map fun (i : Nat) => TI (laidL p B i)), .val (.int k), .un] := by
      rcases hy with rfl | rfl <;> rfl
    have sn : ((List.range k).map fun (i : Nat) => TI (laidL p B i)) ++ [TI (laidL p B k)] = (List.range (k + 1)).map fun (i : Nat) => TI (laidL p B i) := by simp [List.range_succ]
    rw [show k + (m + 1) = k + 1 + m by omega, List.range'_succ, List.map_cons]
    unfold forL
    simp only [goName_eq, List.set_cons_succ, List.set_cons_zero, gLs, onFrz, fz, sApp, fCons_eq, fNil_eq, fL_eq, fComp_eq, iOf_eq, gV_eq, List.getElem?_cons_succ, List.getElem?_cons_zero, T.bind_ok, lstW, hz2, if_true, wipeE, inner, tupOfW_lst, hr, sn]
    exact e
theorem llet_run {p : Int} {sh ms : List Int} (hp : Pr p) (h : Li.Shares sh) (hs : Sg p ms) (hl : ms.length ≤ 96) : F__law_letters [.int p, .tup (I sh), .tup (I ms)] = .ok (.tup ((List.range sh.length).map fun (i : Nat) => TI (laidL p (cutL ms (ND sh)) i))) := by
  have h8 := h.eight
  have nl := nd_len h
  have hr := h.room
  have nr := Li.lneeds_run (ns := sh) (by omega) fun x hx => by have := h.each x hx; omega
  obtain ⟨s', z5, e⟩ := lb_loop (.val (.int p)) (.val (.tup (I sh))) .un .un .un ms (ND sh) [] 0 .un (fun n hn => by have := nd_b n hn; omega) (by simp; omega)
  have e : forL (goName 5) gLb (I (ND sh)) [.val (.int p), .val (.tup (I sh)), .val (.tup (I ms)), .own [], .val (.int 0), .un, .un, .un, .un] = .ok (.nx, [.val (.int p), .val (.tup (I sh)), .val (.tup (I ms)), .own ((cutL ms (ND sh)).map TI), s', z5, .un, .un, .un]) := e
  obtain ⟨z3, z7, e2⟩ := ls_loop hp (B := cutL ms (ND sh)) (fun b hb => by have := cut_sg _ _ hs b hb; exact ⟨this.1, by omega⟩) (by rw [cutL_len]; omega) (.val (.tup (I sh))) (.val (.tup (I ms))) s' z5 _ (.inl rfl) sh.length 0 (.own ((cutL ms (ND sh)).map TI)) .un (.inl rfl) (by omega)
  rw [← List.range_eq_range', Nat.zero_add] at e2
  have rg : rng1 [.int ((I sh).length : Int)] = .ok ((List.range sh.length).map fun (i : Nat) => PF.W.int (i : Int)) := by
    rw [rng1_is (by omega) (by simp; omega)]
    congr 1
    refine List.ext_getElem? fun i => ?_
    rw [PF.intsFrom_get]
    by_cases h : i < sh.length <;> simp [h]
  have e2 : forL (goName 7) gLs ((List.range sh.length).map fun (i : Nat) => PF.W.int (i : Int)) [.val (.int p), .val (.tup (I sh)), .val (.tup (I ms)), .own ((cutL ms (ND sh)).map TI), s', z5, .own [], .un, .un] = _ := e2
  simp only [gLb] at e
  simp only [gLs] at e2
  unfold F__law_letters
  rw [defF_eq _ _ _ _ rfl]
  simp only [startE, List.map_cons, List.map_nil, List.length_cons, List.length_nil, Nat.reduceAdd, Nat.reduceSub, List.replicate, List.cons_append, List.nil_append, sSeq_eq, sOwnPar, sOwn, fCons_eq, fNil_eq, T.bind_ok, List.set_cons_succ, List.set_cons_zero, sFor_eq, iOf_eq, iL_eq, fL_eq, gV_eq, List.getElem?_cons_succ, List.getElem?_cons_zero, nr, lstW, e, sizeOk_nil, if_true, lenW_tup, rg, e2, onFrz, frz, sRet_eq, tupOfW_lst, endOf]
end Lw
namespace Lw
open PySem L2 PF Rt
abbrev mq (q : Int × List Int) : PF.W := .tup [.int q.1, TI q.2]
abbrev mw (m : Mail) : PF.W := .tup (m.map mq)
section
variable {p : Int} {sh : List Int} {m : Mail}
abbrev MlS (p : Int) (sh : List Int) (m : Mail) : Prop := Ml p sh.length (ND sh).length m
theorem pair_run (hp : Pr p) (hs : Li.Shares sh) (h : MlS p sh m) {q : Int × List Int} (hq : q ∈ m) : F_is_pair [.int p, .tup (I sh), mq q] = .ok (.bl true) := by
  obtain ⟨e1, e2, e3⟩ := h.each q hq
  have nl := nd_len hs
  have hr := hs.room
  have d1 : decide (0 ≤ q.1) = true := decide_eq_true e1.1
  have d2 : decide (q.1 ≤ (sh.length : Int) - 1) = true := decide_eq_true (by omega)
  have s1 := aresigns_run (p := p) (as := q.2) e2 (by omega)
  have i0 : ixW (mq q) (.int 0) = .ok (.int q.1) := rfl
  have i1 : ixW (mq q) (.int 1) = .ok (TI q.2) := rfl
  have sm : sumW [.tup (I sh)] = .ok (.int sh.sum) := sumW_tup sh
  have le : ((q.2.length : Int) == sh.sum) = true := by
    rw [beq_iff_eq]
    omega
  have two : (((2 : Nat) : Int) == 2) = true := rfl
  unfold F_is_pair
  rw [defF_eq _ _ _ _ rfl]
  simp only [startE, List.map_cons, List.map_nil, List.length_cons, List.length_nil, Nat.reduceAdd, Nat.reduceSub, List.replicate, List.cons_append, List.nil_append, sSeq_eq, sIf_eq, fOr_eq, fNot_eq, fTru_eq, f1_eq, gV_eq, List.getElem?_cons_succ, List.getElem?_cons_zero, T.bind_ok, tup_is, truW_bl, Bool.not_true, Bool.false_eq_true, if_false, fBl_eq, f2_eq, fL_eq, fCons_eq, fNil_eq, lenW_tup, neS_int, i0, i1, List.length_map, subW_int, between_run, d1, d2, Bool.and_self, blW_bl, sNil_eq, sRet_eq, fAndV_eq, s1, sm, eqS_int, two, le, endOf]
theorem rising_run {xs : List Int} (h : xs.Pairwise (· < ·)) (hl : xs.length ≤ 1000) : F_are_rising [.lst (I xs)] = .ok (.bl true) := by
  have ct : cutW (I xs) (some 1) none = I (xs.drop 1) := cut_dn PF.W.int xs 1
  have hz : sizeOk (zipF (I xs) (I (xs.drop 1))) = true := size_small (by rw [zip_ints]; simp; omega)
  have c : compL (goTup 2 (goCons (goName 1) (goCons (goName 2) goNil))) fYes (f2 ltW (gV 1) (gV 2)) [.val (.lst (I xs)), .un, .un] (zipF (I xs) (I (xs.drop 1))) = .ok ((xs.zip (xs.drop 1)).map fun q => PF.W.bl (decide (q.1 < q.2))) := by
    rw [zip_ints]
    refine compL_map _ _ _ fun q _ => ⟨_, rfl, rfl, ?_⟩
    simp
  have rz : ∀ {xs : List Int}, xs.Pairwise (· < ·) → ∀ q ∈ xs.zip (xs.drop 1), q.1 < q.2 := by
    intro xs
    induction xs with
    | nil => intro _ q hq; simp at hq
    | cons x xs ih =>
      intro hp q hq
      cases xs with
      | nil => simp at hq
      | cons y ys =>
        have hp2 := List.pairwise_cons.mp hp
        rcases List.mem_cons.mp (show q ∈ (x, y) :: (y :: ys).zip ((y :: ys).drop 1) from hq) with rfl | hq
        · exact hp2.1 y (List.mem_cons_self ..)
        · exact ih hp2.2 q hq
  have hA := all_bls (as := xs.zip (xs.drop 1)) (t := fun q => decide (q.1 < q.2)) fun q hq => decide_eq_true (rz h q hq)
  unfold F_are_rising
  rw [defF_eq _ _ _ _ rfl]
  simp only [startE, List.map_cons, List.map_nil, List.length_cons, List.length_nil, Nat.reduceAdd, Nat.reduceSub, List.replicate, List.cons_append, List.nil_append, sRet_eq, fL_eq, fCons_eq, fNil_eq, fComp_eq, iL_eq, gV_eq, List.getElem?_cons_succ, List.getElem?_cons_zero, T.bind_ok, fSl_eq, pSome, pInt, pNo, slW, ct, zpW, hz, if_true, wipeE, List.set_cons_succ, List.set_cons_zero, c, hA, endOf]
theorem nmailof_run (hp : Pr p) (hs : Li.Shares sh) (h : MlS p sh m) : F_need_mail_of [.int p, .tup (I sh), mw m] = .ok .non := by
  have h8 := hs.eight
  have hl := h.len
  have hz : sizeOk (m.map mq) = true := size_small (by rw [List.length_map]; omega)
  have c1 : compL (goName 3) fYes (fL (fCons (gV 0) (fCons (gV 1) (fCons (gV 3) fNil))) F_is_pair) [.val (.int p), .val (.tup (I sh)), .val (mw m), .un] (m.map mq) = .ok (m.map fun _ => PF.W.bl true) := by
    refine compL_map _ _ _ fun q hq => ⟨_, rfl, rfl, ?_⟩
    simp only [fL_eq, fCons_eq, fNil_eq, gV_eq, List.set_cons_succ, List.set_cons_zero, List.getElem?_cons_succ, List.getElem?_cons_zero, T.bind_ok, pair_run hp hs h hq]
  have hA : allW [.lst (m.map fun _ => PF.W.bl true)] = .ok (.bl true) := all_bls (as := m) (t := fun _ => true) fun _ _ => rfl
  have c2 : compL (goName 3) fYes (f2 ixW (gV 3) (fun _ => .ok (.int 0))) [.val (.int p), .val (.tup (I sh)), .val (mw m), .un] (m.map mq) = .ok (I (m.map (·.1))) := by
    have : I (m.map (·.1)) = m.map fun q => PF.W.int q.1 := by simp [I, List.map_map, Function.comp_def]
    rw [this]
    refine compL_map _ _ _ fun q hq => ⟨_, rfl, rfl, ?_⟩
    rfl
  have rr := rising_run h.rise (by rw [List.length_map]; omega)
  unfold F_need_mail_of
  rw [defF_eq _ _ _ _ rfl]
  simp only [startE, List.map_cons, List.map_nil, List.length_cons, List.length_nil, Nat.reduceAdd, Nat.reduceSub, List.replicate, List.cons_append, List.nil_append, sSeq_eq, sIf_eq, fOr_eq, fNot_eq, fTru_eq, f1_eq, gV_eq, List.getElem?_cons_succ, List.getElem?_cons_zero, T.bind_ok, tup_is, truW_bl, Bool.not_true, Bool.false_eq_true, if_false, fL_eq, fCons_eq, fNil_eq, fComp_eq, iOf_eq, tupW, hz, if_true, wipeE, List.set_cons_succ, List.set_cons_zero, c1, hA, sNil_eq, c2, rr, endOf]
theorem nmail_run (hp : Pr p) (hs : Li.Shares sh) (h : MlS p sh m) : F_need_mail [.int p, .tup (I sh), mw m] = .ok (mw m) := by
  simp [F_need_mail, defF, startE, nprime_run hp, Li.need_run hs, nmailof_run hp hs h, endOf]
theorem ptsat_run (h : MlS p sh m) (h8 : sh.length ≤ 8) {k : Nat} (hk : k < (ND sh).length) : F_points_at [mw m, .int k] = .ok (.lst ((pts m k).map pw)) := by
  have hl := h.len
  have hz : sizeOk (m.map mq) = true := size_small (by rw [List.length_map]; omega)
  have c : compL (goTup 2 (goCons (goName 2) (goCons (goName 3) goNil))) fYes (fL (fCons (f2 addW (gV 2) (fun _ => .ok (.int 1))) (fCons (f2 ixW (gV 3) (gV 1)) fNil)) mkTup) [.val (mw m), .val (.int k), .un, .un] (m.map mq) = .ok ((pts m k).map pw) := by
    have : (pts m k).map pw = m.map fun q => pw (q.1 + 1, q.2.getD k 0) := by simp [pts, List.map_map, Function.comp_def]
    rw [this]
    refine compL_map _ _ _ fun q hq => ⟨_, rfl, rfl, ?_⟩
    obtain ⟨_, _, e3⟩ := h.each q hq
    have ix : ixW (TI q.2) (.int k) = .ok (.int (q.2.getD k 0)) := by
      have hkl : k < q.2.length := by omega
      have : atI (I q.2) (k : Int) = some (.int (q.2.getD k 0)) := by
        unfold atI
        rw [ixN_nat (by simpa using hkl)]
        simp [I, List.getD, hkl]
      simp only [ixW, this]
    simp only [fL_eq, fCons_eq, fNil_eq, f2_eq, gV_eq, List.set_cons_succ, List.set_cons_zero, List.getElem?_cons_succ, List.getElem?_cons_zero, T.bind_ok, addW_int, ix, mkTup_eq, sizeOk_2, if_true]
  unfold F_points_at
  rw [defF_eq _ _ _ _ rfl]
  simp only [startE, List.map_cons, List.map_nil, List.length_cons, List.length_nil, Nat.reduceAdd, Nat.reduceSub, List.replicate, List.cons_append, List.nil_append, sRet_eq, fComp_eq, iOf_eq, tupW, gV_eq, List.getElem?_cons_succ, List.getElem?_cons_zero, T.bind_ok, hz, if_true, wipeE, List.set_cons_succ, List.set_cons_zero, c, endOf]
theorem fitsat_run (hp : Pr p) (h : MlS p sh m) (h8 : sh.length ≤ 8) {k : Nat} {n : Int} (hk : k < (ND sh).length) (hn : 1 ≤ n) : F_fits_at [.int p, mw m, .int k, .int n] = .ok (.bl (fitB p (pts m k) n)) := by
  have hl := h.len
  have b := hp.b
  have pl : (pts m k).length = m.length := by simp [pts]
  by_cases hle : (m.length : Int) ≤ n
  · have ft : fitB p (pts m k) n = true := by
      unfold fitB
      rw [List.drop_eq_nil_of_le (by omega)]
      rfl
    have d : decide ((((pts m k).map pw).length : Int) ≤ n) = true := decide_eq_true (by rw [List.length_map, pl]; exact hle)
    unfold F_fits_at
    rw [defF_eq _ _ _ _ rfl]
    simp only [startE, List.map_cons, List.map_nil, List.length_cons, List.length_nil, Nat.reduceAdd, Nat.reduceSub, List.replicate, List.cons_append, List.nil_append, sSeq_eq, sSet_eq, fL_eq, fCons_eq, fNil_eq, gV_eq, List.getElem?_cons_succ, List.getElem?_cons_zero, T.bind_ok, ptsat_run h h8 hk, List.set_cons_succ, List.set_cons_zero, sIf_eq, fBl_eq, f2_eq, lenW_lst, leW_int, d, blW_bl, if_true, sRet_eq, endOf, ft]
  · have d : decide ((((pts m k).map pw).length : Int) ≤ n) = false := decide_eq_false (by rw [List.length_map, pl]; exact hle)
    have en : n = ((n.toNat : Nat) : Int) := by omega
    have pt := pts_take hp h h8 (k := k) (n := n.toNat) hk (by omega) (by omega)
    have c1 : cutW ((pts m k).map pw) none (some n) = ((pts m k).take n.toNat).map pw := by
      have := cut_up pw (pts m k) n.toNat
      rw [← en] at this
      exact this
    have c2 : cutW ((pts m k).map pw) (some n) none = ((pts m k).drop n.toNat).map pw := by
      have := cut_dn pw (pts m k) n.toNat
      rw [← en] at this
      exact this
    have tb : Sg p (thr p ((pts m k).take n.toNat)) := thr_b (by omega)
    have hz : sizeOk (((pts m k).drop n.toNat).map pw) = true := size_small (by simp; omega)
    have c : compL (goTup 2 (goCons (goName 6) (goCons (goName 7) goNil))) fYes (f2 eqS (fL (fCons (gV 0) (fCons (gV 5) (fCons (gV 6) fNil))) F_value_in) (gV 7)) [.val (.int p), .val (mw m), .val (.int k), .val (.int n), .val (.lst ((pts m k).map pw)), .val (TI (thr p ((pts m k).take n.toNat))), .un, .un] (((pts m k).drop n.toNat).map pw) = .ok ((((pts m k).drop n.toNat).map fun q => hor p q.1 (thr p ((pts m k).take n.toNat)) == q.2).map PF.W.bl) := by
      rw [List.map_map]
      refine compL_map _ _ _ fun q hq => ⟨_, rfl, rfl, ?_⟩
      obtain ⟨r, hr, rfl⟩ := List.mem_map.mp (List.mem_of_mem_drop hq)
      have e1 := (h.each r hr).1
      have v := vin_run (s := r.1 + 1) hp ⟨by omega, by omega⟩ tb
      simp only [fL_eq, fCons_eq, fNil_eq, f2_eq, gV_eq, List.set_cons_succ, List.set_cons_zero, List.getElem?_cons_succ, List.getElem?_cons_zero, T.bind_ok, v, eqS_int, Function.comp]
    have hA : allW [.lst ((((pts m k).drop n.toNat).map fun q => hor p q.1 (thr p ((pts m k).take n.toNat)) == q.2).map PF.W.bl)] = .ok (.bl (fitB p (pts m k) n)) := by
      rw [allW_of, List.all_map]
      rfl
    unfold F_fits_at
    rw [defF_eq _ _ _ _ rfl]
    simp only [startE, List.map_cons, List.map_nil, List.length_cons, List.length_nil, Nat.reduceAdd, Nat.reduceSub, List.replicate, List.cons_append, List.nil_append, sSeq_eq, sSet_eq, fL_eq, fCons_eq, fNil_eq, gV_eq, List.getElem?_cons_succ, List.getElem?_cons_zero, T.bind_ok, ptsat_run h h8 hk, List.set_cons_succ, List.set_cons_zero, sIf_eq, fBl_eq, f2_eq, lenW_lst, leW_int, d, blW_bl, Bool.false_eq_true, if_false, sNil_eq, fSl_eq, pNo, pSome, pInt, slW, c1, c2, tupOfW_lst, thin_run hp pt, sRet_eq, fComp_eq, iOf_eq, lstW, hz, if_true, wipeE, c, hA, endOf]
end
end Lw
namespace Lw
open PySem L2 PF Rt
abbrev gBi : En → T (Fl × En) := (sIf (fBl (f2 neS (gV 8) (gV 4))) (sPar 6 7 (fCons (f2 mulW (gV 6) (f2 subW (gV 2) (gV 8))) (fCons (f2 mulW (gV 7) (f2 subW (gV 4) (gV 8))) fNil))) sNil)
theorem bi_loop {s x : Int} (hs : 0 ≤ s ∧ s < 32) (hx : 0 ≤ x ∧ x < 32) (v0 v1 v3 v5 : Sl) : ∀ (ps : List (Int × Int)) (t u : Int) (k : Nat) (y8 y9 : Sl), (∀ q ∈ ps, 0 ≤ q.1 ∧ q.1 < 32) → S (6 * k) t → S (6 * k) u → k + ps.length ≤ 100 →
    ∃ z8 z9, forL (goTup 2 (goCons (goName 8) (goCons (goName 9) goNil))) gBi (ps.map pw) [v0, v1, .val (.int s), v3, .val (.int x), v5, .val (.int t), .val (.int u), y8, y9] = .ok (.nx, [v0, v1, .val (.int s), v3, .val (.int x), v5, .val (.int (t * pro s x ps)), .val (.int (u * pro x x ps)), z8, z9])
  | [], t, u, k, y8, y9, _, _, _, _ => ⟨y8, y9, by simp [forL, pro]⟩
  | (o, h) :: ps, t, u, k, y8, y9, hq, ht, hu, hk => by
    rw [List.length_cons] at hk
    have ho : 0 ≤ o ∧ o < 32 := hq (o, h) (List.mem_cons_self ..)
    have go : (goTup 2 (goCons (goName 8) (goCons (goName 9) goNil))) (pw (o, h)) [v0, v1, .val (.int s), v3, .val (.int x), v5, .val (.int t), .val (.int u), y8, y9] = some [v0, v1, .val (.int s), v3, .val (.int x), v5, .val (.int t), .val (.int u), .val (.int o), .val (.int h)] := rfl
    rw [List.map_cons]
    unfold forL
    rw [go]
    by_cases e : o = x
    · obtain ⟨z8, z9, ih⟩ := bi_loop hs hx v0 v1 v3 v5 ps t u k (.val (.int o)) (.val (.int h)) (fun q h => hq q (List.mem_cons_of_mem _ h)) ht hu (by omega)
      refine ⟨z8, z9, ?_⟩
      have ne : (o == x) = true := beq_iff_eq.mpr e
      have e1 : pro s x ((o, h) :: ps) = pro s x ps := by simp [pro, e]
      have e2 : pro x x ((o, h) :: ps) = pro x x ps := by simp [pro, e]
      rw [e1, e2]
      simp only [gBi, sIf_eq, fBl_eq, f2_eq, gV_eq, List.getElem?_cons_succ, List.getElem?_cons_zero, T.bind_ok, neS_int, ne, Bool.not_true, blW_bl, Bool.false_eq_true, if_false, sNil_eq]
      exact ih
    · have s1 : S 6 (s - o) := by unfold S; omega
      have s2 : S 6 (x - o) := by unfold S; omega
      obtain ⟨z8, z9, ih⟩ := bi_loop hs hx v0 v1 v3 v5 ps (t * (s - o)) (u * (x - o)) (k + 1) (.val (.int o)) (.val (.int h)) (fun q h => hq q (List.mem_cons_of_mem _ h)) ((ht.mul s1).mono (by omega)) ((hu.mul s2).mono (by omega)) (by omega)
      refine ⟨z8, z9, ?_⟩
      have ne : (o == x) = false := by simpa using e
      have m1 : mulOk t (s - o) = true := ht.ok s1 (by omega)
      have m2 : mulOk u (x - o) = true := hu.ok s2 (by omega)
      have e1 : t * pro s x ((o, h) :: ps) = t * (s - o) * pro s x ps := by simp [pro, e, Int.mul_assoc]
      have e2 : u * pro x x ((o, h) :: ps) = u * (x - o) * pro x x ps := by simp [pro, e, Int.mul_assoc]
      rw [e1, e2]
      simp only [gBi, sIf_eq, fBl_eq, f2_eq, gV_eq, List.getElem?_cons_succ, List.getElem?_cons_zero, T.bind_ok, neS_int, ne, Bool.not_false, blW_bl, if_true, sPar_eq, fCons_eq, fNil_eq, subW_int, mulW_int, m1, m2, List.set_cons_succ, List.set_cons_zero]
      exact ih
theorem pro_s {s x : Int} (hs : 0 ≤ s ∧ s < 32) : ∀ (ps : List (Int × Int)), (∀ q ∈ ps, 0 ≤ q.1 ∧ q.1 < 32) → S (6 * (ps.length + 1)) (pro s x ps)
  | [], _ => by
    show S 6 1
    unfold S
    decide
  | (o, h) :: ps, hq => by
    have ho : 0 ≤ o ∧ o < 32 := hq (o, h) (List.mem_cons_self ..)
    have ih := pro_s (x := x) hs ps fun q h => hq q (List.mem_cons_of_mem _ h)
    by_cases e : o = x
    · simp only [pro, e, if_true]
      exact ih.mono (by simp; omega)
    · simp only [pro, e, if_false]
      have s1 : S 6 (s - o) := by unfold S; omega
      exact (s1.mul ih).mono (by simp; omega)
abbrev gBo : En → T (Fl × En) := (sSeq (sPar 6 7 (fCons (gV 5) (fCons (fun _ => .ok (.int 1)) fNil))) (sSeq (sFor (iOf lstW (gV 1)) (goTup 2 (goCons (goName 8) (goCons (goName 9) goNil))) (sIf (fBl (f2 neS (gV 8) (gV 4))) (sPar 6 7 (fCons (f2 mulW (gV 6) (f2 subW (gV 2) (gV 8))) (fCons (f2 mulW (gV 7) (f2 subW (gV 4) (gV 8))) fNil))) sNil)) (sSet 3 (f2 addW (gV 3) (f2 mulW (gV 6) (fL (fCons (gV 0) (fCons (f2 modW (fL (fCons (gV 7) fNil) intW) (gV 0)) fNil)) F__law_back))))))
theorem bo_loop {p s : Int} {P : List (Int × Int)} (hp : Pr p) (h : Pts p P) (hs : 0 ≤ s ∧ s < 32) : ∀ (ps : List (Int × Int)) (g : Int) (y4 y5 y6 y7 y8 y9 : Sl), (∀ q ∈ ps, q ∈ P) →
    ∃ z4 z5 z6 z7 z8 z9, forL (goTup 2 (goCons (goName 4) (goCons (goName 5) goNil))) gBo (ps.map pw) [.val (.int p), .val (.lst (P.map pw)), .val (.int s), .val (.int g), y4, y5, y6, y7, y8, y9] = .ok (.nx, [.val (.int p), .val (.lst (P.map pw)), .val (.int s), .val (.int (g + btS p s P ps)), z4, z5, z6, z7, z8, z9])
  | [], g, y4, y5, y6, y7, y8, y9, _ => ⟨y4, y5, y6, y7, y8, y9, by simp [forL, btS]⟩
  | (x, y) :: ps, g, y4, y5, y6, y7, y8, y9, hq => by
    have b := hp.b
    have h8 := h.eight
    have hx := hq (x, y) (List.mem_cons_self ..)
    have he := h.each _ hx
    have x1 : 0 ≤ x ∧ x < p := he.1
    have y1 : 0 ≤ y ∧ y < p := he.2
    have low : ∀ q ∈ P, 0 ≤ q.1 ∧ q.1 < 32 := fun q hq => by have := (h.each q hq).1; omega
    obtain ⟨z8, z9, e⟩ := bi_loop (x := x) hs ⟨x1.1, by omega⟩ (.val (.int p)) (.val (.lst (P.map pw))) (.val (.int g)) (.val (.int y)) P y 1 1 y8 y9 low (by unfold S; omega) (by unfold S; decide) (by omega)
    rw [Int.one_mul] at e
    have kp := bk_pos hp h hx
    have kb : (bkF p x [1] 1 P).2 = pro x x P % p := bk_pro hp h hx
    have k1 : 1 ≤ pro x x P % p := by rw [← kb]; exact kp.1
    have k2 : pro x x P % p < p := by rw [← kb]; exact kp.2
    obtain ⟨_, _, _, i1, i2, _⟩ := inv_is hp k1 k2
    obtain ⟨w4, w5, w6, w7, w8, w9, ih⟩ := bo_loop hp h hs ps (g + y * pro s x P * inv p (pro x x P % p)) (.val (.int x)) (.val (.int y)) (.val (.int (y * pro s x P))) (.val (.int (pro x x P))) z8 z9 fun q hh => hq q (List.mem_cons_of_mem _ hh)
    refine ⟨w4, w5, w6, w7, w8, w9, ?_⟩
    have go : (goTup 2 (goCons (goName 4) (goCons (goName 5) goNil))) (pw (x, y)) [.val (.int p), .val (.lst (P.map pw)), .val (.int s), .val (.int g), y4, y5, y6, y7, y8, y9] = some [.val (.int p), .val (.lst (P.map pw)), .val (.int s), .val (.int g), .val (.int x), .val (.int y), y6, y7, y8, y9] := rfl
    have sy : S 6 y := by unfold S; omega
    have si : S 6 (inv p (pro x x P % p)) := by unfold S; omega
    have mo : mulOk (y * pro s x P) (inv p (pro x x P % p)) = true := (sy.mul (pro_s (x := x) hs P low)).ok si (by omega)
    have ea : g + y * pro s x P * inv p (pro x x P % p) + btS p s P ps = g + btS p s P ((x, y) :: ps) := by
      show _ = g + (y * pro s x P * inv p (pro x x P % p) + btS p s P ps)
      omega
    rw [ea] at ih
    have pp : 0 < p := by omega
    rw [List.map_cons]
    unfold forL
    rw [go]
    simp only [gBi] at e
    simp only [gBo, sSeq_eq, sPar_eq, fCons_eq, fNil_eq, gV_eq, List.getElem?_cons_succ, List.getElem?_cons_zero, T.bind_ok, List.set_cons_succ, List.set_cons_zero, sFor_eq, iOf_eq, lstW, e, sSet_eq, f2_eq, fL_eq, intW_int, modW_int, decide_eq_true pp, if_true, lback_run hp k1 k2, mulW_int, mo, addW_int]
    exact ih
theorem btw_run {p s : Int} {P : List (Int × Int)} (hp : Pr p) (h : Pts p P) (hs : 0 ≤ s ∧ s < 32) : F__law_between [.int p, .lst (P.map pw), .int s] = .ok (.int (hor p s (thr p P))) := by
  have b := hp.b
  obtain ⟨z4, z5, z6, z7, z8, z9, e⟩ := bo_loop hp h hs P 0 .un .un .un .un .un .un fun _ h => h
  rw [Int.zero_add] at e
  have pp : 0 < p := by omega
  simp only [gBo] at e
  unfold F__law_between
  rw [defF_eq _ _ _ _ rfl]
  simp only [startE, List.map_cons, List.map_nil, List.length_cons, List.length_nil, Nat.reduceAdd, Nat.reduceSub, List.replicate, List.cons_append, List.nil_append, sSeq_eq, sSet_eq, T.bind_ok, List.set_cons_succ, List.set_cons_zero, sFor_eq, iOf_eq, gV_eq, List.getElem?_cons_succ, List.getElem?_cons_zero, lstW, e, sRet_eq, f2_eq, fL_eq, fCons_eq, fNil_eq, intW_int, modW_int, decide_eq_true pp, if_true, bt_is hp h, endOf]
end Lw
namespace Lw
open PySem L2 PF Rt
theorem eqL_nil (ns : List Int) : eqW (.lst (ns.map PF.W.int)) (.lst []) = .ok (.bl ns.isEmpty) := by
  have hs : ∀ ms : List Int, ∃ ds, toDs (ms.map PF.W.int) = some ds ∧ SeqAt.shaped (.list ds) = true ∧ ds.length = ms.length := by
    intro ms
    refine ⟨ms.map PyData.int, ?_, shaped_ints ms, by simp⟩
    induction ms with
    | nil => rfl
    | cons m ms ih => simp only [List.map_cons, toDs, W.toD, ih]
  obtain ⟨ds, e1, e2, e3⟩ := hs ns
  have e4 : SeqAt.shaped (.list []) = true := shaped_ints []
  unfold eqW eqO
  simp only [W.toD, e1, toDs, Option.map_some, e2, e4, Bool.and_self, if_true]
  cases ns with
  | nil =>
    cases ds with
    | nil => rfl
    | cons d ds => simp at e3
  | cons n ns =>
    cases ds with
    | nil => simp at e3
    | cons d ds => simp [PyData.eqv, PyData.eqvAll]
section
variable {p : Int} {sh : List Int} {m : Mail}
theorem lfits_run (hp : Pr p) (h : MlS p sh m) (h8 : sh.length ≤ 8) {k : Nat} {n : Int} (hk : k < (ND sh).length) (hn : 1 ≤ n) : F__law_fits [.int p, .lst ((pts m k).map pw), .int n] = .ok (.bl (fitB p (pts m k) n)) := by
  have hl := h.len
  have b := hp.b
  have pl : (pts m k).length = m.length := by simp [pts]
  have en : n = ((n.toNat : Nat) : Int) := by omega
  have c1 : cutW ((pts m k).map pw) none (some n) = ((pts m k).take n.toNat).map pw := by
    have := cut_up pw (pts m k) n.toNat
    rw [← en] at this
    exact this
  have c2 : cutW ((pts m k).map pw) (some n) none = ((pts m k).drop n.toNat).map pw := by
    have := cut_dn pw (pts m k) n.toNat
    rw [← en] at this
    exact this
  have hz : sizeOk (((pts m k).drop n.toNat).map pw) = true := size_small (by simp; omega)
  have c : compL (goTup 2 (goCons (goName 4) (goCons (goName 5) goNil))) (fBl (f2 neS (fL (fCons (gV 0) (fCons (gV 3) (fCons (gV 4) fNil))) F__law_between) (gV 5))) (fun _ => .ok (.int 1)) [.val (.int p), .val (.lst ((pts m k).map pw)), .val (.int n), .val (.lst (((pts m k).take n.toNat).map pw)), .un, .un] (((pts m k).drop n.toNat).map pw) = .ok ((((pts m k).drop n.toNat).filter fun q => !(hor p q.1 (thr p ((pts m k).take n.toNat)) == q.2)).map fun _ => PF.W.int 1) := by
    refine compL_filter _ _ _ _ fun q hq => ⟨_, rfl, ?_, fun _ => rfl⟩
    have ml : n.toNat < m.length := by
      have := List.length_pos_of_mem hq
      rw [List.length_drop, pl] at this
      omega
    have pt := pts_take hp h h8 (k := k) (n := n.toNat) hk (by omega) (by omega)
    obtain ⟨r, hr, rfl⟩ := List.mem_map.mp (List.mem_of_mem_drop hq)
    have e1 := (h.each r hr).1
    have v := btw_run (s := r.1 + 1) hp pt ⟨by omega, by omega⟩
    simp only [fBl_eq, fL_eq, fCons_eq, fNil_eq, f2_eq, gV_eq, List.set_cons_succ, List.set_cons_zero, List.getElem?_cons_succ, List.getElem?_cons_zero, T.bind_ok, v, neS_int, blW_bl]
  have ec : ((((pts m k).drop n.toNat).filter fun q => !(hor p q.1 (thr p ((pts m k).take n.toNat)) == q.2)).map fun _ => PF.W.int 1) = ((((pts m k).drop n.toNat).filter fun q => !(hor p q.1 (thr p ((pts m k).take n.toNat)) == q.2)).map fun _ => (1 : Int)).map PF.W.int := by simp [List.map_map, Function.comp_def]
  have ei : ((((pts m k).drop n.toNat).filter fun q => !(hor p q.1 (thr p ((pts m k).take n.toNat)) == q.2)).map fun _ => (1 : Int)).isEmpty = fitB p (pts m k) n := by
    unfold fitB
    have : ∀ (l : List (Int × Int)) (t : Int × Int → Bool), ((l.filter fun q => !t q).map fun _ => (1 : Int)).isEmpty = l.all t := by
      intro l t
      induction l with
      | nil => rfl
      | cons x l ih =>
        cases hx : t x
        · simp [hx]
        · simp only [List.filter_cons, hx, Bool.not_true, Bool.false_eq_true, if_false, List.all_cons, Bool.true_and]
          exact ih
    exact this _ _
  rw [ec] at c
  have el := eqL_nil ((((pts m k).drop n.toNat).filter fun q => !(hor p q.1 (thr p ((pts m k).take n.toNat)) == q.2)).map fun _ => (1 : Int))
  rw [ei] at el
  generalize (((((pts m k).drop n.toNat).filter fun q => !(hor p q.1 (thr p ((pts m k).take n.toNat)) == q.2)).map fun _ => (1 : Int)).map PF.W.int) = xs at c el
  unfold F__law_fits
  rw [defF_eq _ _ _ _ rfl]
  simp only [startE, List.map_cons, List.map_nil, List.length_cons, List.length_nil, Nat.reduceAdd, Nat.reduceSub, List.replicate, List.cons_append, List.nil_append, sSeq_eq, sSet_eq, fL_eq, fCons_eq, fNil_eq, gV_eq, List.getElem?_cons_succ, List.getElem?_cons_zero, T.bind_ok, fSl_eq, pNo, pSome, pInt, slW, c1, c2, List.set_cons_succ, List.set_cons_zero, sRet_eq, f2_eq, fComp_eq, iOf_eq, lstW, hz, if_true, wipeE, c, mkLst_eq, sizeOk_nil, eqS_lst, el, endOf]
abbrev kd (ks : List Int) : List (Key × PF.W) := ks.map fun n => (Sum.inl n, PF.W.bl true)
theorem put_kd (ks : List Int) (n : Int) : putW (kd ks) (.inl n) (.bl true) = kd (addk ks n) := by
  unfold putW addk
  by_cases h : n ∈ ks
  · have ha : ((kd ks).any fun kv => decide (kv.1 = (Sum.inl n : Key))) = true := by
      rw [List.any_eq_true]
      exact ⟨(.inl n, .bl true), List.mem_map.mpr ⟨n, h, rfl⟩, by simp⟩
    rw [ha, if_pos rfl, if_pos h]
    unfold kd
    rw [List.map_map]
    refine List.map_congr_left fun x _ => ?_
    simp only [Function.comp]
    split <;> rfl
  · have ha : ((kd ks).any fun kv => decide (kv.1 = (Sum.inl n : Key))) = false := by
      rw [List.any_eq_false]
      intro kv hkv
      obtain ⟨x, hx, rfl⟩ := List.mem_map.mp hkv
      have : x ≠ n := fun z => h (z ▸ hx)
      simpa using this
    rw [ha, if_neg (by decide), if_neg h]
    simp [kd]
theorem droom {ks : List (Key × PF.W)} (h : ks.length < 16777216) : dRoom ks = true := by
  unfold dRoom
  exact decide_eq_true h
abbrev gUn : En → T (Fl × En) := (sIf (fNot (fTru (fL (fCons (gV 0) (fCons (gV 2) (fCons (gV 4) (fCons (gV 5) fNil)))) F_fits_at))) (sDPutO 3 (gV 5) (fun _ => .ok (.bl true))) sNil)
theorem un_loop (hp : Pr p) (h : MlS p sh m) (h8 : sh.length ≤ 8) : ∀ (ns : List Int) (k : Nat) (ks : List Int) (y4 y5 : Sl), (∀ n ∈ ns, 1 ≤ n) → k + ns.length = (ND sh).length → ks.length + ns.length ≤ 1000 →
    ∃ z4 z5, forL (goTup 2 (goCons (goName 4) (goCons (goName 5) goNil))) gUn (enumF k (I ns)) [.val (.int p), .val (.tup (I sh)), .val (mw m), .odc (kd ks), y4, y5] = .ok (.nx, [.val (.int p), .val (.tup (I sh)), .val (mw m), .odc (kd (unfL p m k ns ks)), z4, z5])
  | [], k, ks, y4, y5, _, _, _ => ⟨y4, y5, rfl⟩
  | n :: ns, k, ks, y4, y5, h1, hN, hl => by
    rw [List.length_cons] at hN hl
    have hn := h1 n (List.mem_cons_self ..)
    have r := fitsat_run hp h h8 (k := k) (n := n) (by omega) hn
    have al : (addk ks n).length ≤ ks.length + 1 := by
      unfold addk
      split
      · omega
      · simp
    obtain ⟨z4, z5, e⟩ := un_loop hp h h8 ns (k + 1) (if fitB p (pts m k) n then ks else addk ks n) (.val (.int k)) (.val (.int n)) (fun x hx => h1 x (List.mem_cons_of_mem _ hx)) (by omega) (by split <;> omega)
    refine ⟨z4, z5, ?_⟩
    have ek : ((k + 1 : Nat) : Int) = (k : Int) + 1 := by omega
    rw [ek] at e
    have go : (goTup 2 (goCons (goName 4) (goCons (goName 5) goNil))) (.tup [.int k, .int n]) [.val (.int p), .val (.tup (I sh)), .val (mw m), .odc (kd ks), y4, y5] = some [.val (.int p), .val (.tup (I sh)), .val (mw m), .odc (kd ks), .val (.int k), .val (.int n)] := rfl
    show forL _ gUn (.tup [.int k, .int n] :: enumF ((k : Int) + 1) (I ns)) _ = .ok (.nx, [_, _, _, .odc (kd (unfL p m (k + 1) ns (if fitB p (pts m k) n then ks else addk ks n))), _, _])
    unfold forL
    rw [go]
    cases hf : fitB p (pts m k) n with
    | true =>
      rw [hf] at r e
      simp only [gUn, sIf_eq, fNot_eq, fTru_eq, fL_eq, fCons_eq, fNil_eq, gV_eq, List.getElem?_cons_succ, List.getElem?_cons_zero, T.bind_ok, r, truW_bl, Bool.not_true, Bool.false_eq_true, if_false, sNil_eq]
      exact e
    | false =>
      rw [hf] at r e
      have dr : dRoom (kd ks) = true := droom (by simp; omega)
      simp only [gUn, sIf_eq, fNot_eq, fTru_eq, fL_eq, fCons_eq, fNil_eq, gV_eq, List.getElem?_cons_succ, List.getElem?_cons_zero, T.bind_ok, r, truW_bl, Bool.not_false, if_true, sDPutO, keyW, dr, put_kd, List.set_cons_succ, List.set_cons_zero]
      exact e
abbrev due (p : Int) (sh : List Int) (m : Mail) : List Int := sortI (unfL p m 0 (ND sh) [])
theorem int_kd : ∀ ks : List Int, intKs ((kd ks).map (·.1)) = some ks
  | [] => rfl
  | k :: ks => by
    show (intKs ((kd ks).map (·.1))).map (k :: ·) = some (k :: ks)
    rw [int_kd ks]
    rfl
theorem unfitin_run (hp : Pr p) (hs : Li.Shares sh) (h : MlS p sh m) : F_unfit_in [.int p, .tup (I sh), mw m] = .ok (.lst (I (due p sh m))) := by
  have h8 := hs.eight
  have nl := nd_len hs
  have hr := hs.room
  have nr := Li.needsin_run (ns := sh) (by omega) fun x hx => by have := hs.each x hx; omega
  obtain ⟨z4, z5, e⟩ := un_loop hp h h8 (ND sh) 0 [] .un .un (fun n hn => (nd_b n hn).1) (by omega) (by simp; omega)
  have ul := unfL_len (p := p) (m := m) (ND sh) 0 []
  have d64 : decide ((unfL p m 0 (ND sh) []).length < 64) = true := decide_eq_true (by simp at ul; omega)
  have so : sortedD [.dct ((kd (unfL p m 0 (ND sh) [])).map (·.1)) ((kd (unfL p m 0 (ND sh) [])).map (·.2))] = .ok (.lst (I (due p sh m))) := by
    simp only [sortedD, int_kd, d64, if_true]
  have en : enL [.lst (I (ND sh))] = .ok (enumF 0 (I (ND sh))) := by simp [enL, isT, enW]
  have e : forL (goTup 2 (goCons (goName 4) (goCons (goName 5) goNil))) gUn (enumF 0 (I (ND sh))) [.val (.int p), .val (.tup (I sh)), .val (mw m), .odc [], .un, .un] = _ := e
  simp only [gUn] at e
  unfold F_unfit_in
  rw [defF_eq _ _ _ _ rfl]
  simp only [startE, List.map_cons, List.map_nil, List.length_cons, List.length_nil, Nat.reduceAdd, Nat.reduceSub, List.replicate, List.cons_append, List.nil_append, sSeq_eq, sOwnD, T.bind_ok, List.set_cons_succ, List.set_cons_zero, sFor_eq, iL_eq, fL_eq, fCons_eq, fNil_eq, gV_eq, List.getElem?_cons_succ, List.getElem?_cons_zero, nr, en, e, onFrz, frz, sRet_eq, so, endOf]
end
end Lw
namespace Lw
open PySem L2 PF Rt
section
variable {p : Int} {sh : List Int} {m : Mail}
theorem toDs_ints (ms : List Int) : toDs (ms.map PF.W.int) = some (ms.map PyData.int) := by
  induction ms with
  | nil => rfl
  | cons m ms ih => simp only [List.map_cons, toDs, W.toD, ih]
theorem in_is (n : Int) (xs : List Int) : inO (.int n) (.lst (I xs)) = some (xs.any fun x => x == n) := by
  have e4 : SeqAt.shaped (.list (xs.map PyData.int)) = true := shaped_ints xs
  have e5 : SeqAt.shaped (.int n) = true := rfl
  have e6 : ((xs.map PyData.int).any fun z => PyData.eqv z (.int n)) = xs.any fun x => x == n := by
    rw [List.any_map]
    congr 1
  unfold inO
  simp only [W.toD, toDs_ints, Option.map_some, seqD, e4, e5, Bool.and_self, if_true, e6]
abbrev gLu : En → T (Fl × En) := (sIf (fNot (fTru (fL (fCons (gV 0) (fCons (fComp [6, 7] (iOf tupW (gV 2)) (goTup 2 (goCons (goName 6) (goCons (goName 7) goNil))) fYes (fL (fCons (f2 addW (gV 6) (fun _ => .ok (.int 1))) (fCons (f2 ixW (gV 7) (gV 4)) fNil)) mkTup)) (fCons (gV 5) fNil))) F__law_fits))) (sDPutO 3 (gV 5) (fun _ => .ok (.bl true))) sNil)
theorem lu_loop (hp : Pr p) (h : MlS p sh m) (h8 : sh.length ≤ 8) : ∀ (ns : List Int) (k : Nat) (ks : List Int) (y4 y5 : Sl), (∀ n ∈ ns, 1 ≤ n) → k + ns.length = (ND sh).length → ks.length + ns.length ≤ 1000 →
    ∃ z4 z5, forL (goTup 2 (goCons (goName 4) (goCons (goName 5) goNil))) gLu (enumF k (I ns)) [.val (.int p), .val (.tup (I sh)), .val (mw m), .odc (kd ks), y4, y5, .un, .un] = .ok (.nx, [.val (.int p), .val (.tup (I sh)), .val (mw m), .odc (kd (unfL p m k ns ks)), z4, z5, .un, .un])
  | [], k, ks, y4, y5, _, _, _ => ⟨y4, y5, rfl⟩
  | n :: ns, k, ks, y4, y5, h1, hN, hl => by
    rw [List.length_cons] at hN hl
    have hml := h.len
    have hn := h1 n (List.mem_cons_self ..)
    have r := lfits_run hp h h8 (k := k) (n := n) (by omega) hn
    have al : (addk ks n).length ≤ ks.length + 1 := by
      unfold addk
      split
      · omega
      · simp
    obtain ⟨z4, z5, e⟩ := lu_loop hp h h8 ns (k + 1) (if fitB p (pts m k) n then ks else addk ks n) (.val (.int k)) (.val (.int n)) (fun x hx => h1 x (List.mem_cons_of_mem _ hx)) (by omega) (by split <;> omega)
    refine ⟨z4, z5, ?_⟩
    have hz : sizeOk (m.map mq) = true := size_small (by rw [List.length_map]; omega)
    have c : compL (goTup 2 (goCons (goName 6) (goCons (goName 7) goNil))) fYes (fL (fCons (f2 addW (gV 6) (fun _ => .ok (.int 1))) (fCons (f2 ixW (gV 7) (gV 4)) fNil)) mkTup) [.val (.int p), .val (.tup (I sh)), .val (mw m), .odc (kd ks), .val (.int k), .val (.int n), .un, .un] (m.map mq) = .ok ((pts m k).map pw) := by
      have : (pts m k).map pw = m.map fun q => pw (q.1 + 1, q.2.getD k 0) := by simp [pts, List.map_map, Function.comp_def]
      rw [this]
      refine compL_map _ _ _ fun q hq => ⟨_, rfl, rfl, ?_⟩
      obtain ⟨_, _, e3⟩ := h.each q hq
      have ix : ixW (TI q.2) (.int k) = .ok (.int (q.2.getD k 0)) := by
        have hkl : k < q.2.length := by omega
        have : atI (I q.2) (k : Int) = some (.int (q.2.getD k 0)) := by
          unfold atI
          rw [ixN_nat (by simpa using hkl)]
          simp [I, List.getD, hkl]
        simp only [ixW, this]
      simp only [fL_eq, fCons_eq, fNil_eq, f2_eq, gV_eq, List.set_cons_succ, List.set_cons_zero, List.getElem?_cons_succ, List.getElem?_cons_zero, T.bind_ok, addW_int, ix, mkTup_eq, sizeOk_2, if_true]
    have ek : ((k + 1 : Nat) : Int) = (k : Int) + 1 := by omega
    rw [ek] at e
    have go : (goTup 2 (goCons (goName 4) (goCons (goName 5) goNil))) (.tup [.int k, .int n]) [.val (.int p), .val (.tup (I sh)), .val (mw m), .odc (kd ks), y4, y5, .un, .un] = some [.val (.int p), .val (.tup (I sh)), .val (mw m), .odc (kd ks), .val (.int k), .val (.int n), .un, .un] := rfl
    show forL _ gLu (.tup [.int k, .int n] :: enumF ((k : Int) + 1) (I ns)) _ = .ok (.nx, [_, _, _, .odc (kd (unfL p m (k + 1) ns (if fitB p (pts m k) n then ks else addk ks n))), _, _, _, _])
    unfold forL
    rw [go]
    cases hf : fitB p (pts m k) n with
    | true =>
      rw [hf] at r e
      simp only [gLu, sIf_eq, fNot_eq, fTru_eq, fL_eq, fCons_eq, fNil_eq, gV_eq, List.getElem?_cons_succ, List.getElem?_cons_zero, T.bind_ok, fComp_eq, iOf_eq, tupW, hz, if_true, wipeE, List.set_cons_succ, List.set_cons_zero, c, r, truW_bl, Bool.not_true, Bool.false_eq_true, if_false, sNil_eq]
      exact e
    | false =>
      rw [hf] at r e
      have dr : dRoom (kd ks) = true := droom (by simp; omega)
      simp only [gLu, sIf_eq, fNot_eq, fTru_eq, fL_eq, fCons_eq, fNil_eq, gV_eq, List.getElem?_cons_succ, List.getElem?_cons_zero, T.bind_ok, fComp_eq, iOf_eq, tupW, hz, if_true, wipeE, c, r, truW_bl, Bool.not_false, sDPutO, keyW, dr, put_kd, List.set_cons_succ, List.set_cons_zero]
      exact e
theorem lunfit_run (hp : Pr p) (hs : Li.Shares sh) (h : MlS p sh m) : F__law_unfit [.int p, .tup (I sh), mw m] = .ok (.lst (I (due p sh m))) := by
  have h8 := hs.eight
  have nl := nd_len hs
  have hr := hs.room
  have nr := Li.lneeds_run (ns := sh) (by omega) fun x hx => by have := hs.each x hx; omega
  obtain ⟨z4, z5, e⟩ := lu_loop hp h h8 (ND sh) 0 [] .un .un (fun n hn => (nd_b n hn).1) (by omega) (by simp; omega)
  have ul := unfL_len (p := p) (m := m) (ND sh) 0 []
  have d64 : decide ((unfL p m 0 (ND sh) []).length < 64) = true := decide_eq_true (by simp at ul; omega)
  have so : sortedD [.dct ((kd (unfL p m 0 (ND sh) [])).map (·.1)) ((kd (unfL p m 0 (ND sh) [])).map (·.2))] = .ok (.lst (I (due p sh m))) := by
    simp only [sortedD, int_kd, d64, if_true]
  have en : enL [.lst (I (ND sh))] = .ok (enumF 0 (I (ND sh))) := by simp [enL, isT, enW]
  have e : forL (goTup 2 (goCons (goName 4) (goCons (goName 5) goNil))) gLu (enumF 0 (I (ND sh))) [.val (.int p), .val (.tup (I sh)), .val (mw m), .odc [], .un, .un, .un, .un] = _ := e
  simp only [gLu] at e
  unfold F__law_unfit
  rw [defF_eq _ _ _ _ rfl]
  simp only [startE, List.map_cons, List.map_nil, List.length_cons, List.length_nil, Nat.reduceAdd, Nat.reduceSub, List.replicate, List.cons_append, List.nil_append, sSeq_eq, sOwnD, T.bind_ok, List.set_cons_succ, List.set_cons_zero, sFor_eq, iL_eq, fL_eq, fCons_eq, fNil_eq, gV_eq, List.getElem?_cons_succ, List.getElem?_cons_zero, nr, en, e, onFrz, frz, sRet_eq, so, endOf]
theorem unfitneeds_run (hp : Pr p) (hs : Li.Shares sh) (h : MlS p sh m) : F_unfit_needs [.int p, .tup (I sh), mw m] = .ok (.tup (I (due p sh m))) := by
  unfold F_unfit_needs
  rw [defF_eq _ _ _ _ rfl]
  simp only [startE, List.map_cons, List.map_nil, List.length_cons, List.length_nil, Nat.reduceAdd, Nat.reduceSub, List.replicate, List.cons_append, List.nil_append, sSeq_eq, sExpr_eq, fL_eq, fCons_eq, fNil_eq, gV_eq, List.getElem?_cons_succ, List.getElem?_cons_zero, T.bind_ok, nmail_run hp hs h, sRet_eq, unfitin_run hp hs h, tupOfW_lst, endOf]
theorem doesfit_run (hp : Pr p) (hs : Li.Shares sh) (h : MlS p sh m) {n : Int} (h1 : 1 ≤ n) (h2 : n ≤ sh.length) : F_does_fit [.int p, .tup (I sh), mw m, .int n] = .ok (.bl !((due p sh m).any fun x => x == n)) := by
  have ni : ninW (.int n) (.lst (I (due p sh m))) = .ok (.bl !((due p sh m).any fun x => x == n)) := by simp only [ninW, in_is]
  have d1 : decide ((1 : Int) ≤ n) = true := decide_eq_true h1
  have d2 : decide (n ≤ ((I sh).length : Int)) = true := decide_eq_true (by rw [List.length_map]; exact h2)
  unfold F_does_fit
  rw [defF_eq _ _ _ _ rfl]
  simp only [startE, List.map_cons, List.map_nil, List.length_cons, List.length_nil, Nat.reduceAdd, Nat.reduceSub, List.replicate, List.cons_append, List.nil_append, sSeq_eq, sExpr_eq, fL_eq, fCons_eq, fNil_eq, gV_eq, List.getElem?_cons_succ, List.getElem?_cons_zero, T.bind_ok, nmail_run hp hs h, sIf_eq, fNot_eq, fTru_eq, lenW_tup, between_run, d1, d2, Bool.and_self, truW_bl, Bool.not_true, Bool.false_eq_true, if_false, sNil_eq, sRet_eq, f2_eq, unfitin_run hp hs h, ni, endOf]
abbrev gRd : En → T (Fl × En) := (sIf (fBl (f2 leW (gV 5) (fL (fCons (gV 2) fNil) lenW))) (sSet 3 (f2 addW (gV 3) (fL (fCons (gV 0) (fCons (fL (fCons (fSl (fL (fCons (gV 2) (fCons (gV 4) fNil)) F_points_at) pNo (pSome (gV 5))) fNil) tupOfW) fNil)) F_through_in))) sNil)
theorem rd_loop (hp : Pr p) (h : MlS p sh m) (h8 : sh.length ≤ 8) : ∀ (ns : List Int) (k : Nat) (fo : List Int) (y4 y5 : Sl), (∀ n ∈ ns, 1 ≤ n) → k + ns.length = (ND sh).length → fo.length + 8 * ns.length ≤ 1000 →
    ∃ z4 z5, forL (goTup 2 (goCons (goName 4) (goCons (goName 5) goNil))) gRd (enumF k (I ns)) [.val (.int p), .val (.tup (I sh)), .val (mw m), .val (TI fo), y4, y5] = .ok (.nx, [.val (.int p), .val (.tup (I sh)), .val (mw m), .val (TI (fo ++ rdL p m k ns)), z4, z5])
  | [], k, fo, y4, y5, _, _, _ => ⟨y4, y5, by simp [forL, rdL, enumF]⟩
  | n :: ns, k, fo, y4, y5, h1, hN, hl => by
    rw [List.length_cons] at hN hl
    have hml := h.len
    have hn := h1 n (List.mem_cons_self ..)
    have ek : ((k + 1 : Nat) : Int) = (k : Int) + 1 := by omega
    have go : (goTup 2 (goCons (goName 4) (goCons (goName 5) goNil))) (.tup [.int k, .int n]) [.val (.int p), .val (.tup (I sh)), .val (mw m), .val (TI fo), y4, y5] = some [.val (.int p), .val (.tup (I sh)), .val (mw m), .val (TI fo), .val (.int k), .val (.int n)] := rfl
    by_cases hm : n ≤ (m.length : Int)
    · have pt := pts_take hp h h8 (k := k) (n := n.toNat) (by omega) (by omega) (by omega)
      have tl := thr_len pt
      have p8 := pt.eight
      obtain ⟨z4, z5, e⟩ := rd_loop hp h h8 ns (k + 1) (fo ++ thr p ((pts m k).take n.toNat)) (.val (.int k)) (.val (.int n)) (fun x hx => h1 x (List.mem_cons_of_mem _ hx)) (by omega) (by rw [List.length_append]; omega)
      refine ⟨z4, z5, ?_⟩
      have ea : fo ++ thr p ((pts m k).take n.toNat) ++ rdL p m (k + 1) ns = fo ++ rdL p m k (n :: ns) := by
        show _ = fo ++ ((if n ≤ (m.length : Int) then thr p ((pts m k).take n.toNat) else []) ++ rdL p m (k + 1) ns)
        rw [if_pos hm, List.append_assoc]
      rw [ek, ea] at e
      have d : decide (n ≤ (((m.map mq).length : Nat) : Int)) = true := decide_eq_true (by rw [List.length_map]; exact hm)
      have c1 : cutW ((pts m k).map pw) none (some n) = ((pts m k).take n.toNat).map pw := by
        have := cut_up pw (pts m k) n.toNat
        rw [show ((n.toNat : Nat) : Int) = n by omega] at this
        exact this
      have ad : addW (TI fo) (TI (thr p ((pts m k).take n.toNat))) = .ok (TI (fo ++ thr p ((pts m k).take n.toNat))) := by
        have z : sz2 (I fo).length (I (thr p ((pts m k).take n.toNat))).length = true := by
          unfold sz2
          refine decide_eq_true ?_
          simp only [List.length_map]
          omega
        show (if sz2 (I fo).length (I (thr p ((pts m k).take n.toNat))).length then T.ok (PF.W.tup (I fo ++ I (thr p ((pts m k).take n.toNat)))) else .bad) = _
        rw [if_pos z, ← List.map_append]
      show forL _ gRd (.tup [.int k, .int n] :: enumF ((k : Int) + 1) (I ns)) _ = _
      unfold forL
      rw [go]
      simp only [gRd, sIf_eq, fBl_eq, f2_eq, fL_eq, fCons_eq, fNil_eq, gV_eq, List.getElem?_cons_succ, List.getElem?_cons_zero, T.bind_ok, lenW_tup, leW_int, d, blW_bl, if_true, sSet_eq, fSl_eq, pNo, pSome, pInt, slW, ptsat_run h h8 (show k < (ND sh).length by omega), c1, tupOfW_lst, thin_run hp pt, ad, List.set_cons_succ, List.set_cons_zero]
      exact e
    · obtain ⟨z4, z5, e⟩ := rd_loop hp h h8 ns (k + 1) fo (.val (.int k)) (.val (.int n)) (fun x hx => h1 x (List.mem_cons_of_mem _ hx)) (by omega) (by omega)
      refine ⟨z4, z5, ?_⟩
      have ea : rdL p m (k + 1) ns = rdL p m k (n :: ns) := by
        show _ = (if n ≤ (m.length : Int) then thr p ((pts m k).take n.toNat) else []) ++ rdL p m (k + 1) ns
        rw [if_neg hm]
        rfl
      rw [ek, ea] at e
      have d : decide (n ≤ (((m.map mq).length : Nat) : Int)) = false := decide_eq_false (by rw [List.length_map]; exact hm)
      show forL _ gRd (.tup [.int k, .int n] :: enumF ((k : Int) + 1) (I ns)) _ = _
      unfold forL
      rw [go]
      simp only [gRd, sIf_eq, fBl_eq, f2_eq, fL_eq, fCons_eq, fNil_eq, gV_eq, List.getElem?_cons_succ, List.getElem?_cons_zero, T.bind_ok, lenW_tup, leW_int, d, blW_bl, Bool.false_eq_true, if_false, sNil_eq]
      exact e
end
end Lw
namespace Lw
open PySem L2 PF Rt
section
variable {p : Int} {sh : List Int} {m : Mail}
abbrev rd (p : Int) (sh : List Int) (m : Mail) : List Int := rdL p m 0 (ND sh)
theorem readin_run (hp : Pr p) (hs : Li.Shares sh) (h : MlS p sh m) : F_read_in [.int p, .tup (I sh), mw m] = .ok (TI (rd p sh m)) := by
  have h8 := hs.eight
  have nl := nd_len hs
  have hr := hs.room
  have nr := Li.needsin_run (ns := sh) (by omega) fun x hx => by have := hs.each x hx; omega
  obtain ⟨z4, z5, e⟩ := rd_loop hp h h8 (ND sh) 0 [] .un .un (fun n hn => (nd_b n hn).1) (by omega) (by simp; omega)
  have en : enL [.lst (I (ND sh))] = .ok (enumF 0 (I (ND sh))) := by simp [enL, isT, enW]
  have e : forL (goTup 2 (goCons (goName 4) (goCons (goName 5) goNil))) gRd (enumF 0 (I (ND sh))) [.val (.int p), .val (.tup (I sh)), .val (mw m), .val (.tup []), .un, .un] = .ok (.nx, [.val (.int p), .val (.tup (I sh)), .val (mw m), .val (TI (rd p sh m)), z4, z5]) := e
  simp only [gRd] at e
  unfold F_read_in
  rw [defF_eq _ _ _ _ rfl]
  simp only [startE, List.map_cons, List.map_nil, List.length_cons, List.length_nil, Nat.reduceAdd, Nat.reduceSub, List.replicate, List.cons_append, List.nil_append, sSeq_eq, sSet_eq, mkTup_eq, sizeOk_nil, if_true, T.bind_ok, List.set_cons_succ, List.set_cons_zero, sFor_eq, iL_eq, fL_eq, fCons_eq, fNil_eq, gV_eq, List.getElem?_cons_succ, List.getElem?_cons_zero, nr, en, e, sRet_eq, endOf]
theorem neL_nil (ns : List Int) : neW (.lst (I ns)) (.lst []) = .ok (.bl !ns.isEmpty) := by
  have e := eqL_nil ns
  unfold eqW at e
  unfold neW
  cases h : eqO (.lst (I ns)) (.lst []) with
  | none =>
    rw [show eqO (.lst (ns.map PF.W.int)) (.lst []) = none from h] at e
    cases e
  | some b =>
    rw [show eqO (.lst (ns.map PF.W.int)) (.lst []) = some b from h] at e
    have : b = ns.isEmpty := PF.W.bl.inj (T.ok.inj e)
    rw [this]
theorem read_run (hp : Pr p) (hs : Li.Shares sh) (h : MlS p sh m) : F_read [.int p, .tup (I sh), mw m] = match due p sh m with
    | [] => .ok (TI (rd p sh m))
    | n :: _ => .exc 11 [.int n] := by
  unfold F_read
  rw [defF_eq _ _ _ _ rfl]
  simp only [startE, List.map_cons, List.map_nil, List.length_cons, List.length_nil, Nat.reduceAdd, Nat.reduceSub, List.replicate, List.cons_append, List.nil_append, sSeq_eq, sExpr_eq, sSet_eq, fL_eq, fCons_eq, fNil_eq, gV_eq, List.getElem?_cons_succ, List.getElem?_cons_zero, T.bind_ok, nmail_run hp hs h, unfitin_run hp hs h, List.set_cons_succ, List.set_cons_zero, sIf_eq, fBl_eq, f2_eq, mkLst_eq, sizeOk_nil, if_true, neS_lst, neL_nil, blW_bl]
  cases hd : due p sh m with
  | nil => simp only [List.isEmpty_nil, Bool.not_true, Bool.false_eq_true, if_false, sNil_eq, T.bind_ok, sRet_eq, fL_eq, fCons_eq, fNil_eq, gV_eq, List.getElem?_cons_succ, List.getElem?_cons_zero, readin_run hp hs h, endOf]
  | cons n ns =>
    have ix : ixW (.lst (I (n :: ns))) (.int 0) = .ok (.int n) := by simp [ixW, atI, ixN]
    simp only [List.isEmpty_cons, Bool.not_false, if_true, sRaise, fCons_eq, fNil_eq, f2_eq, gV_eq, List.getElem?_cons_succ, List.getElem?_cons_zero, T.bind_ok, ix]
    rfl
theorem heard_ok {fb : En → T PF.W} {ρ : En} {w : PF.W} (h : fb ρ = .ok w) : L__law_heard fb ρ = .ok w := by
  simp [L__law_heard, fHear, caught, h, T.catch, wrI]
theorem heard_11 {fb : En → T PF.W} {ρ : En} {w : PF.W} (h : fb ρ = .exc 11 [w]) : L__law_heard fb ρ = .ok (.lst [w]) := by
  simp [L__law_heard, fHear, caught, h, T.catch, N__law_heard, H__law_heard, hdlR, hL, hCons, hF, hNil]
theorem due_mem {x : Int} : x ∈ due p sh m ↔ ∃ i, (ND sh)[i]? = some x ∧ fitB p (pts m i) x = false := by
  rw [show (x ∈ due p sh m) ↔ x ∈ unfL p m 0 (ND sh) [] from (sortI_perm _).mem_iff, unfL_mem]
  simp
theorem due_long {x : Int} (hx : x ∈ due p sh m) : x < m.length := by
  obtain ⟨i, _, h⟩ := due_mem.mp hx
  have := fit_long h
  simp [pts] at this
  exact this
end
end Lw
namespace Lw
open PySem L2 PF Rt
section
variable {p : Int} {sh : List Int} {m : Mail}
theorem many0 (n : Nat) : manyW n [.int 0] = I (List.replicate n 0) := many_0 n
theorem zeros {z : Int} (h0 : 0 ≤ z) (h1 : z ≤ 1000) : mulTZ (.tup [.int 0]) (.int z) = .ok (TI (List.replicate z.toNat 0)) := by
  by_cases e0 : z = 0
  · subst e0
    rfl
  · by_cases e : z = 1
    · subst e
      rfl
    · have tm : tmulOk 1 z = true := by
        unfold tmulOk
        exact decide_eq_true ⟨by decide, by decide, by omega, by omega⟩
      have e1 : mulTZ (.tup [.int 0]) (.int z) = mulTA (.tup [.int 0]) (.int z) := by
        unfold mulTZ
        split
        · rename_i e2
          exact absurd (PF.W.int.inj e2) e0
        · rfl
      have e2 : mulTA (.tup [.int 0]) (.int z) = mulT (.tup [.int 0]) (.int z) := by
        unfold mulTA
        split
        · rename_i e2
          exact absurd (PF.W.int.inj e2) e
        · rename_i e2
          cases e2
          rfl
        · rename_i h2 h3
          exact (h3 z rfl).elim
      rw [e1, e2]
      simp only [mulT, List.length_cons, List.length_nil, tm, if_true, many_0]
theorem low_mw (m : Mail) : low 4 (mw m) := low_tup fun w hw => by
  obtain ⟨q, _, rfl⟩ := List.mem_map.mp hw
  refine low_tup fun u hu => ?_
  simp only [List.mem_cons, List.not_mem_nil, or_false] at hu
  rcases hu with rfl | rfl
  · obtain ⟨d, h1, h2, h3⟩ := low_int q.1
    exact ⟨d, h1, h2, by omega⟩
  · exact low_ints q.2
theorem ne_mw (m : Mail) : neW (mw m) (mw m) = .ok (.bl false) := ne_same (low_mw m) (by decide)
abbrev gMi : En → T (Fl × En) := (sSeq (sIf (fBl (f2 neS (fL (fCons (fL (fCons (gV 0) (fCons (gV 1) (fCons (gV 2) (fCons (gV 5) fNil)))) F_does_fit) fNil) reprW) (fL (fCons (f2 ninW (gV 5) (gV 3)) fNil) reprW))) (sRet (fun _ => .ok (.bl false))) sNil) (sIf (fAnd (fBl (f2 leW (fL (fCons (gV 2) fNil) lenW) (gV 5))) (fBl (f2 inW (gV 5) (gV 3)))) (sRet (fun _ => .ok (.bl false))) sNil))
theorem mi_loop (hp : Pr p) (hs : Li.Shares sh) (h : MlS p sh m) (v4 : Sl) : ∀ (k i : Nat) (y5 : Sl), 1 ≤ i → i + k ≤ sh.length + 1 → ∃ z5, forL (goName 5) gMi (PF.intsFrom i k) [.val (.int p), .val (.tup (I sh)), .val (mw m), .val (.lst (I (due p sh m))), v4, y5, .un, .un, .un, .un, .un, .un] = .ok (.nx, [.val (.int p), .val (.tup (I sh)), .val (mw m), .val (.lst (I (due p sh m))), v4, z5, .un, .un, .un, .un, .un, .un])
  | 0, i, y5, _, _ => ⟨y5, rfl⟩
  | k + 1, i, y5, h1, h2 => by
    obtain ⟨z5, e⟩ := mi_loop hp hs h v4 k (i + 1) (.val (.int i)) (by omega) (by omega)
    refine ⟨z5, ?_⟩
    have ei : ((i + 1 : Nat) : Int) = (i : Int) + 1 := by omega
    rw [ei] at e
    obtain ⟨s, rs⟩ := repr_is (sh_bl (!((due p sh m).any fun x => x == (i : Int)))) (by decide) (by decide)
    have df := doesfit_run hp hs h (n := i) (by omega) (by omega)
    have ni : ninW (.int i) (.lst (I (due p sh m))) = .ok (.bl !((due p sh m).any fun x => x == (i : Int))) := by simp only [ninW, in_is]
    have ii : inW (.int i) (.lst (I (due p sh m))) = .ok (.bl ((due p sh m).any fun x => x == (i : Int))) := by simp only [inW, in_is]
    show forL (goName 5) gMi (.int i :: PF.intsFrom ((i : Int) + 1) k) _ = _
    unfold forL
    by_cases hl : (m.length : Int) ≤ i
    · have nm : ((due p sh m).any fun x => x == (i : Int)) = false := by
        rw [List.any_eq_false]
        intro x hx
        have := due_long hx
        have : x ≠ i := by omega
        simpa using this
      have d : decide (((m.map mq).length : Int) ≤ (i : Int)) = true := decide_eq_true (by rw [List.length_map]; exact hl)
      rw [nm] at df ni ii rs
      simp only [goName_eq, List.set_cons_succ, List.set_cons_zero, gMi, sSeq_eq, sIf_eq, fBl_eq, f2_eq, fL_eq, fCons_eq, fNil_eq, gV_eq, List.getElem?_cons_succ, List.getElem?_cons_zero, T.bind_ok, df, ni, rs, neS_str, blW_bl, Bool.false_eq_true, if_false, sNil_eq, fAnd_eq, lenW_tup, leW_int, d, if_true, ii]
      exact e
    · have d : decide (((m.map mq).length : Int) ≤ (i : Int)) = false := decide_eq_false (by rw [List.length_map]; exact hl)
      simp only [goName_eq, List.set_cons_succ, List.set_cons_zero, gMi, sSeq_eq, sIf_eq, fBl_eq, f2_eq, fL_eq, fCons_eq, fNil_eq, gV_eq, List.getElem?_cons_succ, List.getElem?_cons_zero, T.bind_ok, df, ni, rs, neS_str, blW_bl, Bool.false_eq_true, if_false, sNil_eq, fAnd_eq, lenW_tup, leW_int, d]
      exact e
abbrev gMo : En → T (Fl × En) := (sSeq (sIf (fOr (fBl (f2 neS (fL (fCons (gV 0) (fCons (gV 1) (fCons (gV 2) fNil))) F_need_mail) (gV 2))) (fBl (f2 neS (fL (fCons (gV 0) (fCons (gV 1) (fCons (gV 2) fNil))) F_unfit_needs) (fL (fCons (gV 3) fNil) tupOfW)))) (sRet (fun _ => .ok (.bl false))) sNil) (sFor (iL rng2 (fCons (fun _ => .ok (.int 1)) (fCons (f2 addW (fL (fCons (gV 1) fNil) lenW) (fun _ => .ok (.int 1))) fNil))) (goName 5) (sSeq (sIf (fBl (f2 neS (fL (fCons (fL (fCons (gV 0) (fCons (gV 1) (fCons (gV 2) (fCons (gV 5) fNil)))) F_does_fit) fNil) reprW) (fL (fCons (f2 ninW (gV 5) (gV 3)) fNil) reprW))) (sRet (fun _ => .ok (.bl false))) sNil) (sIf (fAnd (fBl (f2 leW (fL (fCons (gV 2) fNil) lenW) (gV 5))) (fBl (f2 inW (gV 5) (gV 3)))) (sRet (fun _ => .ok (.bl false))) sNil))))
theorem mo_loop (hp : Pr p) (hs : Li.Shares sh) (h : MlS p sh m) : ∀ (ws : List PF.W) (y4 y5 : Sl), ∃ z4 z5, forL (goName 4) gMo ws [.val (.int p), .val (.tup (I sh)), .val (mw m), .val (.lst (I (due p sh m))), y4, y5, .un, .un, .un, .un, .un, .un] = .ok (.nx, [.val (.int p), .val (.tup (I sh)), .val (mw m), .val (.lst (I (due p sh m))), z4, z5, .un, .un, .un, .un, .un, .un])
  | [], y4, y5 => ⟨y4, y5, rfl⟩
  | w :: ws, y4, y5 => by
    have h8 := hs.eight
    obtain ⟨z5, e⟩ := mi_loop hp hs h (.val w) sh.length 1 y5 (Nat.le_refl _) (by omega)
    obtain ⟨u4, u5, e2⟩ := mo_loop hp hs h ws (.val w) z5
    refine ⟨u4, u5, ?_⟩
    have nu := ne_ints (due p sh m)
    have rg : rng2 [.int 1, .int (((I sh).length : Int) + 1)] = .ok (PF.intsFrom 1 sh.length) := by
      have a1 : rngOk 1 = true := rngOk_is (by decide) (by decide)
      have a2 : rngOk (((I sh).length : Int) + 1) = true := rngOk_is (by simp; omega) (by simp; omega)
      have e : (((I sh).length : Int) + 1 - 1).toNat = sh.length := by simp
      simp only [rng2, a1, a2, Bool.and_self, if_true, e]
    have e : forL (goName 5) gMi (PF.intsFrom 1 sh.length) [.val (.int p), .val (.tup (I sh)), .val (mw m), .val (.lst (I (due p sh m))), .val w, y5, .un, .un, .un, .un, .un, .un] = _ := e
    simp only [gMi] at e
    unfold forL
    simp only [goName_eq, List.set_cons_succ, List.set_cons_zero, gMo, sSeq_eq, sIf_eq, fOr_eq, fBl_eq, f2_eq, fL_eq, fCons_eq, fNil_eq, gV_eq, List.getElem?_cons_succ, List.getElem?_cons_zero, T.bind_ok, nmail_run hp hs h, ne_mw, blW_bl, Bool.false_eq_true, if_false, unfitneeds_run hp hs h, tupOfW_lst, neS_tup, nu, sNil_eq, sFor_eq, iL_eq, lenW_tup, addW_int, rg, e]
    exact e2
end
end Lw
namespace Lw
open PySem L2 PF Rt
section
variable {p : Int} {sh : List Int} {m : Mail}
theorem fit_on (hp : Pr p) {P : List (Int × Int)} {n : Int} (hP : Pts p (P.take n.toNat)) (hf : fitB p P n = true) : ∀ q ∈ P, hor p q.1 (thr p (P.take n.toNat)) = q.2 := fun q hq => by
  have b := hp.b
  rw [← List.take_append_drop n.toNat P] at hq
  rcases List.mem_append.mp hq with z | z
  · rw [hor_ev (by omega), thr_ev hp hP z]
  · unfold fitB at hf
    exact beq_iff_eq.mp (List.all_eq_true.mp hf q z)
theorem sumLe_b {m : Int} : ∀ {ns : List Int}, (∀ n ∈ ns, 1 ≤ n) → 0 ≤ sumLe m ns ∧ sumLe m ns ≤ ns.sum
  | [], _ => ⟨Int.le_refl 0, Int.le_refl 0⟩
  | a :: l, h => by
    have h1 := h a (List.mem_cons_self ..)
    have h2 := sumLe_b (m := m) fun n hn => h n (List.mem_cons_of_mem _ hn)
    rw [List.sum_cons]
    show 0 ≤ (if a ≤ m then a else 0) + sumLe m l ∧ (if a ≤ m then a else 0) + sumLe m l ≤ _
    split <;> omega
theorem ix_row {α : Type} (f : α → PF.W) {xs : List α} {i : Nat} {y : α} (h : xs[i]? = some y) : ixW (.tup (xs.map f)) (.int i) = .ok (f y) := by
  have hi : i < xs.length := (List.getElem?_eq_some_iff.mp h).1
  have : atI (xs.map f) (i : Int) = some (f y) := by
    unfold atI
    rw [ixN_nat (by simpa using hi)]
    simp [h]
  simp only [ixW, this]
theorem addT {xs ys : List Int} (h : xs.length + ys.length ≤ 1000) : addW (TI xs) (TI ys) = .ok (TI (xs ++ ys)) := by
  have z : sz2 (I xs).length (I ys).length = true := by
    unfold sz2
    refine decide_eq_true ?_
    simp only [List.length_map]
    omega
  show (if sz2 (I xs).length (I ys).length then T.ok (PF.W.tup (I xs ++ I ys)) else .bad) = _
  rw [if_pos z, ← List.map_append]
end
end Lw
namespace Lw
open PySem L2 PF Rt
section
variable {p : Int} {sh : List Int} {m : Mail}
abbrev gMe : En → T (Fl × En) := (sIf (fBl (f2 leW (gV 5) (fL (fCons (gV 2) fNil) lenW))) (sIf (fBl (f2 neS (fComp [10, 11] (iOf tupW (gV 2)) (goTup 2 (goCons (goName 10) (goCons (goName 11) goNil))) (fBl (f2 neS (f2 ixW (f2 ixW (gV 8) (gV 10)) (gV 9)) (f2 ixW (gV 11) (gV 9)))) (fun _ => .ok (.int 1))) (fL fNil mkLst))) (sRet (fun _ => .ok (.bl false))) sNil) sNil)
theorem me_loop (hp : Pr p) (hs : Li.Shares sh) (h : MlS p sh m) {B : List (List Int)} (v3 v4 v6 v7 : Sl) : ∀ (ns : List Int) (k : Nat) (y5 y9 : Sl), (∀ n ∈ ns, 1 ≤ n) → k + ns.length = (ND sh).length → (∀ (i : Nat) (n : Int), ns[i]? = some n → n ≤ m.length → B[k + i]? = some (thr p ((pts m (k + i)).take n.toNat)) ∧ fitB p (pts m (k + i)) n = true) →
    ∃ z5 z9, forL (goTup 2 (goCons (goName 9) (goCons (goName 5) goNil))) gMe (enumF k (I ns)) [.val (.int p), .val (.tup (I sh)), .val (mw m), v3, v4, y5, v6, v7, .val (.tup ((List.range sh.length).map fun (i : Nat) => TI (laidL p B i))), y9, .un, .un] = .ok (.nx, [.val (.int p), .val (.tup (I sh)), .val (mw m), v3, v4, z5, v6, v7, .val (.tup ((List.range sh.length).map fun (i : Nat) => TI (laidL p B i))), z9, .un, .un])
  | [], k, y5, y9, _, _, _ => ⟨y5, y9, rfl⟩
  | n :: ns, k, y5, y9, h1, hN, hB => by
    rw [List.length_cons] at hN
    have h8 := hs.eight
    have hml := h.len
    have hn := h1 n (List.mem_cons_self ..)
    obtain ⟨z5, z9, e⟩ := me_loop hp hs h v3 v4 v6 v7 ns (k + 1) (.val (.int n)) (.val (.int k)) (fun x hx => h1 x (List.mem_cons_of_mem _ hx)) (by omega) fun i x hx hxm => by
      have := hB (i + 1) x hx hxm
      rw [show k + (i + 1) = k + 1 + i by omega] at this
      exact this
    refine ⟨z5, z9, ?_⟩
    have ek : ((k + 1 : Nat) : Int) = (k : Int) + 1 := by omega
    rw [ek] at e
    have go : (goTup 2 (goCons (goName 9) (goCons (goName 5) goNil))) (.tup [.int k, .int n]) [.val (.int p), .val (.tup (I sh)), .val (mw m), v3, v4, y5, v6, v7, .val (.tup ((List.range sh.length).map fun (i : Nat) => TI (laidL p B i))), y9, .un, .un] = some [.val (.int p), .val (.tup (I sh)), .val (mw m), v3, v4, .val (.int n), v6, v7, .val (.tup ((List.range sh.length).map fun (i : Nat) => TI (laidL p B i))), .val (.int k), .un, .un] := rfl
    show forL _ gMe (.tup [.int k, .int n] :: enumF ((k : Int) + 1) (I ns)) _ = _
    unfold forL
    rw [go]
    by_cases hm : n ≤ (m.length : Int)
    · have d : decide (n ≤ (((m.map mq).length : Nat) : Int)) = true := decide_eq_true (by rw [List.length_map]; exact hm)
      obtain ⟨b1, b2⟩ := hB 0 n rfl hm
      rw [Nat.add_zero] at b1 b2
      have pt := pts_take hp h h8 (k := k) (n := n.toNat) (by omega) (by omega) (by omega)
      have on := fit_on hp pt b2
      have hz : sizeOk (m.map mq) = true := size_small (by rw [List.length_map]; omega)
      have c : compL (goTup 2 (goCons (goName 10) (goCons (goName 11) goNil))) (fBl (f2 neS (f2 ixW (f2 ixW (gV 8) (gV 10)) (gV 9)) (f2 ixW (gV 11) (gV 9)))) (fun _ => .ok (.int 1)) [.val (.int p), .val (.tup (I sh)), .val (mw m), v3, v4, .val (.int n), v6, v7, .val (.tup ((List.range sh.length).map fun (i : Nat) => TI (laidL p B i))), .val (.int k), .un, .un] (m.map mq) = .ok ((m.filter fun _ => false).map fun _ => PF.W.int 1) := by
        refine compL_filter _ _ _ _ fun q hq => ⟨_, rfl, ?_, fun z => by cases z⟩
        obtain ⟨e1, _, e3⟩ := h.each q hq
        have i1 : ixW (.tup ((List.range sh.length).map fun (i : Nat) => TI (laidL p B i))) (.int q.1) = .ok (TI (laidL p B q.1)) := by
          have := ix_row (fun (i : Nat) => TI (laidL p B i)) (xs := List.range sh.length) (i := q.1.toNat) (y := q.1.toNat) (List.getElem?_range (by omega))
          rw [show ((q.1.toNat : Nat) : Int) = q.1 by omega] at this
          exact this
        have i2 : ixW (TI (laidL p B q.1)) (.int k) = .ok (.int (hor p (q.1 + 1) (thr p ((pts m k).take n.toNat)))) := by
          refine ix_row PF.W.int ?_
          unfold laidL
          simp [b1]
        have i3 : ixW (TI q.2) (.int k) = .ok (.int (q.2.getD k 0)) := by
          refine ix_row PF.W.int ?_
          have hkl : k < q.2.length := by omega
          simp [List.getD, hkl]
        have eq := on _ (List.mem_map.mpr ⟨q, hq, rfl⟩)
        have eq : hor p (q.1 + 1) (thr p ((pts m k).take n.toNat)) = q.2.getD k 0 := eq
        simp only [fBl_eq, f2_eq, gV_eq, List.set_cons_succ, List.set_cons_zero, List.getElem?_cons_succ, List.getElem?_cons_zero, T.bind_ok, i1, i2, i3, eq, neS_int, beq_self_eq_true, Bool.not_true, blW_bl]
      have fn : (m.filter fun _ => false) = [] := by simp
      rw [fn, List.map_nil] at c
      have nn : neS (.lst []) (.lst []) = .ok (.bl false) := by
        rw [neS_lst]
        exact neL_nil []
      simp only [gMe, sIf_eq, fBl_eq, f2_eq, fL_eq, fCons_eq, fNil_eq, gV_eq, List.getElem?_cons_succ, List.getElem?_cons_zero, T.bind_ok, lenW_tup, leW_int, d, blW_bl, if_true, fComp_eq, iOf_eq, tupW, hz, wipeE, List.set_cons_succ, List.set_cons_zero, c, mkLst_eq, sizeOk_nil, nn, Bool.false_eq_true, if_false, sNil_eq]
      exact e
    · have d : decide (n ≤ (((m.map mq).length : Nat) : Int)) = false := decide_eq_false (by rw [List.length_map]; exact hm)
      simp only [gMe, sIf_eq, fBl_eq, f2_eq, fL_eq, fCons_eq, fNil_eq, gV_eq, List.getElem?_cons_succ, List.getElem?_cons_zero, T.bind_ok, lenW_tup, leW_int, d, blW_bl, Bool.false_eq_true, if_false, sNil_eq]
      exact e
end
end Lw
namespace Lw
open PySem L2 PF Rt
section
variable {p : Int} {sh : List Int} {m : Mail}
theorem mailright_run (hp : Pr p) (hs : Li.Shares sh) (h : MlS p sh m) : F__law_mail_right [.int p, .tup (I sh), mw m] = .ok (.bl true) := by
  have b := hp.b
  have h8 := hs.eight
  have o1 := hs.one
  have hml := h.len
  have nl := nd_len hs
  have hr := hs.room
  have nsum := nd_sum hs
  have pos : ∀ n ∈ ND sh, 1 ≤ n := fun n hn => (nd_b n hn).1
  have st := Li.lstair_run (ns := sh) (by omega) fun x hx => by have := hs.each x hx; omega
  have nr := Li.lneeds_run (ns := sh) (by omega) fun x hx => by have := hs.each x hx; omega
  obtain ⟨z4, z5, e1⟩ := mo_loop hp hs h (PF.intsFrom 0 (2 : Int).toNat) .un .un
  simp only [gMo] at e1
  have rr := read_run hp hs h
  have nd := neL_nil (due p sh m)
  unfold F__law_mail_right
  rw [defF_eq _ _ _ _ rfl]
  simp only [startE, List.map_cons, List.map_nil, List.length_cons, List.length_nil, Nat.reduceAdd, Nat.reduceSub, List.replicate, List.cons_append, List.nil_append, sSeq_eq, sSet_eq, fL_eq, fCons_eq, fNil_eq, gV_eq, List.getElem?_cons_succ, List.getElem?_cons_zero, T.bind_ok, lunfit_run hp hs h, List.set_cons_succ, List.set_cons_zero, sFor_eq, iL_eq, rng1_is (n := 2) (by decide) (by decide), e1]
  cases hd : due p sh m with
  | cons n ns =>
    rw [hd] at rr nd
    have he : ∀ (v3 v4 v5 v6 v7 v8 v9 v10 v11 : Sl), L__law_heard (fL (fCons (gV 0) (fCons (gV 1) (fCons (gV 2) fNil))) F_read) [.val (.int p), .val (.tup (I sh)), .val (mw m), v3, v4, v5, v6, v7, v8, v9, v10, v11] = .ok (.lst [.int n]) := fun _ _ _ _ _ _ _ _ _ => heard_11 (by simp only [fL_eq, fCons_eq, fNil_eq, gV_eq, List.getElem?_cons_succ, List.getElem?_cons_zero, T.bind_ok, rr])
    have ix : ixW (.lst (I (n :: ns))) (.int 0) = .ok (.int n) := by simp [ixW, atI, ixN]
    have ee : eqW (.lst [.int n]) (.lst [.int n]) = .ok (.bl true) := eq_intsL [n]
    simp only [he, T.bind_ok, List.set_cons_succ, List.set_cons_zero, sIf_eq, fBl_eq, f2_eq, fL_eq, fCons_eq, fNil_eq, gV_eq, List.getElem?_cons_succ, List.getElem?_cons_zero, mkLst_eq, sizeOk_nil, sizeOk_1, if_true, neS_lst, nd, List.isEmpty_cons, Bool.not_false, blW_bl, sRet_eq, ix, eqS_lst, ee, endOf]
  | nil =>
    rw [hd] at rr nd
    have rl : ((rd p sh m).length : Int) = sumLe m.length (ND sh) := rd_len hp h h8 (ND sh) 0 pos (by omega)
    have sb := sumLe_b (m := m.length) pos
    have he : ∀ (v3 v4 v5 v6 v7 v8 v9 v10 v11 : Sl), L__law_heard (fL (fCons (gV 0) (fCons (gV 1) (fCons (gV 2) fNil))) F_read) [.val (.int p), .val (.tup (I sh)), .val (mw m), v3, v4, v5, v6, v7, v8, v9, v10, v11] = .ok (TI (rd p sh m)) := fun _ _ _ _ _ _ _ _ _ => heard_ok (by simp only [fL_eq, fCons_eq, fNil_eq, gV_eq, List.getElem?_cons_succ, List.getElem?_cons_zero, T.bind_ok, rr])
    have wa : addW (.tup [.int 0]) (.tup (I (Li.prof 0 0 sh))) = .ok (TI (0 :: Li.prof 0 0 sh)) := addT (xs := [0]) (ys := Li.prof 0 0 sh) (by rw [prof_len]; simp; omega)
    have w1 : ixW (TI (0 :: Li.prof 0 0 sh)) (.int m.length) = .ok (.int (sumLe m.length (ND sh))) := ix_row PF.W.int (whole_at hs hml)
    have w2 : ixW (TI (0 :: Li.prof 0 0 sh)) (.int (-1)) = .ok (.int (ND sh).sum) := (ix_m1 (by rw [List.length_cons, prof_len]; exact whole_end hs)).2
    have zs := zeros (z := (ND sh).sum - (rd p sh m).length) (by omega) (by omega)
    have zr : addW (TI (rd p sh m)) (TI (List.replicate ((ND sh).sum - (rd p sh m).length).toNat 0)) = .ok (TI (rd p sh m ++ List.replicate ((ND sh).sum - (rd p sh m).length).toNat 0)) := addT (by rw [List.length_replicate]; omega)
    have sg : Sg p (rd p sh m ++ List.replicate ((ND sh).sum - (rd p sh m).length).toNat 0) := fun a ha => by
      rcases List.mem_append.mp ha with z | z
      · exact rd_b hp _ _ a z
      · rw [(List.mem_replicate.mp z).2]
        omega
    have ll := llet_run hp hs sg (by rw [List.length_append, List.length_replicate]; omega)
    have fits : ∀ (i : Nat) (n : Int), (ND sh)[i]? = some n → fitB p (pts m i) n = true := fun i n hi => by
      cases hf : fitB p (pts m i) n with
      | true => rfl
      | false =>
        have : n ∈ due p sh m := due_mem.mpr ⟨i, hi, hf⟩
        rw [hd] at this
        cases this
    obtain ⟨u5, u9, e2⟩ := me_loop hp hs h (B := cutL (rd p sh m ++ List.replicate ((ND sh).sum - (rd p sh m).length).toNat 0) (ND sh)) (.val (.lst (I []))) z4 (.val (TI (rd p sh m))) (.val (TI (0 :: Li.prof 0 0 sh))) (ND sh) 0 z5 .un pos (by omega) fun i n hi hn => by
      rw [Nat.zero_add]
      have := rd_cut hp h h8 (List.replicate ((ND sh).sum - (rd p sh m).length).toNat 0) (ND sh) 0 1 (by decide) (needs_asc sh 0) (by omega) hi hn
      rw [Nat.zero_add] at this
      exact ⟨this, fits i n hi⟩
    have en : enL [.lst (I (ND sh))] = .ok (enumF 0 (I (ND sh))) := by simp [enL, isT, enW]
    have lq : (((rd p sh m).length : Int) == sumLe m.length (ND sh)) = true := by
      rw [beq_iff_eq]
      exact rl
    have lr : ((I (rd p sh m)).length : Int) = ((rd p sh m).length : Int) := by rw [List.length_map]
    have lm : (((m.map mq).length : Nat) : Int) = (m.length : Int) := by rw [List.length_map]
    have e2 : forL (goTup 2 (goCons (goName 9) (goCons (goName 5) goNil))) gMe (enumF 0 (I (ND sh))) _ = _ := e2
    simp only [gMe] at e2
    simp only [he, T.bind_ok, List.set_cons_succ, List.set_cons_zero, sIf_eq, fBl_eq, f2_eq, fL_eq, fCons_eq, fNil_eq, gV_eq, List.getElem?_cons_succ, List.getElem?_cons_zero, mkLst_eq, mkTup_eq, sizeOk_nil, sizeOk_1, if_true, neS_lst, nd, List.isEmpty_nil, Bool.not_true, blW_bl, Bool.false_eq_true, if_false, sNil_eq, sSeq_eq, sSet_eq, st, wa, fOr_eq, fNot_eq, fTru_eq, f1_eq, tup_is, truW_bl, lenW_tup, lm, w1, neS_int, lq, negW, w2, lr, subW_int, zs, zr, ll, sFor_eq, iL_eq, nr, en, e2, sRet_eq, endOf]
end
end Lw
namespace Lw
open PySem L2 PF Rt
theorem lot_comp {Q : Nat → List PF.W → Prop} {E : Nat → Nat → List PF.W → Prop} (v1 : Sl) : ∀ (n k d : Nat) (Q : Nat → List PF.W → Prop), n ≤ d → (∀ xs d', xs.Pairwise (· < ·) → (∀ x ∈ xs, (k : Int) ≤ x ∧ x < (k : Int) + n) → xs.length ≤ n → d ≤ d' + n → Q d' (I xs)) → (compL (goName 2) (fBl (f2 eqS (fL (fCons (gV 0) (fCons (fun _ => .ok (.int 2)) fNil)) F__law_draw) (fun _ => .ok (.int 0)))) (gV 2) [.val .stt, v1, .un] ((List.range' k n).map fun (i : Nat) => PF.W.int (i : Int))).AllB Q E d
  | 0, k, d, Q, _, h => h [] d .nil (fun x hx => by cases hx) (by simp) (by omega)
  | n + 1, k, d, Q, hd, h => by
    rw [List.range'_succ, List.map_cons]
    simp only [compL, goName_eq, List.set_cons_succ, List.set_cons_zero, fBl_eq, f2_eq, fL_eq, fCons_eq, fNil_eq, gV_eq, List.getElem?_cons_succ, List.getElem?_cons_zero, T.bind_ok, draw_is (n := 2) (by decide) (by decide), T.bind_ask, noX]
    refine ask_all (by omega) fun i hi => ?_
    have hi : i < 2 := hi
    simp only [T.bind_ok, eqS_int, blW_bl, noX_ok]
    cases hb : ((i : Int) == 0) with
    | false =>
      simp only [Bool.false_eq_true, if_false]
      refine lot_comp (Q := Q) v1 n (k + 1) (d - 1) Q (by omega) fun xs d' h1 h2 h3 h4 => h xs d' h1 (fun x hx => by have := h2 x hx; omega) (by omega) (by omega)
    | true =>
      simp only [if_true, T.bind_ok]
      refine T.allB_bind.mpr (lot_comp (Q := Q) v1 n (k + 1) (d - 1) _ (by omega) fun xs d' h1 h2 h3 h4 => ?_)
      refine h ((k : Int) :: xs) d' (List.pairwise_cons.mpr ⟨fun x hx => by have := h2 x hx; omega, h1⟩) (fun x hx => ?_) (by simp; omega) (by omega)
      rcases List.mem_cons.mp hx with rfl | hx
      · omega
      · have := h2 x hx
        omega
theorem lot_all {L : Nat} (h8 : L ≤ 8) {P : Nat → PF.W → Prop} {E : Nat → Nat → List PF.W → Prop} {d : Nat} (hd : 10 ≤ d) (hP : ∀ xs d', xs.Pairwise (· < ·) → (∀ x ∈ xs, 0 ≤ x ∧ x < (L : Int)) → xs.length ≤ L → d ≤ d' + 10 → P d' (TI xs)) : (F__law_lot [.stt, .int L]).AllB P E d := by
  have hz : sizeOk ((List.range' 0 L).map fun (i : Nat) => PF.W.int (i : Int)) = true := size_small (by simp; omega)
  have e0 : PF.intsFrom 0 L = (List.range' 0 L).map fun (i : Nat) => PF.W.int (i : Int) := by
    rw [← List.range_eq_range']
    refine List.ext_getElem? fun i => ?_
    rw [PF.intsFrom_get]
    by_cases h : i < L <;> simp [h]
  unfold F__law_lot
  rw [defF_eq _ _ _ _ rfl]
  refine T.allB_bind.mpr ?_
  simp only [startE, List.map_cons, List.map_nil, List.length_cons, List.length_nil, Nat.reduceAdd, Nat.reduceSub, List.replicate, List.cons_append, List.nil_append, sRet_eq, fL_eq, fCons_eq, fNil_eq, fComp_eq, iL_eq, gV_eq, List.getElem?_cons_succ, List.getElem?_cons_zero, T.bind_ok, rng1_is (show (0 : Int) ≤ L by omega) (show (L : Int) ≤ 2 ^ 60 by omega), Int.toNat_natCast, e0, hz, if_true, wipeE, List.set_cons_succ, List.set_cons_zero, T.bind_assoc]
  refine T.allB_bind.mpr (lot_comp (Q := fun _ _ => True) _ L 0 d _ (by omega) fun xs d' h1 h2 h3 h4 => ?_)
  simp only [T.bind_ok, tupOfW_lst, endOf]
  exact hP xs d' h1 (fun x hx => by have := h2 x hx; omega) h3 (by omega)
def alE (p : Int) (N n D : Nat) (M : Mail) (ws : List PF.W) (d : Nat) (ρ : En) : Prop := ∃ (dn : Mail) (rest : Mail) (x2 x4 x5 x6 x7 : Sl), ws = rest.map mq ∧ ρ = [.val .stt, .val (.int p), x2, .own (dn.map mq), x4, x5, x6, x7] ∧ dn.map (·.1) ++ rest.map (·.1) = M.map (·.1) ∧ (∀ q ∈ dn, (∀ a ∈ q.2, 0 ≤ a ∧ a < p) ∧ q.2.length = N) ∧ (∀ q ∈ rest, (∀ a ∈ q.2, 0 ≤ a ∧ a < p) ∧ q.2.length = N) ∧ dn.length + rest.length = n ∧ D + 3 * rest.length ≤ d
theorem al_step {p : Int} (hp : Pr p) {N n D : Nat} (hn : n ≤ 8) (hN : N ≤ 100) {M : Mail} {E : Nat → Nat → List PF.W → Prop} (w : PF.W) (ws : List PF.W) (d : Nat) (ρ : En) (h : alE p N n D M (w :: ws) d ρ) : ∃ ρ1, (goTup 2 (goCons (goName 4) (goCons (goName 5) goNil))) w ρ = some ρ1 ∧ ((sSeq (sOwnOf 6 (gV 5)) (sSeq (sIf (onFrzN 6 (fAnd (fBl (f2 neS (gV 6) (fL fNil mkLst))) (fBl (f2 eqS (fL (fCons (gV 0) (fCons (fun _ => .ok (.int 3)) fNil)) F__law_draw) (fun _ => .ok (.int 0)))))) (sSeq (sSet 7 (fL (fCons (gV 0) (fCons (fun ρ => (onFrzN 6 (fL (fCons (gV 6) fNil) lenW) ρ).bind flat) fNil)) F__law_draw)) (sAt 6 (gV 7) (f2 modW (fL (fCons (f2 addW (f2 addW (fun ρ => (onFrzN 6 (f2 ixW (gV 6) (gV 7)) ρ).bind flat) (fun _ => .ok (.int 1))) (fL (fCons (gV 0) (fCons (f2 subW (gV 1) (fun _ => .ok (.int 1))) fNil)) F__law_draw)) fNil) intW) (gV 1)))) sNil) (onFrz 6 (sApp 3 (fCons (fL (fCons (gV 4) (fCons (fL (fCons (gV 6) fNil) tupOfW) fNil)) mkTup) fNil))))) ρ1).AllB (fun d x => ∃ ρ2, x = (.nx, ρ2) ∧ alE p N n D M ws d ρ2) E d := by
  obtain ⟨dn, rest, x2, x4, x5, x6, x7, hw, rfl, h1, h2, h3, h4, h5⟩ := h
  cases rest with
  | nil => cases hw
  | cons q rest =>
    rw [List.map_cons] at hw
    injection hw with hw1 hw2
    subst hw1
    subst hw2
    have b := hp.b
    rw [List.length_cons] at h4 h5
    obtain ⟨qs, ql⟩ := h3 q (List.mem_cons_self ..)
    refine ⟨_, rfl, ?_⟩
    have rk : roomOk (dn.map mq) = true := room_is (by simp; omega)
    have fin : ∀ (l : List Int) (x7 : Sl) (d' : Nat), (∀ a ∈ l, 0 ≤ a ∧ a < p) → l.length = N → D + 3 * rest.length ≤ d' → T.AllB (fun d x => ∃ ρ2, x = (Fl.nx, ρ2) ∧ alE p N n D M (rest.map mq) d ρ2) E d' (T.ok (Fl.nx, [.val .stt, .val (.int p), x2, .own (dn.map mq ++ [mq (q.1, l)]), .val (.int q.1), .val (TI q.2), .val (.lst (I l)), x7])) := fun l x7 d' g1 g2 g3 => by
      refine ⟨_, rfl, dn ++ [(q.1, l)], rest, _, _, _, _, _, rfl, by rw [List.map_append]; rfl, ?_, fun r hr => ?_, fun r hr => h3 r (List.mem_cons_of_mem _ hr), by simp; omega, g3⟩
      · rw [← h1]
        simp
      · rcases List.mem_append.mp hr with hr | hr
        · exact h2 r hr
        · rw [List.mem_singleton.mp hr]
          exact ⟨g1, g2⟩
    have nn := neL_nil q.2
    simp only [goTup, sSeq_eq, sOwnOf, seqW, gV_eq, List.set_cons_succ, List.set_cons_zero, List.getElem?_cons_succ, List.getElem?_cons_zero, T.bind_ok, sIf_eq, onFrzN, frz, fAnd_eq, fBl_eq, f2_eq, fL_eq, fCons_eq, fNil_eq, mkLst_eq, sizeOk_nil, if_true, neS_lst, nn, blW_bl]
    cases hq2 : q.2 with
    | nil =>
      simp only [List.isEmpty_nil, Bool.not_true, Bool.false_eq_true, if_false, noX_ok, T.bind_ok, sNil_eq, onFrz, frz, List.getElem?_cons_succ, List.getElem?_cons_zero, List.set_cons_succ, List.set_cons_zero, sApp, fCons_eq, fNil_eq, fL_eq, gV_eq, tupOfW_lst, mkTup_eq, sizeOk_2, if_true, rk]
      have z := fin [] x7 d (by simp) (by rw [← ql, hq2]) (by omega)
      rw [hq2] at z
      exact z
    | cons c cs =>
      have hl : (c :: cs).length = N := by rw [← hq2]; exact ql
      have hl0 : 1 ≤ (c :: cs).length := by simp
      have qs' : ∀ a ∈ c :: cs, 0 ≤ a ∧ a < p := by rw [← hq2]; exact qs
      rw [hq2] at fin
      have hne : (c :: cs).isEmpty = false := rfl
      generalize c :: cs = l at fin hl hl0 qs' hne ⊢
      simp only [hne, Bool.not_false, if_true, draw_is (n := 3) (by decide) (by decide), T.bind_ask, noX]
      refine ask_all (by omega) fun i hi => ?_
      simp only [T.bind_ok, eqS_int, blW_bl, noX_ok]
      cases hb : ((i : Int) == 0) with
      | false =>
        simp only [Bool.false_eq_true, if_false, T.bind_ok, sNil_eq, onFrz, frz, List.getElem?_cons_succ, List.getElem?_cons_zero, List.set_cons_succ, List.set_cons_zero, sApp, fCons_eq, fNil_eq, fL_eq, gV_eq, tupOfW_lst, mkTup_eq, sizeOk_2, if_true, rk]
        exact fin l x7 _ qs' hl (by omega)
      | true =>
        have hl2 : ((I l).length : Int) = (l.length : Int) := by rw [List.length_map]
        simp only [if_true, sSet_eq, fL_eq, fCons_eq, fNil_eq, gV_eq, List.getElem?_cons_succ, List.getElem?_cons_zero, List.set_cons_succ, List.set_cons_zero, T.bind_ok, lenW_lst, noX_ok, flat, hl2, draw_is (n := (l.length : Int)) (by omega) (by omega), T.bind_ask]
        refine ask_all (by omega) fun j hj => ?_
        have hj : j < l.length := by omega
        have aj : l[j]? = some l[j] := List.getElem?_eq_getElem hj
        have ix : ixW (.lst (I l)) (.int j) = .ok (.int l[j]) := by
          simp only [ixW, atI, List.length_map, ixN_nat hj, Option.bind_some, List.getElem?_map, aj, Option.map_some]
        have nx : ixN (I l).length (j : Int) = some j := ixN_nat (by rw [List.length_map]; exact hj)
        have lj := qs' l[j] (List.getElem_mem hj)
        simp only [sAt, f2_eq, fL_eq, fCons_eq, fNil_eq, gV_eq, List.getElem?_cons_succ, List.getElem?_cons_zero, List.set_cons_succ, List.set_cons_zero, T.bind_ok, ix, noX_ok, flat, addW_int, subW_int, draw_is (n := p - 1) (by omega) (by omega), T.bind_ask]
        refine ask_all (by omega) fun k hk => ?_
        have p0 : decide (0 < p) = true := decide_eq_true (by omega)
        have st : (I l).set j (.int ((l[j] + 1 + (k : Int)) % p)) = I (l.set j ((l[j] + 1 + (k : Int)) % p)) := (List.map_set ..).symm
        simp only [T.bind_ok, addW_int, intW, modW_int, p0, Bool.false_eq_true, if_false, nx, List.set_cons_succ, List.set_cons_zero, st, onFrz, frz, List.getElem?_cons_succ, List.getElem?_cons_zero, sApp, fCons_eq, fNil_eq, fL_eq, gV_eq, tupOfW_lst, mkTup_eq, sizeOk_2, if_true, rk]
        refine fin (l.set j ((l[j] + 1 + (k : Int)) % p)) _ (d - 1 - 1 - 1) (fun a ha => ?_) (by rw [List.length_set]; exact hl) (by omega)
        rcases List.mem_or_eq_of_mem_set ha with ha | ha
        · exact qs' a ha
        · rw [ha]
          exact ⟨Int.emod_nonneg _ (by omega), Int.emod_lt_of_pos _ (by omega)⟩
end Lw
namespace Lw
open PySem L2 PF Rt
mutual
def IT : PF.W → Bool
  | .int _ => true
  | .tup ws => ITs ws
  | .lst ws => ITs ws
  | _ => false
def ITs : List PF.W → Bool
  | [] => true
  | w :: ws => IT w && ITs ws
end
mutual
theorem it_eq : ∀ (x y : PF.W) (d e : PyData), IT x = true → IT y = true → x.toD = some d → y.toD = some e → (PyData.eqv d e = true ↔ x = y)
  | .int i, .int j, d, e, _, _, h1, h2 => by
    cases h1
    cases h2
    simp [PyData.eqv]
  | .int i, .tup us, d, e, _, _, h1, h2 => by
    cases h1
    obtain ⟨es, g, rfl⟩ := PF.toD_tup h2
    simp [PyData.eqv]
  | .int i, .lst us, d, e, _, _, h1, h2 => by
    cases h1
    obtain ⟨es, g, rfl⟩ := PF.toD_lst h2
    simp [PyData.eqv]
  | .tup ws, .int j, d, e, _, _, h1, h2 => by
    cases h2
    obtain ⟨ds, g, rfl⟩ := PF.toD_tup h1
    simp [PyData.eqv]
  | .lst ws, .int j, d, e, _, _, h1, h2 => by
    cases h2
    obtain ⟨ds, g, rfl⟩ := PF.toD_lst h1
    simp [PyData.eqv]
  | .tup ws, .tup us, d, e, hx, hy, h1, h2 => by
    obtain ⟨ds, g1, rfl⟩ := PF.toD_tup h1
    obtain ⟨es, g2, rfl⟩ := PF.toD_tup h2
    have := its_eq ws us ds es hx hy g1 g2
    simp [PyData.eqv, this]
  | .lst ws, .lst us, d, e, hx, hy, h1, h2 => by
    obtain ⟨ds, g1, rfl⟩ := PF.toD_lst h1
    obtain ⟨es, g2, rfl⟩ := PF.toD_lst h2
    have := its_eq ws us ds es hx hy g1 g2
    simp [PyData.eqv, this]
  | .tup ws, .lst us, d, e, hx, hy, h1, h2 => by
    obtain ⟨ds, g1, rfl⟩ := PF.toD_tup h1
    obtain ⟨es, g2, rfl⟩ := PF.toD_lst h2
    simp [PyData.eqv]
  | .lst ws, .tup us, d, e, hx, hy, h1, h2 => by
    obtain ⟨ds, g1, rfl⟩ := PF.toD_lst h1
    obtain ⟨es, g2, rfl⟩ := PF.toD_tup h2
    simp [PyData.eqv]
theorem its_eq : ∀ (xs ys : List PF.W) (ds es : List PyData), ITs xs = true → ITs ys = true → toDs xs = some ds → toDs ys = some es → (PyData.eqvAll ds es = true ↔ xs = ys)
  | [], [], ds, es, _, _, h1, h2 => by
    cases h1
    cases h2
    simp [PyData.eqvAll]
  | [], y :: ys, ds, es, _, _, h1, h2 => by
    cases h1
    unfold toDs at h2
    split at h2
    · cases h2
      simp [PyData.eqvAll]
    · cases h2
  | x :: xs, [], ds, es, _, _, h1, h2 => by
    cases h2
    unfold toDs at h1
    split at h1
    · cases h1
      simp [PyData.eqvAll]
    · cases h1
  | x :: xs, y :: ys, ds, es, hx, hy, h1, h2 => by
    unfold toDs at h1 h2
    unfold ITs at hx hy
    simp only [Bool.and_eq_true] at hx hy
    split at h1
    · rename_i d ds' a1 a2
      split at h2
      · rename_i e es' b1 b2
        cases h1
        cases h2
        simp only [PyData.eqvAll, Bool.and_eq_true, it_eq x y d e hx.1 hy.1 a1 b1, its_eq xs ys ds' es' hx.2 hy.2 a2 b2, List.cons.injEq]
      · cases h2
    · cases h1
end
theorem eqO_it {n : Nat} {x y : PF.W} (hx : IT x = true) (hy : IT y = true) (lx : low n x) (ly : low n y) (hn : n ≤ 64) : ∃ b, eqO x y = some b ∧ (b = true ↔ x = y) := by
  obtain ⟨d, h1, h2, h3⟩ := lx
  obtain ⟨e, g1, g2, g3⟩ := ly
  have s1 : SeqAt.shaped d = true := by
    unfold SeqAt.shaped
    rw [h2, decide_eq_true (by omega)]
    rfl
  have s2 : SeqAt.shaped e = true := by
    unfold SeqAt.shaped
    rw [g2, decide_eq_true (by omega)]
    rfl
  refine ⟨PyData.eqv d e, ?_, it_eq x y d e hx hy h1 g1⟩
  unfold eqO
  rw [h1, g1]
  simp only [s1, s2, Bool.and_self, if_true]
theorem ITs_of {ws : List PF.W} (h : ∀ w ∈ ws, IT w = true) : ITs ws = true := by
  induction ws with
  | nil => rfl
  | cons w ws ih =>
    unfold ITs
    rw [h w (List.mem_cons_self ..), ih fun x hx => h x (List.mem_cons_of_mem _ hx)]
    rfl
theorem IT_ints (ns : List Int) : ITs (ns.map PF.W.int) = true := ITs_of fun w hw => by
  obtain ⟨i, _, rfl⟩ := List.mem_map.mp hw
  rfl
theorem mess_len {p : Int} (hp : Pr p) {k : Nat} (hk : k ≤ 96) {P : Nat → PF.W → Prop} {E : Nat → Nat → List PF.W → Prop} {d : Nat} (hd : 100 ≤ d) (hP : ∀ as d', Sg p as → as.length = k → d ≤ d' + 100 → P d' (.tup (I as))) : (F__law_message [.stt, .int p, .int k]).AllB P E d := by
  have b := hp.b
  have hz : sizeOk (PF.intsFrom 0 k) = true := size_small (by rw [PF.intsFrom_length]; omega)
  have e0 : PF.intsFrom 0 k = (List.range k).map fun (i : Nat) => PF.W.int (i : Int) := by
    refine List.ext_getElem? fun i => ?_
    rw [PF.intsFrom_get]
    by_cases h : i < k <;> simp [h]
  unfold F__law_message
  rw [defF_eq _ _ _ _ rfl]
  refine T.allB_bind.mpr ?_
  simp only [startE, List.map_cons, List.map_nil, List.length_cons, List.length_nil, Nat.reduceAdd, Nat.reduceSub, List.replicate, List.cons_append, List.nil_append, sRet_eq, fL_eq, fCons_eq, fNil_eq, fComp_eq, iL_eq, gV_eq, List.getElem?_cons_succ, List.getElem?_cons_zero, T.bind_ok, rng1_is (show (0 : Int) ≤ k by omega) (show (k : Int) ≤ 2 ^ 60 by omega), Int.toNat_natCast, hz, if_true, wipeE, List.set_cons_succ, List.set_cons_zero, T.bind_assoc]
  rw [e0]
  refine T.allB_bind.mpr (compL_ints (fun _ x => 0 ≤ x ∧ x < p) 1 (fun a ha => ⟨_, rfl, rfl, fun Q d hd hQ => ?_⟩) (by omega) fun f d' hf hd' => ?_)
  · simp only [fL_eq, fCons_eq, fNil_eq, gV_eq, goName_eq, List.set_cons_succ, List.set_cons_zero, List.getElem?_cons_succ, List.getElem?_cons_zero, T.bind_ok, draw_is (n := p) (by omega) (by omega)]
    refine ask_all (by omega) fun i hi => ?_
    exact hQ i (d - 1) ⟨by omega, by omega⟩ (by omega)
  · have e : (List.range k).map (fun i => PF.W.int (f i)) = I ((List.range k).map f) := by simp [I, List.map_map, Function.comp_def]
    simp only [T.bind_ok, tupOfW_lst, endOf, e]
    refine hP _ d' (fun a ha => ?_) (by simp) (by omega)
    obtain ⟨i, hi, rfl⟩ := List.mem_map.mp ha
    exact hf i (List.mem_range.mp hi)
section
variable {p : Int} {sh : List Int} {m m' : Mail}
theorem ml_same (h : MlS p sh m) (hn : m'.map (·.1) = m.map (·.1)) (hq : ∀ q ∈ m', (∀ a ∈ q.2, 0 ≤ a ∧ a < p) ∧ q.2.length = (ND sh).length) : MlS p sh m' := by
  have hl : m'.length = m.length := by
    have := congrArg List.length hn
    simpa using this
  refine ⟨by rw [hl]; exact h.len, fun q hm => ⟨?_, hq q hm⟩, by rw [hn]; exact h.rise⟩
  have : q.1 ∈ m.map (·.1) := by
    rw [← hn]
    exact List.mem_map.mpr ⟨q, hm, rfl⟩
  obtain ⟨r, hr, e⟩ := List.mem_map.mp this
  rw [← e]
  exact (h.each r hr).1
theorem altered_all (hp : Pr p) (hs : Li.Shares sh) (h : MlS p sh m) {P : Nat → PF.W → Prop} {E : Nat → Nat → List PF.W → Prop} {d : Nat} (hd : 30 ≤ d) (hP : ∀ m' d', MlS p sh m' → m'.map (·.1) = m.map (·.1) → d ≤ d' + 30 → P d' (mw m')) : (F__law_altered [.stt, .int p, mw m]).AllB P E d := by
  have h8 := hs.eight
  have nl := nd_len hs
  have hr := hs.room
  have hml := h.len
  unfold F__law_altered
  rw [defF_eq _ _ _ _ rfl]
  refine T.allB_bind.mpr ?_
  simp only [startE, List.map_cons, List.map_nil, List.length_cons, List.length_nil, Nat.reduceAdd, Nat.reduceSub, List.replicate, List.cons_append, List.nil_append, sSeq_eq, sOwn, fNil_eq, T.bind_ok, sizeOk_nil, if_true, List.set_cons_succ, List.set_cons_zero, sFor_eq, iOf_eq, gV_eq, List.getElem?_cons_succ, List.getElem?_cons_zero, tupW]
  refine T.allB_bind.mpr ?_
  have i0 : alE p (ND sh).length m.length (d - 30) m (m.map mq) d [.val .stt, .val (.int p), .val (mw m), .own [], .un, .un, .un, .un] := ⟨[], m, _, _, _, _, _, rfl, rfl, rfl, fun q hq => (by cases hq), fun q hq => (h.each q hq).2, by simp, by omega⟩
  have key := forL_all (E := E) (alE p (ND sh).length m.length (d - 30) m) (al_step hp (by omega) (by omega)) (m.map mq) d _ i0
  refine T.AllB.imp (fun d1 x hx => ?_) (fun _ _ _ y => y) key
  obtain ⟨ρ2, ex, dn, rest, x2, x4, x5, x6, x7, hw, eρ, a1, a2, a3, a4, a5⟩ := hx
  rw [ex, eρ]
  cases rest with
  | cons q r => cases hw
  | nil =>
    clear key i0
    simp only [onFrz, frz, List.getElem?_cons_succ, List.getElem?_cons_zero, List.set_cons_succ, List.set_cons_zero, sRet_eq, fL_eq, fCons_eq, fNil_eq, gV_eq, T.bind_ok, tupOfW_lst, endOf]
    rw [List.map_nil, List.append_nil] at a1
    exact hP dn d1 (ml_same h a1 a2) a1 (by simp at a5; omega)
theorem noX_of {α : Type} {P : Nat → α → Prop} {E : Nat → Nat → List PF.W → Prop} : ∀ {t : T α} {d : Nat}, t.AllB P (fun _ _ _ => False) d → (noX t).AllB P E d
  | .ok a, d, h => h
  | .exc _ _, d, h => h.elim
  | .bad, _, h => h
  | .ask n k, d, h => by
    obtain ⟨e, he, x⟩ := h
    exact ⟨e, he, fun i hi => noX_of (x i hi)⟩
theorem all2_mail {N : Nat} : ∀ {as : Mail} {ws : List PF.W}, All2 (fun (q : Int × List Int) w => ∃ l : List Int, w = mq (q.1, l) ∧ (∀ a ∈ l, 0 ≤ a ∧ a < p) ∧ l.length = N) as ws → ∃ m' : Mail, ws = m'.map mq ∧ m'.map (·.1) = as.map (·.1) ∧ ∀ q ∈ m', (∀ a ∈ q.2, 0 ≤ a ∧ a < p) ∧ q.2.length = N
  | _, _, .nil => ⟨[], rfl, rfl, fun q hq => (by cases hq)⟩
  | _, _, .cons (a := a) h r => by
    obtain ⟨l, rfl, h1, h2⟩ := h
    obtain ⟨m', rfl, e, hq⟩ := all2_mail r
    refine ⟨(a.1, l) :: m', rfl, by simp [e], fun q hm => ?_⟩
    rcases List.mem_cons.mp hm with rfl | hm
    · exact ⟨h1, h2⟩
    · exact hq q hm
theorem it_mq (a : Int × List Int) : IT (mq a) = true := by
  show (IT (.int a.1) && ITs [TI a.2]) = true
  show (ITs (I a.2) && true) = true
  rw [IT_ints]
  rfl
theorem lo_mq (a : Int × List Int) : low 3 (mq a) := low_tup fun w hw => by
  rcases List.mem_cons.mp hw with rfl | hw
  · obtain ⟨d, h1, h2, h3⟩ := low_int a.1
    exact ⟨d, h1, h2, by omega⟩
  · rw [List.mem_singleton.mp hw]
    exact low_ints a.2
theorem mq_inj {a b : Int × List Int} (h : mq a = mq b) : a = b := by
  obtain ⟨a1, a2⟩ := a
  obtain ⟨b1, b2⟩ := b
  simp only [mq, PF.W.tup.injEq, List.cons.injEq, PF.W.int.injEq, and_true] at h
  obtain ⟨rfl, h⟩ := h
  have : a2 = b2 := (List.map_inj_right (f := PF.W.int) fun x y e => by injection e).mp h
  rw [this]
theorem ne_mq (a b : Int × List Int) : neS (mq a) (mq b) = .ok (.bl !decide (a = b)) := by
  obtain ⟨r, h1, h2⟩ := eqO_it (it_mq a) (it_mq b) (lo_mq a) (lo_mq b) (by decide)
  have : r = decide (a = b) := by
    by_cases e : a = b
    · rw [decide_eq_true e]
      exact h2.mpr (by rw [e])
    · rw [decide_eq_false e]
      cases r with
      | false => rfl
      | true => exact absurd (mq_inj (h2.mp rfl)) e
  show neW (mq a) (mq b) = _
  unfold neW
  rw [h1, this]
theorem eq_il (xs ys : List Int) : eqS (.lst (I xs)) (.lst (I ys)) = .ok (.bl (decide (xs = ys))) := by
  obtain ⟨r, h1, h2⟩ := eqO_it (x := .lst (I xs)) (y := .lst (I ys)) (IT_ints xs) (IT_ints ys) (low_intsL xs) (low_intsL ys) (by decide)
  have : r = decide (xs = ys) := by
    by_cases e : xs = ys
    · rw [decide_eq_true e]
      exact h2.mpr (by rw [e])
    · rw [decide_eq_false e]
      cases r with
      | false => rfl
      | true =>
        have z := h2.mp rfl
        simp only [PF.W.lst.injEq] at z
        exact absurd ((List.map_inj_right (f := PF.W.int) fun x y e => by injection e).mp z) e
  show eqW _ _ = _
  unfold eqW
  rw [h1, this]
theorem eq_it' (xs ys : List Int) : eqS (.tup (I xs)) (.tup (I ys)) = .ok (.bl (decide (xs = ys))) := by
  obtain ⟨r, h1, h2⟩ := eqO_it (x := .tup (I xs)) (y := .tup (I ys)) (IT_ints xs) (IT_ints ys) (low_ints xs) (low_ints ys) (by decide)
  have : r = decide (xs = ys) := by
    by_cases e : xs = ys
    · rw [decide_eq_true e]
      exact h2.mpr (by rw [e])
    · rw [decide_eq_false e]
      cases r with
      | false => rfl
      | true =>
        have z := h2.mp rfl
        simp only [PF.W.tup.injEq] at z
        exact absurd ((List.map_inj_right (f := PF.W.int) fun x y e => by injection e).mp z) e
  show eqW _ _ = _
  unfold eqW
  rw [h1, this]
theorem zip_mq : ∀ (m m' : Mail), zipF (m.map mq) (m'.map mq) = (m.zip m').map fun q => PF.W.tup [mq q.1, mq q.2]
  | [], m' => by simp [zipF]
  | q :: m, [] => by simp [zipF]
  | q :: m, q' :: m' => by
    have := zip_mq m m'
    simp [zipF, this]
end
end Lw
namespace Lw
open PySem L2 PF Rt
section
variable {p : Int} {sh ms : List Int}
abbrev lotM (p : Int) (sh ms xs : List Int) : Mail := xs.map fun x => (x, laidL p (cutL ms (ND sh)) x)
abbrev lets (p : Int) (sh ms : List Int) : List PF.W := (List.range sh.length).map fun (i : Nat) => TI (laidL p (cutL ms (ND sh)) i)
theorem lot_ml (hp : Pr p) (hs : Li.Shares sh) {xs : List Int} (h1 : xs.Pairwise (· < ·)) (h2 : ∀ x ∈ xs, 0 ≤ x ∧ x < (sh.length : Int)) (h3 : xs.length ≤ sh.length) : MlS p sh (lotM p sh ms xs) := by
  have b := hp.b
  refine ⟨by rw [List.length_map]; exact h3, fun q hq => ?_, ?_⟩
  · obtain ⟨x, hx, rfl⟩ := List.mem_map.mp hq
    refine ⟨h2 x hx, fun a ha => ?_, ?_⟩
    · obtain ⟨y, hy, rfl⟩ := List.mem_map.mp ha
      exact hor_b (p := p) (by omega) _
    · show (laidL p (cutL ms (ND sh)) x).length = _
      unfold laidL
      rw [List.length_map, cutL_len]
  · have : (lotM p sh ms xs).map (·.1) = xs := by simp [lotM, List.map_map, Function.comp_def]
    rw [this]
    exact h1
theorem nd_cut (hs : Li.Shares sh) (hm : Sg p ms) (hl : (ms.length : Int) = (ND sh).sum) (i : Nat) (n : Int) (hi : (ND sh)[i]? = some n) : ∃ b, (cutL ms (ND sh))[i]? = some b ∧ (b.length : Int) = n ∧ ∀ a ∈ b, 0 ≤ a ∧ a < p := by
  obtain ⟨b, h1, h2, h3⟩ := cut_at (ND sh) ms (fun n hn => by have := nd_b n hn; omega) hl hi
  exact ⟨b, h1, h2, fun a ha => hm a (h3 a ha)⟩
theorem lot_due (hp : Pr p) (hs : Li.Shares sh) (hm : Sg p ms) (hl : (ms.length : Int) = (ND sh).sum) {xs : List Int} (h : MlS p sh (lotM p sh ms xs)) : due p sh (lotM p sh ms xs) = [] := by
  refine List.eq_nil_iff_forall_not_mem.mpr fun x hx => ?_
  obtain ⟨i, hi, hf⟩ := due_mem.mp hx
  obtain ⟨b, h1, h2, h3⟩ := nd_cut hs hm hl i x hi
  have hk : i < (ND sh).length := (List.getElem?_eq_some_iff.mp hi).1
  have := (mess_fit hp h hs.eight (B := cutL ms (ND sh)) (fun q hq => by
    obtain ⟨y, _, rfl⟩ := List.mem_map.mp hq
    rfl) hk (nd_b x (List.mem_of_getElem? hi)).1 h1 h2 h3).2
  rw [this] at hf
  cases hf
theorem lot_rd (hp : Pr p) (hs : Li.Shares sh) (hm : Sg p ms) (hl : (ms.length : Int) = (ND sh).sum) {xs : List Int} (h : MlS p sh (lotM p sh ms xs)) : rd p sh (lotM p sh ms xs) = ms.take (sumLe (lotM p sh ms xs).length (ND sh)).toNat :=
  mess_rd hp h hs.eight (B := cutL ms (ND sh)) (fun q hq => by
    obtain ⟨y, _, rfl⟩ := List.mem_map.mp hq
    rfl) (ND sh) ms 0 1 (by decide) (needs_asc sh 0) (by omega) hl hm fun i => by rw [Nat.zero_add]
theorem odd_all (hp : Pr p) (hs : Li.Shares sh) {m : Mail} (h : MlS p sh m) {ρ : En} (hρ : ρ[0]? = some (.val .stt) ∧ ρ[1]? = some (.val (.int p)) ∧ ρ.length = 17) {P : Nat → List PF.W → Prop} {E : Nat → Nat → List PF.W → Prop} {d : Nat} (hd : 1000 ≤ d) (hP : ∀ m' d', MlS p sh m' → d ≤ d' + 1000 → P d' (m'.map mq)) :
    (compL (goTup 2 (goCons (goName 15) (goCons (goName 16) goNil))) fYes (fL (fCons (gV 15) (fCons (fL (fCons (gV 0) (fCons (gV 1) (fCons (fL (fCons (gV 16) fNil) lenW) fNil))) F__law_message) fNil)) mkTup) ρ (m.map mq)).AllB P E d := by
  have nl := nd_len hs
  have hr := hs.room
  have hml := h.len
  have h8 := hs.eight
  refine compL_draw (R := fun (q : Int × List Int) w => ∃ l : List Int, w = mq (q.1, l) ∧ (∀ a ∈ l, 0 ≤ a ∧ a < p) ∧ l.length = (ND sh).length) 100 mq m (fun q hq => ?_) (by omega) fun ws d' hw hd' => ?_
  · refine ⟨_, rfl, rfl, fun Q d hd hQ => noX_of ?_⟩
    have e0 : ((ρ.set 15 (.val (.int q.1))).set 16 (.val (TI q.2)))[0]? = some (.val .stt) := by rw [List.getElem?_set_ne (by decide), List.getElem?_set_ne (by decide)]; exact hρ.1
    have e1 : ((ρ.set 15 (.val (.int q.1))).set 16 (.val (TI q.2)))[1]? = some (.val (.int p)) := by rw [List.getElem?_set_ne (by decide), List.getElem?_set_ne (by decide)]; exact hρ.2.1
    have e15 : ((ρ.set 15 (.val (.int q.1))).set 16 (.val (TI q.2)))[15]? = some (.val (.int q.1)) := by rw [List.getElem?_set_ne (by decide), List.getElem?_set_self (by rw [hρ.2.2]; decide)]
    have e16 : ((ρ.set 15 (.val (.int q.1))).set 16 (.val (TI q.2)))[16]? = some (.val (TI q.2)) := by rw [List.getElem?_set_self (by rw [List.length_set, hρ.2.2]; decide)]
    have hql := (h.each q hq).2.2
    have lq : ((I q.2).length : Int) = ((ND sh).length : Int) := by rw [List.length_map, hql]
    simp only [fL_eq, fCons_eq, fNil_eq, gV_eq, e0, e1, e15, e16, T.bind_ok, lenW_tup, lq, T.bind_assoc]
    refine T.allB_bind.mpr (mess_len hp (by omega) (by omega) fun as d1 ha hl hd1 => ?_)
    simp only [T.bind_ok, mkTup_eq, sizeOk_2, if_true]
    exact hQ _ d1 ⟨as, rfl, ha, hl⟩ hd1
  · obtain ⟨m', rfl, e, hq⟩ := all2_mail hw
    exact hP m' d' (ml_same h e hq) (by omega)
end
end Lw
namespace Lw
open PySem L2 PF Rt
section
variable {p : Int} {sh ms : List Int}
def mrE (p : Int) (sh ms : List Int) (D : Nat) (ws : List PF.W) (d : Nat) (ρ : En) : Prop := ∃ x6 x7 x8 x9 x10 x11, ρ = [.val .stt, .val (.int p), .val (.tup (I sh)), .val (TI (0 :: Li.prof 0 0 sh)), .val (TI ms), .val (.tup (lets p sh ms)), x6, x7, x8, x9, x10, x11, .un, .un, .un, .un, .un] ∧ D + 1100 * ws.length ≤ d
theorem mr_step (hp : Pr p) (hs : Li.Shares sh) (hm : Sg p ms) (hl : (ms.length : Int) = (ND sh).sum) {D : Nat} {E : Nat → Nat → List PF.W → Prop} (w : PF.W) (ws : List PF.W) (d : Nat) (ρ : En) (h : mrE p sh ms D (w :: ws) d ρ) : ∃ ρ1, goName 6 w ρ = some ρ1 ∧ ((sSeq (sSet 7 (fL (fCons (fComp [13] (iOf tupW (fL (fCons (gV 0) (fCons (fL (fCons (gV 2) fNil) lenW) fNil)) F__law_lot)) (goName 13) fYes (fL (fCons (gV 13) (fCons (f2 ixW (gV 5) (gV 13)) fNil)) mkTup)) fNil) tupOfW)) (sSeq (sIf (fBl (f2 neS (fL (fCons (gV 1) (fCons (gV 2) (fCons (gV 7) fNil))) F_read) (fSl (gV 4) pNo (pSome (f2 ixW (gV 3) (fL (fCons (gV 7) fNil) lenW)))))) (sRet (fun _ => .ok (.bl false))) sNil) (sSeq (sSet 8 (fL (fCons (gV 0) (fCons (gV 1) (fCons (gV 7) fNil))) F__law_altered)) (sSeq (sIf (fOr (fNot (fTru (fL (fCons (gV 1) (fCons (gV 2) (fCons (gV 7) fNil))) F__law_mail_right))) (fNot (fTru (fL (fCons (gV 1) (fCons (gV 2) (fCons (gV 8) fNil))) F__law_mail_right)))) (sRet (fun _ => .ok (.bl false))) sNil) (sSeq (sSet 9 (fL (fCons (fComp [13, 14] (iL zpW (fCons (gV 7) (fCons (gV 8) fNil))) (goTup 2 (goCons (goName 13) (goCons (goName 14) goNil))) (fBl (f2 neS (gV 13) (gV 14))) (fun _ => .ok (.int 1))) fNil) lenW)) (sSeq (sSet 10 (fComp [12] (iOf lstW (fL (fCons (gV 2) fNil) F__law_needs)) (goName 12) (fBl (f2 leW (gV 12) (f2 subW (fL (fCons (gV 7) fNil) lenW) (gV 9)))) (gV 12))) (sSeq (sIf (fAnd (fBl (f2 gtW (gV 9) (fun _ => .ok (.int 0)))) (fAnd (fBl (f2 eqS (gV 10) (fL (fCons (gV 2) fNil) F__law_needs))) (fBl (f2 eqS (fL (fCons (gV 1) (fCons (gV 2) (fCons (gV 8) fNil))) F_unfit_needs) (fL fNil mkTup))))) (sRet (fun _ => .ok (.bl false))) sNil) (sSeq (sSet 11 (fL (fCons (fComp [15, 16] (iOf tupW (gV 7)) (goTup 2 (goCons (goName 15) (goCons (goName 16) goNil))) fYes (fL (fCons (gV 15) (fCons (fL (fCons (gV 0) (fCons (gV 1) (fCons (fL (fCons (gV 16) fNil) lenW) fNil))) F__law_message) fNil)) mkTup)) fNil) tupOfW)) (sIf (fNot (fTru (fL (fCons (gV 1) (fCons (gV 2) (fCons (gV 11) fNil))) F__law_mail_right))) (sRet (fun _ => .ok (.bl false))) sNil))))))))) ρ1).AllB (fun d x => ∃ ρ2, x = (.nx, ρ2) ∧ mrE p sh ms D ws d ρ2) E d := by
  obtain ⟨x6, x7, x8, x9, x10, x11, rfl, hd⟩ := h
  rw [List.length_cons] at hd
  refine ⟨_, rfl, ?_⟩
  have h8 := hs.eight
  have nl := nd_len hs
  have hr := hs.room
  have nsum := nd_sum hs
  have pos : ∀ n ∈ ND sh, 1 ≤ n := fun n hn => (nd_b n hn).1
  have hL : ((I sh).length : Int) = (sh.length : Int) := by rw [List.length_map]
  have nr := Li.lneeds_run (ns := sh) (by omega) fun x hx => by have := hs.each x hx; omega
  simp only [List.set_cons_succ, List.set_cons_zero, sSeq_eq, sSet_eq, fL_eq, fCons_eq, fNil_eq, fComp_eq, iOf_eq, gV_eq, List.getElem?_cons_succ, List.getElem?_cons_zero, T.bind_ok, lenW_tup, hL, T.bind_assoc]
  refine T.allB_bind.mpr (lot_all h8 (by omega) fun xs d1 hx1 hx2 hx3 hd1 => ?_)
  have ml := lot_ml (ms := ms) hp hs hx1 hx2 hx3
  have du := lot_due hp hs hm hl ml
  have rdm := lot_rd hp hs hm hl ml
  have rr := read_run hp hs ml
  rw [du, rdm] at rr
  have hz : sizeOk (I xs) = true := size_small (by rw [List.length_map]; omega)
  have c : compL (goName 13) fYes (fL (fCons (gV 13) (fCons (f2 ixW (gV 5) (gV 13)) fNil)) mkTup) [.val .stt, .val (.int p), .val (.tup (I sh)), .val (TI (0 :: Li.prof 0 0 sh)), .val (TI ms), .val (.tup (lets p sh ms)), .val w, x7, x8, x9, x10, x11, .un, .un, .un, .un, .un] (I xs) = .ok (xs.map fun x => mq (x, laidL p (cutL ms (ND sh)) x)) := by
    refine compL_map _ _ _ fun x hx => ⟨_, rfl, rfl, ?_⟩
    have xb := hx2 x hx
    have i1 : ixW (.tup (lets p sh ms)) (.int x) = .ok (TI (laidL p (cutL ms (ND sh)) x)) := by
      have := ix_row (fun (i : Nat) => TI (laidL p (cutL ms (ND sh)) i)) (xs := List.range sh.length) (i := x.toNat) (y := x.toNat) (List.getElem?_range (by omega))
      rw [show ((x.toNat : Nat) : Int) = x by omega] at this
      exact this
    simp only [fL_eq, fCons_eq, fNil_eq, f2_eq, gV_eq, goName_eq, List.set_cons_succ, List.set_cons_zero, List.getElem?_cons_succ, List.getElem?_cons_zero, T.bind_ok, i1, mkTup_eq, sizeOk_2, if_true]
  have em : (xs.map fun x => mq (x, laidL p (cutL ms (ND sh)) x)) = (lotM p sh ms xs).map mq := by simp [lotM, List.map_map, Function.comp_def]
  rw [em] at c
  have hqm : ∀ q ∈ lotM p sh ms xs, q.2 = laidL p (cutL ms (ND sh)) q.1 := fun q hq => by
    obtain ⟨y, _, rfl⟩ := List.mem_map.mp hq
    rfl
  generalize lotM p sh ms xs = m at ml du rdm rr c hqm em
  have hml := ml.len
  have lm : (((m.map mq).length : Nat) : Int) = (m.length : Int) := by rw [List.length_map]
  have w1 : ixW (TI (0 :: Li.prof 0 0 sh)) (.int m.length) = .ok (.int (sumLe m.length (ND sh))) := ix_row PF.W.int (whole_at hs hml)
  have sb := sumLe_b (m := m.length) pos
  have cu : cutW (I ms) none (some (sumLe m.length (ND sh))) = I (ms.take (sumLe m.length (ND sh)).toNat) := by
    have := cut_up PF.W.int ms (sumLe m.length (ND sh)).toNat
    rw [show (((sumLe m.length (ND sh)).toNat : Nat) : Int) = sumLe m.length (ND sh) by omega] at this
    exact this
  have n1 := ne_ints (ms.take (sumLe m.length (ND sh)).toNat)
  have mr1 := mailright_run hp hs ml
  simp only [T.bind_ok, tupW, hz, if_true, wipeE, List.set_cons_succ, List.set_cons_zero, c, tupOfW_lst, List.getElem?_cons_succ, List.getElem?_cons_zero, sIf_eq, fBl_eq, f2_eq, fL_eq, fCons_eq, fNil_eq, gV_eq, rr, fSl_eq, pNo, pSome, pInt, slW, lenW_tup, lm, w1, cu, neS_tup, n1, blW_bl, Bool.false_eq_true, if_false, sNil_eq, sSeq_eq, sSet_eq, T.bind_assoc]
  refine T.allB_bind.mpr (altered_all hp hs ml (by omega) fun m' d2 ml' hn' hd2 => ?_)
  have mr2 := mailright_run hp hs ml'
  have hml' : m'.length = m.length := by
    have := congrArg List.length hn'
    simpa using this
  have hz2 : sizeOk ((m.zip m').map fun q => PF.W.tup [mq q.1, mq q.2]) = true := size_small (by simp; omega)
  have zp : zpW [mw m, mw m'] = .ok ((m.zip m').map fun q => PF.W.tup [mq q.1, mq q.2]) := by
    rw [← zip_mq]
    rfl
  have c2 : ∀ x9 x10 x11 : Sl, compL (goTup 2 (goCons (goName 13) (goCons (goName 14) goNil))) (fBl (f2 neS (gV 13) (gV 14))) (fun _ => .ok (.int 1)) [.val .stt, .val (.int p), .val (.tup (I sh)), .val (TI (0 :: Li.prof 0 0 sh)), .val (TI ms), .val (.tup (lets p sh ms)), .val w, .val (mw m), .val (mw m'), x9, x10, x11, .un, .un, .un, .un, .un] ((m.zip m').map fun q => PF.W.tup [mq q.1, mq q.2]) = .ok (((m.zip m').filter fun q => !decide (q.1 = q.2)).map fun _ => PF.W.int 1) := fun x9 x10 x11 => by
    refine compL_filter _ _ _ _ fun q hq => ⟨_, rfl, ?_, fun _ => rfl⟩
    have := ne_mq q.1 q.2
    simp only [fBl_eq, f2_eq, gV_eq, List.set_cons_succ, List.set_cons_zero, List.getElem?_cons_succ, List.getElem?_cons_zero, T.bind_ok, this, blW_bl]
  have hz3 : sizeOk (I (ND sh)) = true := size_small (by rw [List.length_map]; omega)
  generalize hC : ((m.zip m').filter fun q => !decide (q.1 = q.2)) = C at c2
  have c3 : ∀ x10 x11 : Sl, compL (goName 12) (fBl (f2 leW (gV 12) (f2 subW (fL (fCons (gV 7) fNil) lenW) (gV 9)))) (gV 12) [.val .stt, .val (.int p), .val (.tup (I sh)), .val (TI (0 :: Li.prof 0 0 sh)), .val (TI ms), .val (.tup (lets p sh ms)), .val w, .val (mw m), .val (mw m'), .val (.int C.length), x10, x11, .un, .un, .un, .un, .un] (I (ND sh)) = .ok (((ND sh).filter fun n => decide (n ≤ (m.length : Int) - C.length)).map PF.W.int) := fun x10 x11 => by
    refine compL_filter _ _ _ _ fun n hn => ⟨_, rfl, ?_, fun _ => rfl⟩
    simp only [fBl_eq, f2_eq, fL_eq, fCons_eq, fNil_eq, gV_eq, List.set_cons_succ, List.set_cons_zero, List.getElem?_cons_succ, List.getElem?_cons_zero, T.bind_ok, lenW_tup, lm, subW_int, leW_int, blW_bl]
  have lC : (((C.map fun _ => PF.W.int 1).length : Nat) : Int) = (C.length : Int) := by rw [List.length_map]
  have uf := unfitneeds_run hp hs ml'
  have eD := eq_it' (due p sh m') []
  have eD : eqS (.tup (I (due p sh m'))) (.tup []) = .ok (.bl (decide (due p sh m' = []))) := eD
  have eF := eq_il ((ND sh).filter fun n => decide (n ≤ (m.length : Int) - C.length)) (ND sh)
  have test : (decide ((0 : Int) < C.length) && (decide (((ND sh).filter fun n => decide (n ≤ (m.length : Int) - C.length)) = ND sh) && decide (due p sh m' = []))) = false := by
    by_cases g1 : (0 : Int) < C.length
    · by_cases g2 : ((ND sh).filter fun n => decide (n ≤ (m.length : Int) - C.length)) = ND sh
      · have g3 : due p sh m' ≠ [] := fun z => by
          have hf : ∀ n ∈ ND sh, n ≤ (m.length : Int) - C.length := fun n hn => by
            rw [← g2] at hn
            exact of_decide_eq_true (List.mem_filter.mp hn).2
          have := alt_unfit hp ml ml' h8 hml'.symm hn'.symm (by rw [cutL_len]) hqm rfl (nd_cut hs hm hl) pos (by rw [hC]; intro z; rw [z] at g1; simp at g1) (by rw [hC]; exact hf)
          apply this
          refine List.eq_nil_iff_forall_not_mem.mpr fun x hx => ?_
          obtain ⟨i, hi, hb⟩ := (unfL_mem _ _ _).mp hx |>.resolve_left (by simp)
          have : x ∈ due p sh m' := due_mem.mpr ⟨i, hi, by rw [Nat.zero_add] at hb; exact hb⟩
          rw [z] at this
          cases this
        rw [decide_eq_false g3]
        simp
      · rw [decide_eq_false g2]
        simp
    · rw [decide_eq_false g1]
      rfl
  simp only [T.bind_ok, List.set_cons_succ, List.set_cons_zero, List.getElem?_cons_succ, List.getElem?_cons_zero, sIf_eq, fOr_eq, fNot_eq, fTru_eq, fBl_eq, f2_eq, fL_eq, fCons_eq, fNil_eq, gV_eq, mr1, mr2, truW_bl, Bool.not_true, Bool.false_eq_true, if_false, sNil_eq, sSeq_eq, sSet_eq, fComp_eq, iL_eq, zp, hz2, if_true, wipeE, c2, lenW_lst, lC, iOf_eq, nr, lstW, hz3, c3, fAnd_eq, gtW_int, blW_bl, eF, uf, mkTup_eq, sizeOk_nil, eD]
  have tt : ∀ a b c : Bool, (a && (b && c)) = false → (if a = true then if b = true then T.ok c else T.ok false else T.ok false : T Bool) = T.ok false := fun a b c z => by cases a <;> cases b <;> cases c <;> first | rfl | cases z
  rw [tt _ _ _ test]
  have hz4 : sizeOk (m.map mq) = true := size_small (by rw [List.length_map]; omega)
  simp only [T.bind_ok, Bool.false_eq_true, if_false, List.getElem?_cons_succ, List.getElem?_cons_zero, List.set_cons_succ, List.set_cons_zero, hz4, if_true, T.bind_assoc]
  refine T.allB_bind.mpr (odd_all hp hs ml ⟨rfl, rfl, rfl⟩ (by omega) fun m2 d3 ml2 hd3 => ?_)
  have mr3 := mailright_run hp hs ml2
  simp only [T.bind_ok, tupOfW_lst, mr3, truW_bl, Bool.not_true, Bool.false_eq_true, if_false]
  exact ⟨_, rfl, _, _, _, _, _, _, rfl, by omega⟩
theorem mright_all (hp : Pr p) (hs : Li.Shares sh) {P : Nat → PF.W → Prop} {E : Nat → Nat → List PF.W → Prop} {d : Nat} (hd : 6000 ≤ d) (hP : ∀ d', d ≤ d' + 6000 → P d' (.bl true)) : (F__law_message_right [.stt, .int p, .tup (I sh)]).AllB P E d := by
  have h8 := hs.eight
  have nsum := nd_sum hs
  have st := Li.lstair_run (ns := sh) (by omega) fun x hx => by have := hs.each x hx; omega
  have wa : addW (.tup [.int 0]) (.tup (I (Li.prof 0 0 sh))) = .ok (TI (0 :: Li.prof 0 0 sh)) := addT (xs := [0]) (ys := Li.prof 0 0 sh) (by rw [prof_len]; simp; omega)
  have w2 : ixW (TI (0 :: Li.prof 0 0 sh)) (.int (-1)) = .ok (.int (ND sh).sum) := (ix_m1 (by rw [List.length_cons, prof_len]; exact whole_end hs)).2
  have en : (ND sh).sum = (((ND sh).sum.toNat : Nat) : Int) := by omega
  unfold F__law_message_right
  rw [defF_eq _ _ _ _ rfl]
  refine T.allB_bind.mpr ?_
  simp only [startE, List.map_cons, List.map_nil, List.length_cons, List.length_nil, Nat.reduceAdd, Nat.reduceSub, List.replicate, List.cons_append, List.nil_append, sSeq_eq, sSet_eq, fL_eq, fCons_eq, fNil_eq, f2_eq, f1_eq, gV_eq, List.getElem?_cons_succ, List.getElem?_cons_zero, T.bind_ok, mkTup_eq, sizeOk_1, if_true, st, wa, List.set_cons_succ, List.set_cons_zero, negW, w2, T.bind_assoc]
  rw [en]
  refine T.allB_bind.mpr (mess_len hp (by omega) (by omega) fun ms d1 hm hl hd1 => ?_)
  have hl : (ms.length : Int) = (ND sh).sum := by omega
  have ll := llet_run hp hs hm (by omega)
  have lo := letof_run hp hs hm hl
  have lw : low 4 (.tup (lets p sh ms)) := low_tup fun w hw => by
    obtain ⟨i, _, rfl⟩ := List.mem_map.mp hw
    obtain ⟨d, h1, h2, h3⟩ := low_ints (laidL p (cutL ms (ND sh)) (i : Int))
    exact ⟨d, h1, h2, by omega⟩
  have n1 : neW (.tup (lets p sh ms)) (.tup (lets p sh ms)) = .ok (.bl false) := ne_same lw (by decide)
  simp only [T.bind_ok, List.set_cons_succ, List.set_cons_zero, List.getElem?_cons_succ, List.getElem?_cons_zero, sSeq_eq, sSet_eq, fL_eq, fCons_eq, fNil_eq, f2_eq, gV_eq, ll, sIf_eq, fOr_eq, fBl_eq, lo, neS_tup, n1, blW_bl, Bool.false_eq_true, if_false, sNil_eq, sFor_eq, iL_eq, rng1_is (n := 5) (by decide) (by decide)]
  refine T.allB_bind.mpr ?_
  refine T.AllB.imp (fun d2 x hx => ?_) (fun _ _ _ y => y) (forL_all (E := E) (mrE p sh ms (d1 - 5500)) (mr_step hp hs hm hl) _ _ _ ⟨_, _, _, _, _, _, rfl, by rw [ints_len]; simp; omega⟩)
  obtain ⟨ρ2, rfl, x6, x7, x8, x9, x10, x11, rfl, hd2⟩ := hx
  simp only [sRet_eq, T.bind_ok, endOf]
  exact hP d2 (by simp at hd2; omega)
end
def loE (n D : Nat) (ws : List PF.W) (d : Nat) (ρ : En) : Prop := ∃ x2, ρ = [.val (.scr n), .val .stt, x2, .un, .un, .un, .un] ∧ D + 6100 * ws.length ≤ d
theorem lo_step {n D : Nat} {E : Nat → Nat → List PF.W → Prop} (w : PF.W) (ws : List PF.W) (d : Nat) (ρ : En) (hI : loE n D (w :: ws) d ρ) : ∃ ρ1, goName 2 w ρ = some ρ1 ∧ ((sIf (fNot (fTru (fL (fCons (gV 1) (fCons (fL (fCons (gV 1) fNil) F__law_prime) (fCons (fL (fCons (gV 1) (fCons (fun _ => .ok (.int 8)) fNil)) F__law_shares) fNil))) F__law_message_right))) (sRet (fun _ => .ok (.bl false))) sNil) ρ1).AllB (fun d x => ∃ ρ2, x = (.nx, ρ2) ∧ loE n D ws d ρ2) E d := by
  obtain ⟨x2, rfl, hd⟩ := hI
  rw [List.length_cons] at hd
  refine ⟨_, rfl, ?_⟩
  have s5 : ∀ a b c d e : PF.W, sizeOk [a, b, c, d, e] = true := fun a b c d e => sizeOk_is (by simp)
  have dp : F__law_prime [.stt] = .ask 5 fun i => (ixW (.lst [.int 11, .int 13, .int 17, .int 19, .int 23]) (.int i)).bind fun w => .ok w := by
    unfold F__law_prime
    rw [defF_eq _ _ _ _ rfl]
    simp only [startE, List.map_cons, List.map_nil, List.length_cons, List.length_nil, Nat.reduceAdd, Nat.reduceSub, List.replicate, List.cons_append, List.nil_append, sRet_eq, f2_eq, fL_eq, fCons_eq, fNil_eq, gV_eq, List.getElem?_cons_zero, T.bind_ok, mkLst_eq, s5, if_true, draw_is (n := 5) (by decide) (by decide), T.bind_ask, T.bind_assoc, endOf]
    rfl
  simp only [sIf_eq, fNot_eq, fTru_eq, fL_eq, fCons_eq, fNil_eq, gV_eq, List.set_cons_succ, List.set_cons_zero, List.getElem?_cons_succ, List.getElem?_cons_zero, T.bind_ok, dp, T.bind_ask]
  refine ask_all (by omega) fun j hj => ?_
  have pick : ∃ m : Int, Pr m ∧ ixW (.lst [.int 11, .int 13, .int 17, .int 19, .int 23]) (.int (j : Int)) = .ok (.int m) := by
    have : j = 0 ∨ j = 1 ∨ j = 2 ∨ j = 3 ∨ j = 4 := by omega
    rcases this with rfl | rfl | rfl | rfl | rfl
    · exact ⟨11, .inl rfl, rfl⟩
    · exact ⟨13, .inr (.inl rfl), rfl⟩
    · exact ⟨17, .inr (.inr (.inl rfl)), rfl⟩
    · exact ⟨19, .inr (.inr (.inr (.inl rfl))), rfl⟩
    · exact ⟨23, .inr (.inr (.inr (.inr rfl))), rfl⟩
  obtain ⟨m, hm, me⟩ := pick
  simp only [me, T.bind_ok, T.bind_assoc]
  refine T.allB_bind.mpr (Li.shares_all (by omega) fun d1 sh hd1 hs => ?_)
  refine T.allB_bind.mpr (mright_all hm hs (by omega) fun d2 hd2 => ?_)
  simp only [T.bind_ok, truW_bl, Bool.not_true, Bool.false_eq_true, if_false, sNil_eq]
  exact ⟨_, rfl, _, rfl, by omega⟩
theorem law_ends : LawEnds g_law 5 := fun n hn => by
  unfold g_law
  rw [sSeq_eq]
  refine T.allB_bind.mpr ?_
  rw [sFor_eq, iL_eq, fCons_eq, fNil_eq]
  simp only [T.bind_ok]
  rw [rng1_is (by decide) (by decide), T.bind_ok]
  have key := forL_all (E := fun _ _ _ => False) (loE n 10) lo_step (PF.intsFrom 0 (6 : Int).toNat) (2 ^ 60) (lawE n 5) ⟨_, rfl, by rw [ints_len]; decide⟩
  refine T.AllB.imp (fun d x hx => ?_) (fun _ _ _ y => y) key
  obtain ⟨ρ2, ex, x2, eρ, _⟩ := hx
  rw [ex, eρ]
  exact law_tail (k := 0) (by kernel_rfl) (Nat.zero_le d)
end Lw
namespace Lw
open PySem PySem.Spec PyProof.Rows L2 PF
open He in
def fa : List Fa := [.glo "is_integer", .glo "is_between", .glo "are_rising", .glo "need_prime", .glo "is_sign", .glo "are_signs", .glo "need_message", .glo "rest_of", .glo "value_in", .glo "inverse_in", .glo "times_root", .glo "through_in", .glo "is_laying", .glo "need_laying", .glo "profile_in", .glo "needs_in", .glo "blocks_in", .glo "letters_in", .glo "letters_of", .glo "is_pair", .glo "need_mail_of", .glo "need_mail", .glo "points_at", .glo "fits_at", .glo "unfit_in", .glo "does_fit", .glo "unfit_needs", .glo "read_in", .glo "read", .glo "_law_mixed", .glo "_law_begin", .glo "_law_draw", .glo "_law_of", .glo "_law_back", .glo "_law_value", .glo "_law_between", .glo "_law_needs", .glo "_law_stair", .glo "_law_letters", .glo "_law_prime", .glo "_law_shares", .glo "_law_message", .glo "_law_lot", .glo "_law_heard", .glo "_law_fits", .glo "_law_unfit", .glo "_law_altered", .glo "_law_mail_right", .glo "_law_message_right", .glo "law", .glo "PRIMES", .int "MOST_SIGNS" 96, .int "MOST_LETTERS" 8, .int "MOST_SHARE" 6, .int "MOST_ROOM" 12, .free "list", .free "isinstance", .free "int", .free "bool", .free "all", .free "zip", .free "tuple", .free "len", .free "range", .free "enumerate", .free "sum", .free "sorted", .free "min", .free "repr", .glo "Unsound", .glo "NestError", .exm "Unsound" "Unsound" true]
def d_is_integer : He.DefD := ⟨("is_integer", none), "is_integer", "is_integer", defArgs (top 9), defBody (top 9), sc_is_integer, [], []⟩
def d_is_between : He.DefD := ⟨("is_between", none), "is_between", "is_between", defArgs (top 13), defBody (top 13), sc_is_between, [], []⟩
def d_are_rising : He.DefD := ⟨("are_rising", none), "are_rising", "are_rising", defArgs (top 14), defBody (top 14), sc_are_rising, [], []⟩
def d_need_prime : He.DefD := ⟨("need_prime", none), "need_prime", "need_prime", defArgs (top 15), defBody (top 15), sc_need_prime, [], []⟩
def d_is_sign : He.DefD := ⟨("is_sign", none), "is_sign", "is_sign", defArgs (top 16), defBody (top 16), sc_is_sign, [], []⟩
def d_are_signs : He.DefD := ⟨("are_signs", none), "are_signs", "are_signs", defArgs (top 17), defBody (top 17), sc_are_signs, [], []⟩
def d_need_message : He.DefD := ⟨("need_message", none), "need_message", "need_message", defArgs (top 18), defBody (top 18), sc_need_message, [], []⟩
def d_rest_of : He.DefD := ⟨("rest_of", none), "rest_of", "rest_of", defArgs (top 19), defBody (top 19), sc_rest_of, [], []⟩
def d_value_in : He.DefD := ⟨("value_in", none), "value_in", "value_in", defArgs (top 20), defBody (top 20), sc_value_in, [], []⟩
def d_inverse_in : He.DefD := ⟨("inverse_in", none), "inverse_in", "inverse_in", defArgs (top 21), defBody (top 21), sc_inverse_in, [], []⟩
def d_times_root : He.DefD := ⟨("times_root", none), "times_root", "times_root", defArgs (top 22), defBody (top 22), sc_times_root, [], []⟩
def d_through_in : He.DefD := ⟨("through_in", none), "through_in", "through_in", defArgs (top 23), defBody (top 23), sc_through_in, [], []⟩
def d_is_laying : He.DefD := ⟨("is_laying", none), "is_laying", "is_laying", defArgs (top 28), defBody (top 28), sc_is_laying, [], []⟩
def d_need_laying : He.DefD := ⟨("need_laying", none), "need_laying", "need_laying", defArgs (top 29), defBody (top 29), sc_need_laying, [], []⟩
def d_profile_in : He.DefD := ⟨("profile_in", none), "profile_in", "profile_in", defArgs (top 30), defBody (top 30), sc_profile_in, [], []⟩
def d_needs_in : He.DefD := ⟨("needs_in", none), "needs_in", "needs_in", defArgs (top 31), defBody (top 31), sc_needs_in, [], []⟩
def d_blocks_in : He.DefD := ⟨("blocks_in", none), "blocks_in", "blocks_in", defArgs (top 33), defBody (top 33), sc_blocks_in, [], []⟩
def d_letters_in : He.DefD := ⟨("letters_in", none), "letters_in", "letters_in", defArgs (top 34), defBody (top 34), sc_letters_in, [], []⟩
def d_letters_of : He.DefD := ⟨("letters_of", none), "letters_of", "letters_of", defArgs (top 35), defBody (top 35), sc_letters_of, [], []⟩
def d_is_pair : He.DefD := ⟨("is_pair", none), "is_pair", "is_pair", defArgs (top 36), defBody (top 36), sc_is_pair, [], []⟩
def d_need_mail_of : He.DefD := ⟨("need_mail_of", none), "need_mail_of", "need_mail_of", defArgs (top 37), defBody (top 37), sc_need_mail_of, [], []⟩
def d_need_mail : He.DefD := ⟨("need_mail", none), "need_mail", "need_mail", defArgs (top 38), defBody (top 38), sc_need_mail, [], []⟩
def d_points_at : He.DefD := ⟨("points_at", none), "points_at", "points_at", defArgs (top 39), defBody (top 39), sc_points_at, [], []⟩
def d_fits_at : He.DefD := ⟨("fits_at", none), "fits_at", "fits_at", defArgs (top 40), defBody (top 40), sc_fits_at, [], []⟩
def d_unfit_in : He.DefD := ⟨("unfit_in", none), "unfit_in", "unfit_in", defArgs (top 41), defBody (top 41), sc_unfit_in, [], []⟩
def d_does_fit : He.DefD := ⟨("does_fit", none), "does_fit", "does_fit", defArgs (top 42), defBody (top 42), sc_does_fit, [], []⟩
def d_unfit_needs : He.DefD := ⟨("unfit_needs", none), "unfit_needs", "unfit_needs", defArgs (top 43), defBody (top 43), sc_unfit_needs, [], []⟩
def d_read_in : He.DefD := ⟨("read_in", none), "read_in", "read_in", defArgs (top 44), defBody (top 44), sc_read_in, [], []⟩
def d_read : He.DefD := ⟨("read", none), "read", "read", defArgs (top 45), defBody (top 45), sc_read, [], []⟩
def d__law_mixed : He.DefD := ⟨("_law_mixed", none), "_law_mixed", "_law_mixed", defArgs (top 47), defBody (top 47), sc__law_mixed, [], []⟩
def d__law_begin : He.DefD := ⟨("_law_begin", none), "_law_begin", "_law_begin", defArgs (top 48), defBody (top 48), sc__law_begin, [], []⟩
def d__law_draw : He.DefD := ⟨("_law_draw", none), "_law_draw", "_law_draw", defArgs (top 49), defBody (top 49), sc__law_draw, [], []⟩
def d__law_of : He.DefD := ⟨("_law_of", none), "_law_of", "_law_of", defArgs (top 50), defBody (top 50), sc__law_of, [], []⟩
def d__law_back : He.DefD := ⟨("_law_back", none), "_law_back", "_law_back", defArgs (top 51), defBody (top 51), sc__law_back, [], []⟩
def d__law_value : He.DefD := ⟨("_law_value", none), "_law_value", "_law_value", defArgs (top 52), defBody (top 52), sc__law_value, [], []⟩
def d__law_between : He.DefD := ⟨("_law_between", none), "_law_between", "_law_between", defArgs (top 53), defBody (top 53), sc__law_between, [], []⟩
def d__law_needs : He.DefD := ⟨("_law_needs", none), "_law_needs", "_law_needs", defArgs (top 54), defBody (top 54), sc__law_needs, [], []⟩
def d__law_stair : He.DefD := ⟨("_law_stair", none), "_law_stair", "_law_stair", defArgs (top 55), defBody (top 55), sc__law_stair, [], []⟩
def d__law_letters : He.DefD := ⟨("_law_letters", none), "_law_letters", "_law_letters", defArgs (top 56), defBody (top 56), sc__law_letters, [], []⟩
def d__law_prime : He.DefD := ⟨("_law_prime", none), "_law_prime", "_law_prime", defArgs (top 57), defBody (top 57), sc__law_prime, [], []⟩
def d__law_shares : He.DefD := ⟨("_law_shares", none), "_law_shares", "_law_shares", defArgs (top 58), defBody (top 58), sc__law_shares, [], []⟩
def d__law_message : He.DefD := ⟨("_law_message", none), "_law_message", "_law_message", defArgs (top 59), defBody (top 59), sc__law_message, [], []⟩
def d__law_lot : He.DefD := ⟨("_law_lot", none), "_law_lot", "_law_lot", defArgs (top 60), defBody (top 60), sc__law_lot, [], []⟩
def d__law_heard : He.DefD := ⟨("_law_heard", none), "_law_heard", "_law_heard", defArgs (top 61), defBody (top 61), sc__law_heard, [], []⟩
def d__law_fits : He.DefD := ⟨("_law_fits", none), "_law_fits", "_law_fits", defArgs (top 62), defBody (top 62), sc__law_fits, [], []⟩
def d__law_unfit : He.DefD := ⟨("_law_unfit", none), "_law_unfit", "_law_unfit", defArgs (top 63), defBody (top 63), sc__law_unfit, [], []⟩
def d__law_altered : He.DefD := ⟨("_law_altered", none), "_law_altered", "_law_altered", defArgs (top 64), defBody (top 64), sc__law_altered, [], []⟩
def d__law_mail_right : He.DefD := ⟨("_law_mail_right", none), "_law_mail_right", "_law_mail_right", defArgs (top 65), defBody (top 65), sc__law_mail_right, [], []⟩
def d__law_message_right : He.DefD := ⟨("_law_message_right", none), "_law_message_right", "_law_message_right", defArgs (top 66), defBody (top 66), sc__law_message_right, [], []⟩
def d_law : He.DefD := ⟨("law", none), "law", "law", defArgs (top 67), defBody (top 67), sc_law, [], []⟩
def di_Unsound : He.DefD := ⟨("Unsound", some "__init__"), "__init__", "Unsound.__init__", defArgs (mth (top 7)), defBody (mth (top 7)), defScope (mth (top 7)), [], []⟩
def fn : List He.DefD := [d_is_integer, d_is_between, d_are_rising, d_need_prime, d_is_sign, d_are_signs, d_need_message, d_rest_of, d_value_in, d_inverse_in, d_times_root, d_through_in, d_is_laying, d_need_laying, d_profile_in, d_needs_in, d_blocks_in, d_letters_in, d_letters_of, d_is_pair, d_need_mail_of, d_need_mail, d_points_at, d_fits_at, d_unfit_in, d_does_fit, d_unfit_needs, d_read_in, d_read, d__law_mixed, d__law_begin, d__law_draw, d__law_of, d__law_back, d__law_value, d__law_between, d__law_needs, d__law_stair, d__law_letters, d__law_prime, d__law_shares, d__law_message, d__law_lot, d__law_heard, d__law_fits, d__law_unfit, d__law_altered, d__law_mail_right, d__law_message_right, d_law, di_Unsound]
open He in
def ex : PySem.W.Frag → Bool := fun K => (tupB K "PRIMES" [(.int 11), (.int 13), (.int 17), (.int 19), (.int 23)]) && (xB K "Unsound" "need" "ValueError.__new__" tlV) && (ownB K (He.ga K "NestError") "ValueError.__init__") && (true)
def names0 : List Str := ["NestError", "BadNumber", "BadPrime", "BadMessage", "BadLaying", "BadMail", "Unsound", "PRIMES", "MOST_SIGNS", "MOST_LETTERS", "MOST_SHARE", "MOST_ROOM", "is_integer", "is_between", "are_rising", "need_prime", "is_sign", "are_signs", "need_message", "rest_of"]
def names1 : List Str := ["value_in", "inverse_in", "times_root", "through_in", "is_laying", "need_laying", "profile_in", "needs_in", "blocks_in", "letters_in", "letters_of", "is_pair", "need_mail_of", "need_mail", "points_at", "fits_at", "unfit_in", "does_fit", "unfit_needs", "read_in"]
def names2 : List Str := ["read", "_law_mixed", "_law_begin", "_law_draw", "_law_of", "_law_back", "_law_value", "_law_between", "_law_needs", "_law_stair", "_law_letters", "_law_prime", "_law_shares", "_law_message", "_law_lot", "_law_heard", "_law_fits", "_law_unfit", "_law_altered", "_law_mail_right"]
def names3 : List Str := ["_law_message_right"]
def names : List Str := names0 ++ names1 ++ names2 ++ names3
abbrev R : PySem.W.OpenRow := PySem.W.OpenLaw.row PySem.Challenge.rw_nestletters_k05_whole_letters
abbrev hk : PySem.W.Hook := hookL 5 fa fn ex
def ob (s : PySem.W.SharedT) : AlL := obsL 5 fa fn ex (HandSHeadRun.getT s)
theorem ob_eq (s : PySem.W.SharedT) : ob s = hk.obs s.abs := obsL_eq (HandSHeadRun.getT_eq s)
set_option maxHeartbeats 0 in
theorem run (w : World) : HandSHeadRun.RunEq R (PySem.W.view R.prog [67]) hk ob 8000 names w := by
  intro os
  kernel_rfl
theorem facts {P : Program} {w : World} {K : PySem.W.Frag} {h : Heap} {mg : Str → Option Value} {f : Addr} (en : LawEnds g_law 5) (X : K.In h) (G : h.Ns mainGlobals mg) (hfa : mg ("law" : Str) = some (.ref f)) (c : SaysL fa fn ex h K) :
    ∃ fd : FuncData, (∀ (s : Shared) (v : Value), BindsTo s fd ⟨[v], []⟩ [("_law_script", v)]) ∧ ∀ base : Heap, K.In base → base.Ns mainGlobals mg → (∀ z ∈ tabC K, LamX.TabB base mg z.1 z.2.1) → FnG P w K mg base 13 f fd ["_law_script"] (spLaw K) := by
  obtain ⟨fd_is_integer, D_is_integer⟩ := c.d.def_ 0 (d := d_is_integer) rfl
  have gl_is_integer := He.glo_ok X G (c.fact 0 (f := .glo "is_integer") rfl)
  obtain ⟨fd_is_between, D_is_between⟩ := c.d.def_ 1 (d := d_is_between) rfl
  have gl_is_between := He.glo_ok X G (c.fact 1 (f := .glo "is_between") rfl)
  obtain ⟨fd_are_rising, D_are_rising⟩ := c.d.def_ 2 (d := d_are_rising) rfl
  have gl_are_rising := He.glo_ok X G (c.fact 2 (f := .glo "are_rising") rfl)
  obtain ⟨fd_need_prime, D_need_prime⟩ := c.d.def_ 3 (d := d_need_prime) rfl
  have gl_need_prime := He.glo_ok X G (c.fact 3 (f := .glo "need_prime") rfl)
  obtain ⟨fd_is_sign, D_is_sign⟩ := c.d.def_ 4 (d := d_is_sign) rfl
  have gl_is_sign := He.glo_ok X G (c.fact 4 (f := .glo "is_sign") rfl)
  obtain ⟨fd_are_signs, D_are_signs⟩ := c.d.def_ 5 (d := d_are_signs) rfl
  have gl_are_signs := He.glo_ok X G (c.fact 5 (f := .glo "are_signs") rfl)
  obtain ⟨fd_need_message, D_need_message⟩ := c.d.def_ 6 (d := d_need_message) rfl
  have gl_need_message := He.glo_ok X G (c.fact 6 (f := .glo "need_message") rfl)
  obtain ⟨fd_rest_of, D_rest_of⟩ := c.d.def_ 7 (d := d_rest_of) rfl
  have gl_rest_of := He.glo_ok X G (c.fact 7 (f := .glo "rest_of") rfl)
  obtain ⟨fd_value_in, D_value_in⟩ := c.d.def_ 8 (d := d_value_in) rfl
  have gl_value_in := He.glo_ok X G (c.fact 8 (f := .glo "value_in") rfl)
  obtain ⟨fd_inverse_in, D_inverse_in⟩ := c.d.def_ 9 (d := d_inverse_in) rfl
  have gl_inverse_in := He.glo_ok X G (c.fact 9 (f := .glo "inverse_in") rfl)
  obtain ⟨fd_times_root, D_times_root⟩ := c.d.def_ 10 (d := d_times_root) rfl
  have gl_times_root := He.glo_ok X G (c.fact 10 (f := .glo "times_root") rfl)
  obtain ⟨fd_through_in, D_through_in⟩ := c.d.def_ 11 (d := d_through_in) rfl
  have gl_through_in := He.glo_ok X G (c.fact 11 (f := .glo "through_in") rfl)
  obtain ⟨fd_is_laying, D_is_laying⟩ := c.d.def_ 12 (d := d_is_laying) rfl
  have gl_is_laying := He.glo_ok X G (c.fact 12 (f := .glo "is_laying") rfl)
  obtain ⟨fd_need_laying, D_need_laying⟩ := c.d.def_ 13 (d := d_need_laying) rfl
  have gl_need_laying := He.glo_ok X G (c.fact 13 (f := .glo "need_laying") rfl)
  obtain ⟨fd_profile_in, D_profile_in⟩ := c.d.def_ 14 (d := d_profile_in) rfl
  have gl_profile_in := He.glo_ok X G (c.fact 14 (f := .glo "profile_in") rfl)
  obtain ⟨fd_needs_in, D_needs_in⟩ := c.d.def_ 15 (d := d_needs_in) rfl
  have gl_needs_in := He.glo_ok X G (c.fact 15 (f := .glo "needs_in") rfl)
  obtain ⟨fd_blocks_in, D_blocks_in⟩ := c.d.def_ 16 (d := d_blocks_in) rfl
  have gl_blocks_in := He.glo_ok X G (c.fact 16 (f := .glo "blocks_in") rfl)
  obtain ⟨fd_letters_in, D_letters_in⟩ := c.d.def_ 17 (d := d_letters_in) rfl
  have gl_letters_in := He.glo_ok X G (c.fact 17 (f := .glo "letters_in") rfl)
  obtain ⟨fd_letters_of, D_letters_of⟩ := c.d.def_ 18 (d := d_letters_of) rfl
  have gl_letters_of := He.glo_ok X G (c.fact 18 (f := .glo "letters_of") rfl)
  obtain ⟨fd_is_pair, D_is_pair⟩ := c.d.def_ 19 (d := d_is_pair) rfl
  have gl_is_pair := He.glo_ok X G (c.fact 19 (f := .glo "is_pair") rfl)
  obtain ⟨fd_need_mail_of, D_need_mail_of⟩ := c.d.def_ 20 (d := d_need_mail_of) rfl
  have gl_need_mail_of := He.glo_ok X G (c.fact 20 (f := .glo "need_mail_of") rfl)
  obtain ⟨fd_need_mail, D_need_mail⟩ := c.d.def_ 21 (d := d_need_mail) rfl
  have gl_need_mail := He.glo_ok X G (c.fact 21 (f := .glo "need_mail") rfl)
  obtain ⟨fd_points_at, D_points_at⟩ := c.d.def_ 22 (d := d_points_at) rfl
  have gl_points_at := He.glo_ok X G (c.fact 22 (f := .glo "points_at") rfl)
  obtain ⟨fd_fits_at, D_fits_at⟩ := c.d.def_ 23 (d := d_fits_at) rfl
  have gl_fits_at := He.glo_ok X G (c.fact 23 (f := .glo "fits_at") rfl)
  obtain ⟨fd_unfit_in, D_unfit_in⟩ := c.d.def_ 24 (d := d_unfit_in) rfl
  have gl_unfit_in := He.glo_ok X G (c.fact 24 (f := .glo "unfit_in") rfl)
  obtain ⟨fd_does_fit, D_does_fit⟩ := c.d.def_ 25 (d := d_does_fit) rfl
  have gl_does_fit := He.glo_ok X G (c.fact 25 (f := .glo "does_fit") rfl)
  obtain ⟨fd_unfit_needs, D_unfit_needs⟩ := c.d.def_ 26 (d := d_unfit_needs) rfl
  have gl_unfit_needs := He.glo_ok X G (c.fact 26 (f := .glo "unfit_needs") rfl)
  obtain ⟨fd_read_in, D_read_in⟩ := c.d.def_ 27 (d := d_read_in) rfl
  have gl_read_in := He.glo_ok X G (c.fact 27 (f := .glo "read_in") rfl)
  obtain ⟨fd_read, D_read⟩ := c.d.def_ 28 (d := d_read) rfl
  have gl_read := He.glo_ok X G (c.fact 28 (f := .glo "read") rfl)
  obtain ⟨fd__law_mixed, D__law_mixed⟩ := c.d.def_ 29 (d := d__law_mixed) rfl
  have gl__law_mixed := He.glo_ok X G (c.fact 29 (f := .glo "_law_mixed") rfl)
  obtain ⟨fd__law_begin, D__law_begin⟩ := c.d.def_ 30 (d := d__law_begin) rfl
  have gl__law_begin := He.glo_ok X G (c.fact 30 (f := .glo "_law_begin") rfl)
  obtain ⟨fd__law_draw, D__law_draw⟩ := c.d.def_ 31 (d := d__law_draw) rfl
  have gl__law_draw := He.glo_ok X G (c.fact 31 (f := .glo "_law_draw") rfl)
  obtain ⟨fd__law_of, D__law_of⟩ := c.d.def_ 32 (d := d__law_of) rfl
  have gl__law_of := He.glo_ok X G (c.fact 32 (f := .glo "_law_of") rfl)
  obtain ⟨fd__law_back, D__law_back⟩ := c.d.def_ 33 (d := d__law_back) rfl
  have gl__law_back := He.glo_ok X G (c.fact 33 (f := .glo "_law_back") rfl)
  obtain ⟨fd__law_value, D__law_value⟩ := c.d.def_ 34 (d := d__law_value) rfl
  have gl__law_value := He.glo_ok X G (c.fact 34 (f := .glo "_law_value") rfl)
  obtain ⟨fd__law_between, D__law_between⟩ := c.d.def_ 35 (d := d__law_between) rfl
  have gl__law_between := He.glo_ok X G (c.fact 35 (f := .glo "_law_between") rfl)
  obtain ⟨fd__law_needs, D__law_needs⟩ := c.d.def_ 36 (d := d__law_needs) rfl
  have gl__law_needs := He.glo_ok X G (c.fact 36 (f := .glo "_law_needs") rfl)
  obtain ⟨fd__law_stair, D__law_stair⟩ := c.d.def_ 37 (d := d__law_stair) rfl
  have gl__law_stair := He.glo_ok X G (c.fact 37 (f := .glo "_law_stair") rfl)
  obtain ⟨fd__law_letters, D__law_letters⟩ := c.d.def_ 38 (d := d__law_letters) rfl
  have gl__law_letters := He.glo_ok X G (c.fact 38 (f := .glo "_law_letters") rfl)
  obtain ⟨fd__law_prime, D__law_prime⟩ := c.d.def_ 39 (d := d__law_prime) rfl
  have gl__law_prime := He.glo_ok X G (c.fact 39 (f := .glo "_law_prime") rfl)
  obtain ⟨fd__law_shares, D__law_shares⟩ := c.d.def_ 40 (d := d__law_shares) rfl
  have gl__law_shares := He.glo_ok X G (c.fact 40 (f := .glo "_law_shares") rfl)
  obtain ⟨fd__law_message, D__law_message⟩ := c.d.def_ 41 (d := d__law_message) rfl
  have gl__law_message := He.glo_ok X G (c.fact 41 (f := .glo "_law_message") rfl)
  obtain ⟨fd__law_lot, D__law_lot⟩ := c.d.def_ 42 (d := d__law_lot) rfl
  have gl__law_lot := He.glo_ok X G (c.fact 42 (f := .glo "_law_lot") rfl)
  obtain ⟨fd__law_heard, D__law_heard⟩ := c.d.def_ 43 (d := d__law_heard) rfl
  have gl__law_heard := He.glo_ok X G (c.fact 43 (f := .glo "_law_heard") rfl)
  obtain ⟨fd__law_fits, D__law_fits⟩ := c.d.def_ 44 (d := d__law_fits) rfl
  have gl__law_fits := He.glo_ok X G (c.fact 44 (f := .glo "_law_fits") rfl)
  obtain ⟨fd__law_unfit, D__law_unfit⟩ := c.d.def_ 45 (d := d__law_unfit) rfl
  have gl__law_unfit := He.glo_ok X G (c.fact 45 (f := .glo "_law_unfit") rfl)
  obtain ⟨fd__law_altered, D__law_altered⟩ := c.d.def_ 46 (d := d__law_altered) rfl
  have gl__law_altered := He.glo_ok X G (c.fact 46 (f := .glo "_law_altered") rfl)
  obtain ⟨fd__law_mail_right, D__law_mail_right⟩ := c.d.def_ 47 (d := d__law_mail_right) rfl
  have gl__law_mail_right := He.glo_ok X G (c.fact 47 (f := .glo "_law_mail_right") rfl)
  obtain ⟨fd__law_message_right, D__law_message_right⟩ := c.d.def_ 48 (d := d__law_message_right) rfl
  have gl__law_message_right := He.glo_ok X G (c.fact 48 (f := .glo "_law_message_right") rfl)
  obtain ⟨fd_law, D_law⟩ := c.d.def_ 49 (d := d_law) rfl
  have gl_law := He.glo_ok X G (c.fact 49 (f := .glo "law") rfl)
  have m_list := He.free_ok X G (c.fact 55 (f := .free "list") rfl)
  have m_isinstance := He.free_ok X G (c.fact 56 (f := .free "isinstance") rfl)
  have m_int := He.free_ok X G (c.fact 57 (f := .free "int") rfl)
  have m_bool := He.free_ok X G (c.fact 58 (f := .free "bool") rfl)
  have m_all := He.free_ok X G (c.fact 59 (f := .free "all") rfl)
  have m_zip := He.free_ok X G (c.fact 60 (f := .free "zip") rfl)
  have m_tuple := He.free_ok X G (c.fact 61 (f := .free "tuple") rfl)
  have m_len := He.free_ok X G (c.fact 62 (f := .free "len") rfl)
  have m_range := He.free_ok X G (c.fact 63 (f := .free "range") rfl)
  have m_enumerate := He.free_ok X G (c.fact 64 (f := .free "enumerate") rfl)
  have m_sum := He.free_ok X G (c.fact 65 (f := .free "sum") rfl)
  have m_sorted := He.free_ok X G (c.fact 66 (f := .free "sorted") rfl)
  have m_min := He.free_ok X G (c.fact 67 (f := .free "min") rfl)
  have m_repr := He.free_ok X G (c.fact 68 (f := .free "repr") rfl)
  have hex := c.more
  unfold ex at hex
  simp only [Bool.and_eq_true] at hex
  have c_PRIMES : CsIs K mg "PRIMES" k_PRIMES := cs_tup X G (c.fact 50 (f := .glo "PRIMES") rfl) hex.1.1.1 rfl
  have g_Unsound := He.glo_ok X G (c.fact 69 (f := .glo "Unsound") rfl)
  have g_NestError := He.glo_ok X G (c.fact 70 (f := .glo "NestError") rfl)
  have xb_Unsound : XB K (xName 11) "need" "ValueError.__new__" tlV := xB_ok (hex.1.1.2)
  obtain ⟨fdi_Unsound, Di_Unsound⟩ := c.d.def_ 50 (d := di_Unsound) rfl
  have b_NestError := hex.1.2
  have e_Unsound_Unsound : PySem.W.exmOne K (.ref (He.ga K (xName 11))) (.ref (He.ga K "Unsound")) = some true := of_decide_eq_true (c.fact 71 (f := .exm "Unsound" "Unsound" true) rfl)
  have c_MOST_SIGNS : CsIs K mg "MOST_SIGNS" k_MOST_SIGNS := cs_int X G (c.fact 51 (f := .int "MOST_SIGNS" 96) rfl)
  have c_MOST_LETTERS : CsIs K mg "MOST_LETTERS" k_MOST_LETTERS := cs_int X G (c.fact 52 (f := .int "MOST_LETTERS" 8) rfl)
  have c_MOST_SHARE : CsIs K mg "MOST_SHARE" k_MOST_SHARE := cs_int X G (c.fact 53 (f := .int "MOST_SHARE" 6) rfl)
  have c_MOST_ROOM : CsIs K mg "MOST_ROOM" k_MOST_ROOM := cs_int X G (c.fact 54 (f := .int "MOST_ROOM" 12) rfl)
  have e := hfa.symm.trans gl_law
  cases e
  have b := FunD.bindsA (ps := ["_law_script"]) D_law fun _ _ _ _ _ _ us hl => match us, hl with | [_], _ => rfl
  refine ⟨fd_law, fun s v => b s [v] rfl, fun base _ _ tb => ?_⟩
  have ap := c.apart
  have x_Unsound := xi_Unsound (P := P) (w := w) (base := base) Di_Unsound g_Unsound xb_Unsound g_NestError b_NestError
  have h_is_integer := ok_is_integer (P := P) (w := w) (base := base) D_is_integer gl_is_integer m_isinstance m_int m_bool
  have h_is_between := ok_is_between (P := P) (w := w) (base := base) D_is_between gl_is_between h_is_integer
  have h_are_rising := ok_are_rising (P := P) (w := w) (base := base) D_are_rising gl_are_rising m_all m_zip
  have h_need_prime := ok_need_prime (P := P) (w := w) (base := base) D_need_prime gl_need_prime c_PRIMES h_is_integer
  have h_is_sign := ok_is_sign (P := P) (w := w) (base := base) D_is_sign gl_is_sign h_is_between
  have h_are_signs := ok_are_signs (P := P) (w := w) (base := base) D_are_signs gl_are_signs m_isinstance m_tuple m_all h_is_sign
  have h_need_message := ok_need_message (P := P) (w := w) (base := base) D_need_message gl_need_message m_len c_MOST_SIGNS h_need_prime h_are_signs
  have h_rest_of := ok_rest_of (P := P) (w := w) (base := base) D_rest_of gl_rest_of m_int
  have h_value_in := ok_value_in (P := P) (w := w) (base := base) D_value_in gl_value_in h_rest_of
  have h_inverse_in := ok_inverse_in (P := P) (w := w) (base := base) D_inverse_in gl_inverse_in m_range h_rest_of
  have h_times_root := ok_times_root (P := P) (w := w) (base := base) D_times_root gl_times_root m_enumerate h_rest_of
  have h_through_in := ok_through_in (P := P) (w := w) (base := base) D_through_in gl_through_in m_len m_zip m_tuple h_rest_of h_times_root h_inverse_in
  have h_is_laying := ok_is_laying (P := P) (w := w) (base := base) D_is_laying gl_is_laying m_isinstance m_tuple m_len m_all m_sum c_MOST_LETTERS c_MOST_SHARE c_MOST_ROOM h_is_between
  have h_need_laying := ok_need_laying (P := P) (w := w) (base := base) D_need_laying gl_need_laying h_is_laying
  have h_profile_in := ok_profile_in (P := P) (w := w) (base := base) D_profile_in gl_profile_in m_enumerate
  have h_needs_in := ok_needs_in (P := P) (w := w) (base := base) D_needs_in gl_needs_in m_enumerate m_int
  have h_blocks_in := ok_blocks_in (P := P) (w := w) (base := base) D_blocks_in gl_blocks_in h_needs_in
  have h_letters_in := ok_letters_in (P := P) (w := w) (base := base) D_letters_in gl_letters_in m_tuple m_range m_len h_blocks_in h_value_in
  have h_letters_of := ok_letters_of (P := P) (w := w) (base := base) D_letters_of gl_letters_of m_len h_need_prime h_need_laying h_need_message h_profile_in h_letters_in
  have h_is_pair := ok_is_pair (P := P) (w := w) (base := base) D_is_pair gl_is_pair m_isinstance m_tuple m_len m_sum h_is_between h_are_signs
  have h_need_mail_of := ok_need_mail_of (P := P) (w := w) (base := base) D_need_mail_of gl_need_mail_of m_isinstance m_tuple m_all h_is_pair h_are_rising
  have h_need_mail := ok_need_mail (P := P) (w := w) (base := base) D_need_mail gl_need_mail h_need_prime h_need_laying h_need_mail_of
  have h_points_at := ok_points_at (P := P) (w := w) (base := base) D_points_at gl_points_at 
  have h_fits_at := ok_fits_at (P := P) (w := w) (base := base) D_fits_at gl_fits_at m_len m_tuple m_all h_points_at h_through_in h_value_in
  have h_unfit_in := ok_unfit_in (P := P) (w := w) (base := base) D_unfit_in gl_unfit_in m_enumerate m_sorted h_needs_in h_fits_at
  have h_does_fit := ok_does_fit (P := P) (w := w) (base := base) D_does_fit gl_does_fit m_len h_need_mail h_is_between h_unfit_in
  have h_unfit_needs := ok_unfit_needs (P := P) (w := w) (base := base) D_unfit_needs gl_unfit_needs m_tuple h_need_mail h_unfit_in
  have h_read_in := ok_read_in (P := P) (w := w) (base := base) D_read_in gl_read_in m_enumerate m_len m_tuple h_needs_in h_through_in h_points_at
  have h_read := ok_read (P := P) (w := w) (base := base) D_read gl_read x_Unsound h_need_mail h_unfit_in h_read_in
  have h__law_mixed := ok__law_mixed (P := P) (w := w) (base := base) D__law_mixed gl__law_mixed m_int
  have h__law_draw := FnIs.toG (ok__law_draw (P := P) (w := w) (base := base) D__law_draw gl__law_draw m_int m_len h__law_mixed)
  have h__law_back := ok__law_back (P := P) (w := w) (base := base) D__law_back gl__law_back m_range m_int
  have h__law_value := ok__law_value (P := P) (w := w) (base := base) D__law_value gl__law_value m_int
  have h__law_between := ok__law_between (P := P) (w := w) (base := base) D__law_between gl__law_between m_int h__law_back
  have h__law_needs := ok__law_needs (P := P) (w := w) (base := base) D__law_needs gl__law_needs m_enumerate
  have h__law_stair := ok__law_stair (P := P) (w := w) (base := base) D__law_stair gl__law_stair m_enumerate m_tuple
  have h__law_letters := ok__law_letters (P := P) (w := w) (base := base) D__law_letters gl__law_letters m_range m_len m_tuple h__law_needs h__law_value
  have h__law_prime := ok__law_prime (P := P) (w := w) (base := base) D__law_prime gl__law_prime h__law_draw
  have h__law_shares := ok__law_shares (P := P) (w := w) (base := base) D__law_shares gl__law_shares m_range m_min m_tuple h__law_draw
  have h__law_message := ok__law_message (P := P) (w := w) (base := base) D__law_message gl__law_message m_tuple m_range h__law_draw
  have h__law_lot := ok__law_lot (P := P) (w := w) (base := base) D__law_lot gl__law_lot m_tuple m_range h__law_draw
  have h__law_heard := ok__law_heard (P := P) (w := w) (base := base) D__law_heard gl__law_heard xb_Unsound g_Unsound e_Unsound_Unsound
  have h__law_fits := ok__law_fits (P := P) (w := w) (base := base) D__law_fits gl__law_fits h__law_between
  have h__law_unfit := ok__law_unfit (P := P) (w := w) (base := base) D__law_unfit gl__law_unfit m_enumerate m_sorted h__law_needs h__law_fits
  have h__law_altered := ok__law_altered (P := P) (w := w) (base := base) D__law_altered gl__law_altered m_list m_len m_int m_tuple h__law_draw
  have h__law_mail_right := ok__law_mail_right (P := P) (w := w) (base := base) D__law_mail_right gl__law_mail_right tb ap m_range m_tuple m_len m_repr m_isinstance m_enumerate h__law_heard h__law_unfit h_need_mail h_unfit_needs h_does_fit h_read h__law_stair h__law_letters h__law_needs
  have h__law_message_right := ok__law_message_right (P := P) (w := w) (base := base) D__law_message_right gl__law_message_right m_range m_tuple m_len m_zip h__law_stair h__law_message h__law_letters h_letters_of h__law_lot h_read h__law_altered h__law_mail_right h__law_needs h_unfit_needs
  exact ok_law D_law D__law_begin gl__law_begin m_list en tb ap m_range m_tuple h__law_heard h__law_message_right h__law_shares h__law_prime h_letters_of h_read h_unfit_needs
end Lw
open PySem PySem.W PySem.Calls PyProof.Rows
set_option maxRecDepth 100000 in
set_option maxHeartbeats 0 in
theorem PySem.Challenge.cw_nestletters_k05_whole_letters_holds : PySem.Challenge.rw_nestletters_k05_whole_letters.Holds := by
  w_on; o_law
  refine HandSHeadRun.head_any (r := OpenLaw.row PySem.Challenge.rw_nestletters_k05_whole_letters) (q := view (OpenLaw.row PySem.Challenge.rw_nestletters_k05_whole_letters).prog [67]) (H := Lw.hk) (ob := Lw.ob) (M := 8000) (loose := Lw.names) (d := HandSHeadRun.topDef (OpenLaw.row PySem.Challenge.rw_nestletters_k05_whole_letters).prog 67) (kwd := []) Lw.ob_eq
    (by kernel_rfl) (fun s => by kernel_rfl) Lw.run (by kernel_rfl) (by kernel_rfl) (by kernel_rfl) (by rfl) (by first | assumption | decide +kernel) (by decide +kernel) ⟨rfl, rfl, rfl, rfl, rfl, by decide +kernel⟩ ?hw ?hc
  case hw => w_witness2
  case hc =>
    refine PF.walk_tab (l := PySem.Challenge.rw_nestletters_k05_whole_letters) (n := 63) (k := 13) (x := "_law_script") rfl (by decide) (by kernel_rfl) ⟨rfl, by decide, by decide⟩ ?F
    intro w mg fa h Y G hmg0
    obtain ⟨K, KX, c⟩ := Y
    have hmg : mg ("law" : PySem.Str) = some (.ref fa) := by
      have e : (HandSHeadRun.topDef (OpenLaw.row PySem.Challenge.rw_nestletters_k05_whole_letters).prog 67).name = ("law" : PySem.Str) := by kernel_rfl
      rw [← e]
      exact hmg0
    obtain ⟨fd, hb, hF⟩ := Lw.facts (P := (PySem.Challenge.rw_nestletters_k05_whole_letters).prog) (w := w) Lw.law_ends KX G hmg c
    exact ⟨K, fd, PF.spLaw K, KX, hb, c.empty, c.out, c.hd, fun H a ns hl hT hS => ⟨a, ns, rfl, hS, hl, hT, fun _ => rfl⟩, hF⟩
