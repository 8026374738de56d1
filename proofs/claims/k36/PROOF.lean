import PyProof.Rows.All
import Wide.All
import OpenK.AllK
import Wide.FinOn
import HandS.ForMost
import HandS.ForExc
import HandS.Wide
import HandS.CallSlots
import HandS.IsInst
import HandS.HeadWalk
import HandS.HeadHook4
import HandS.HeadEnd
import HandS.TupAny
import HandS.TupLe
import HandS.TupMul
import KE.KStateDown
import HandS.Iter
import HandS.Zip
import KE.GoesEnum
import KE.KTupSum
import KE.KEqDeep
import PyProof.P3Eq
import HandS.Head0
import HandS.Head1
import HandS.Head2
import HandS.HeadHook2
import PyProof.ReprRoads
import HandS.Star
import HandS.RaiseMore
import HandS.Deep
import HandS.Style
import PyProof.P3In
import HandS.SortRule
import HandS.SortInts
import KE.GoesZip
import HandS.Lambda
import KE.KExcInit
import HandS.ExcInit
import HandS.ExcField
import HandS.ClsMeth
import HandS.TryMany
import HandS.DictComp
import HandS.WordsDict
import HandS.Conv
import HandS.More
import HandS.ExcValue
import KE.KExcIs
import HandS.Text
import KE.KDictList
import HandS.HeadHook3
import PyProof.ByEval2
import PyProof.Rows.StrSplitCount
import PySem.Challenge.RW_nestletters_k36_sheets_by_hand
set_option Elab.async false
set_option linter.all false
set_option maxRecDepth 100000
set_option maxHeartbeats 4000000
namespace PF
open PySem PySem.Spec PyProof.Rows L2
abbrev St := L2.St
inductive W where
  | non | bl (b : Bool) | int (i : Int) | str (x : Str)
  | tup (ws : List W) | lst (ws : List W)
  | dct (ks : List Key) (ws : List W)
  | scr (n : Nat) | stt
  | clo (x : Str) (p : List Nat) (ws : List W) | lam (x : Str) (p : List Nat) | exo (c : Nat) (fs : List W)
  | obj (i : Nat) | dcu (ks : List (List Key)) (ws : List W)
inductive T (α : Type) where
  | ok (a : α) | exc (c : Nat) (fs : List W) | bad | ask (n : Nat) (k : Nat → T α)
  | get (i : Nat) (k : Nat → List W → T α) | put (i : Nat) (fs : List W) (k : T α) | new (c : Nat) (fs : List W) (k : Nat → T α)
/-- what a run changes: how many draws may come, the objects: their classes, their fields -/
structure Dw where
  n : Nat
  os : List (Nat × List W)
def T.bind {α β : Type} : T α → (α → T β) → T β
  | .ok a, f => f a
  | .exc c fs, _ => .exc c fs
  | .bad, _ => .bad
  | .ask n k, f => .ask n fun i => (k i).bind f
  | .get i k, f => .get i fun c fs => (k c fs).bind f
  | .put i fs k, f => .put i fs (k.bind f)
  | .new c fs k, f => .new c fs fun i => (k i).bind f
/-- d: how many draws may come; runs without objects -/
def T.AllB {α : Type} (P : Nat → α → Prop) (E : Nat → Nat → List W → Prop) : Nat → T α → Prop
  | d, .ok a => P d a
  | d, .exc c fs => E d c fs
  | d, .ask n k => ∃ e, d = e + 1 ∧ ∀ i, i < n → T.AllB P E e (k i)
  | _, _ => False
theorem T.AllB.imp {α : Type} {P P' : Nat → α → Prop} {E E' : Nat → Nat → List W → Prop} (h : ∀ d a, P d a → P' d a) (g : ∀ d c fs, E d c fs → E' d c fs) : ∀ {t : T α} {d : Nat}, t.AllB P E d → t.AllB P' E' d
  | .ok a, d, x => h d a x
  | .exc c fs, d, x => g d c fs x
  | .bad, _, x => x
  | .get _ _, _, x => x
  | .put _ _ _, _, x => x
  | .new _ _ _, _, x => x
  | .ask n k, d, x => by
    obtain ⟨e, he, x⟩ := x
    exact ⟨e, he, fun i hi => T.AllB.imp h g (x i hi)⟩
theorem T.allB_bind {α β : Type} {P : Nat → β → Prop} {E : Nat → Nat → List W → Prop} {f : α → T β} : ∀ {t : T α} {d : Nat}, (t.bind f).AllB P E d ↔ t.AllB (fun d a => (f a).AllB P E d) E d
  | .ok a, d => Iff.rfl
  | .exc c fs, d => Iff.rfl
  | .bad, _ => Iff.rfl
  | .get _ _, _ => Iff.rfl
  | .put _ _ _, _ => Iff.rfl
  | .new _ _ _, _ => Iff.rfl
  | .ask n k, d => by
    constructor
    · rintro ⟨e, he, x⟩
      exact ⟨e, he, fun i hi => T.allB_bind.mp (x i hi)⟩
    · rintro ⟨e, he, x⟩
      exact ⟨e, he, fun i hi => T.allB_bind.mpr (x i hi)⟩
/-- runs with objects -/
def T.AllW {α : Type} (P : Dw → α → Prop) (E : Dw → Nat → List W → Prop) : Dw → T α → Prop
  | d, .ok a => P d a
  | d, .exc c fs => E d c fs
  | _, .bad => False
  | d, .ask n k => ∃ e, d.n = e + 1 ∧ ∀ i, i < n → T.AllW P E ⟨e, d.os⟩ (k i)
  | d, .get i k => ∃ c fs, d.os[i]? = some (c, fs) ∧ T.AllW P E d (k c fs)
  | d, .put i fs k => ∃ c gs, d.os[i]? = some (c, gs) ∧ T.AllW P E ⟨d.n, d.os.set i (c, fs)⟩ k
  | d, .new c fs k => T.AllW P E ⟨d.n, d.os ++ [(c, fs)]⟩ (k d.os.length)
theorem T.AllW.imp {α : Type} {P P' : Dw → α → Prop} {E E' : Dw → Nat → List W → Prop} (h : ∀ d a, P d a → P' d a) (g : ∀ d c fs, E d c fs → E' d c fs) {t : T α} {d : Dw} (x : t.AllW P E d) : t.AllW P' E' d := by
  induction t generalizing d with
  | ok a => exact h d a x
  | exc c fs => exact g d c fs x
  | bad => exact x
  | ask n k ih =>
    obtain ⟨e, he, x⟩ := x
    exact ⟨e, he, fun i hi => ih i (x i hi)⟩
  | get i k ih =>
    obtain ⟨c, fs, e, x⟩ := x
    exact ⟨c, fs, e, ih c fs x⟩
  | put i fs k ih =>
    obtain ⟨c, gs, e, x⟩ := x
    exact ⟨c, gs, e, ih x⟩
  | new c fs k ih => exact ih _ x
theorem T.allW_bind {α β : Type} {P : Dw → β → Prop} {E : Dw → Nat → List W → Prop} {f : α → T β} {t : T α} {d : Dw} : (t.bind f).AllW P E d ↔ t.AllW (fun d a => (f a).AllW P E d) E d := by
  induction t generalizing d with
  | ok a => exact Iff.rfl
  | exc c fs => exact Iff.rfl
  | bad => exact Iff.rfl
  | ask n k ih =>
    constructor
    · rintro ⟨e, he, x⟩
      exact ⟨e, he, fun i hi => (ih i).mp (x i hi)⟩
    · rintro ⟨e, he, x⟩
      exact ⟨e, he, fun i hi => (ih i).mpr (x i hi)⟩
  | get i k ih =>
    constructor
    · rintro ⟨c, fs, e, x⟩
      exact ⟨c, fs, e, (ih c fs).mp x⟩
    · rintro ⟨c, fs, e, x⟩
      exact ⟨c, fs, e, (ih c fs).mpr x⟩
  | put i fs k ih =>
    constructor
    · rintro ⟨c, gs, e, x⟩
      exact ⟨c, gs, e, ih.mp x⟩
    · rintro ⟨c, gs, e, x⟩
      exact ⟨c, gs, e, ih.mpr x⟩
  | new c fs k ih => exact ih _
/-- a run without objects keeps them -/
theorem T.allW_of {α : Type} {P : Nat → α → Prop} {E : Nat → Nat → List W → Prop} {os : List (Nat × List W)} {t : T α} {n : Nat} (x : t.AllB P E n) : t.AllW (fun d a => d.os = os ∧ P d.n a) (fun d c fs => d.os = os ∧ E d.n c fs) ⟨n, os⟩ := by
  induction t generalizing n with
  | ok a => exact ⟨rfl, x⟩
  | exc c fs => exact ⟨rfl, x⟩
  | ask m k ih =>
    obtain ⟨e, he, x⟩ := x
    exact ⟨e, he, fun i hi => ih i (x i hi)⟩
  | bad => exact x.elim
  | _ => exact x.elim
/-- names and the cells that hold what they are -/
abbrev Cl := List (Str × Addr)
structure Cc where
  S : Addr
  ca : Addr
  la : Addr
  A : List Addr
  M : List Addr
  T : List (Addr × Str) := []
  C : Cl := []
  K : PySem.W.Frag := []
  O : List Addr := []
def kCells : Str := "cells"
def kLefts : Str := "lefts"
def kAt : Str := "at"
def kRoom : Str := "room"
/-- the state stands; so many draws may come -/
def St0 (c : Cc) (d : Nat) (H : Hp) : Prop :=
  ∃ (cells lefts : List Int) (k r : Int), H c.S = some (.dK [(.inr kCells, .ref c.ca), (.inr kLefts, .ref c.la), (.inr kAt, .int k), (.inr kRoom, .int r)]) ∧
    H c.ca = some (.lst (cells.map V.int)) ∧ H c.la = some (.lst (lefts.map V.int)) ∧ lefts.length = cells.length ∧ 0 < cells.length ∧ 0 ≤ k ∧ k + d ≤ 2 ^ 60 ∧ c.ca ≠ c.la ∧ LamX.Tabs c.T H
/-- no table of code objects -/
inductive IsTb : HO → Prop
  | tbl (ps : Array Value) : IsTb (.tbl ps)
  | ins (C dx : Addr) (fs : List (Str × V)) : IsTb (.ins C dx fs)
abbrev NoT (o : HO) : Prop := ¬ IsTb o
theorem NoT.t {o : HO} (h : NoT o) (ps : Array Value) : o ≠ .tbl ps := fun e => h (e ▸ .tbl ps)
theorem NoT.i {o : HO} (h : NoT o) (C dx : Addr) (fs : List (Str × V)) : o ≠ .ins C dx fs := fun e => h (e ▸ .ins C dx fs)
/-- all but the state's own two objects is kept; tables of code objects grow -/
structure Step (c : Cc) (H H' : Hp) : Prop where
  keep : ∀ b o, H b = some o → b ≠ c.S → b ≠ c.la → NoT o → H' b = some o
  tbl : ∀ b ps, H b = some (.tbl ps) → ∃ more, H' b = some (.tbl (ps ++ more))
  ins : ∀ b C dx fs, H b = some (.ins C dx fs) → ∃ gs, H' b = some (.ins C dx gs)
theorem Step.refl (c : Cc) (H : Hp) : Step c H H := ⟨fun _ _ e _ _ _ => e, fun _ ps e => ⟨#[], by rw [e]; simp⟩, fun _ _ _ fs e => ⟨fs, e⟩⟩
theorem Step.trans {c : Cc} {H H1 H2 : Hp} (a : Step c H H1) (b : Step c H1 H2) : Step c H H2 := ⟨fun x o e h1 h2 h3 => b.keep x o (a.keep x o e h1 h2 h3) h1 h2 h3, fun x ps e => by
  obtain ⟨m, e1⟩ := a.tbl x ps e
  obtain ⟨n, e2⟩ := b.tbl x _ e1
  exact ⟨m ++ n, by rw [e2, Array.append_assoc]⟩, fun x C dx fs e => by
  obtain ⟨gs, e1⟩ := a.ins x C dx fs e
  exact b.ins x C dx gs e1⟩
/-- all stays that stood -/
theorem Step.same {c : Cc} {H H' : Hp} (h : ∀ b o, H b = some o → H' b = some o) : Step c H H' := ⟨fun b o e _ _ _ => h b o e, fun b ps e => ⟨#[], by rw [h b _ e]; simp⟩, fun b C dx fs e => ⟨fs, h b _ e⟩⟩
theorem Step.new {c : Cc} {H : Hp} {p : Addr} {o : HO} (n : H p = none) : Step c H (upd H p o) := .same fun b u e => by
  rw [upd_ne (ne_of_none e n)]
  exact e
theorem Tabs.upd {T : List (Addr × Str)} {H : Hp} {p : Addr} {o u : HO} (t : LamX.Tabs T H) (h : H p = some o) (nt : NoT o) (nc : ∀ q, o ≠ LamX.CodeO p q) : LamX.Tabs T (L2.upd H p u) := fun x hx => by
  obtain ⟨ps, h1, h2, h3⟩ := t x hx
  refine ⟨ps, by rw [upd_ne (ne_of h1 h (Ne.symm (nt.t _)))]; exact h1, h2, fun pos cv hc => ?_⟩
  obtain ⟨c, e1, e2⟩ := h3 pos cv hc
  refine ⟨c, e1, ?_⟩
  rw [upd_ne]
  · exact e2
  · intro z
    subst z
    rw [h] at e2
    exact nc _ (Option.some.inj e2)
theorem St0.new {c : Cc} {d : Nat} {H : Hp} {p : Addr} {o : HO} (s : St0 c d H) (n : H p = none) : St0 c d (upd H p o) := by
  obtain ⟨cells, lefts, k, r, h1, h2, h3, h4, h5, h6, h7, h8, h9⟩ := s
  exact ⟨cells, lefts, k, r, by rw [upd_ne (ne_of_none h1 n)]; exact h1, by rw [upd_ne (ne_of_none h2 n)]; exact h2, by rw [upd_ne (ne_of_none h3 n)]; exact h3, h4, h5, h6, h7, h8, h9.ext fun b u e => by rw [upd_ne (ne_of_none e n)]; exact e⟩
theorem St0.tab {c : Cc} {d : Nat} {H : Hp} (s : St0 c d H) : LamX.Tabs c.T H := by
  obtain ⟨_, _, _, _, _, _, _, _, _, _, _, _, h9⟩ := s
  exact h9
theorem St0.S {c : Cc} {d : Nat} {H : Hp} (s : St0 c d H) : ∃ kvs, H c.S = some (.dK kvs) := by
  obtain ⟨_, _, _, _, h1, _⟩ := s
  exact ⟨_, h1⟩
theorem St0.la {c : Cc} {d : Nat} {H : Hp} (s : St0 c d H) : ∃ xs, H c.la = some (.lst xs) := by
  obtain ⟨_, _, _, _, _, _, h3, _⟩ := s
  exact ⟨_, h3⟩
/-- the errors' names and fields -/
def xAll : List (Str × List Str) := [("BadPaper", ["part"]), ("BadCode", ["part"]), ("BadFraction", ["given"]), ("BadNumber", ["given"]), ("BadPrime", ["given"]), ("BadMessage", ["given"]), ("BadLaying", ["given"]), ("BadMail", ["given"]), ("BadLot", ["given"]), ("BadStair", ["given"]),
  ("BadPoints", ["given"]), ("Unsound", ["need"]), ("BadChances", ["given"]), ("BadLetter", ["given"]), ("BadLabel", ["given"]), ("BadChannel", ["path"]), ("BadWorths", ["given"]), ("BadCost", ["given"]), ("BadRoom", ["given"]), ("BadList", ["given"]),
  ("BadLength", ["given"]), ("BadWishes", ["given"]), ("BadText", ["line", "word"]), ("Missing", ["given"]), ("NothingLeft", ["many"]), ("TooMany", ["most"])]
def xName (n : Nat) : Str := (xAll.getD n ("", [])).1
def xFlds (n : Nat) : List Str := (xAll.getD n ("", [])).2
structure LamD where
  params : Arguments
  body : Expr
  scope : Scope
def kidE : Expr → Nat → Option Expr
  | .List es _, n => es[n]?
  | .Tuple es _ _, n => es[n]?
  | .Call _ es _ _, n => es[n]?
  | .BoolOp _ es _, n => es[n]?
  | .UnaryOp _ e _, _ => some e
  | .BinOp l _ r _, n => [l, r][n]?
  | .IfExp t a b _, n => [t, a, b][n]?
  | .Compare l _ cs _, n => (l :: cs)[n]?
  | .Subscript v i _, n => [v, i][n]?
  | _, _ => none
def atE : Expr → List Nat → Option Expr
  | e, [] => some e
  | e, n :: p => (kidE e n).bind fun e => atE e p
/-- the statements that a statement holds, the expressions that it holds -/
def subS : Stmt → Nat → List Stmt
  | .If _ b o _, n => [b, o].getD n []
  | .For _ _ b _ _, 0 => b
  | _, _ => []
def expS : Stmt → Option Expr
  | .Assign _ v _ => some v
  | .Return v _ => v
  | .Expr v _ => some v
  | .If t _ _ _ => some t
  | .For _ i _ _ _ => some i
  | _ => none
def atS : List Stmt → List (Nat × Nat) → Nat → List Nat → Option Expr
  | ss, [], n, p => (ss[n]?).bind fun st => (expS st).bind fun e => atE e p
  | ss, (n, k) :: r, m, p => (ss[n]?).bind fun st => atS (subS st k) r m p
/-- the lambda in the def x of the module at a path: n1, k1, n2, k2, .. (statements), n, then the way in the expression -/
def pathOf : List Nat → List (Nat × Nat) × Nat × List Nat
  | 0 :: n :: p => ([], n, p)
  | 1 :: n :: k :: p => let (a, m, q) := pathOf p; ((n, k) :: a, m, q)
  | _ => ([], 0, [])
def lamAt (ss : List Stmt) (p : List Nat) : Option LamD := match atS ss (pathOf p).1 (pathOf p).2.1 (pathOf p).2.2 with
  | some (.Lambda ps b sc _) => some ⟨ps, b, sc⟩
  | _ => none
def lamK (K : PySem.W.Frag) (x : Str) (p : List Nat) : Option LamD := match K.lookup (He.ga K x) with
  | some o => match o.data with
    | .func fd => match fd.body with
      | .stmts ss => lamAt ss p
      | _ => none
    | _ => none
  | none => none
/-- the function of a lambda, its defaults at dV -/
abbrev lfd (qual : Str) (params : Arguments) (body : Expr) (scope : Scope) (cl : List (Str × Addr)) (dV pm cdv ct : Value) : FuncData :=
  { name := "<lambda>", qualname := qual, params := params, body := .expr body, scope := scope, globals := mainGlobals, closure := cl, defaults := dV, kwdefaults := .none, doc := .none, pyModule := pm, annotations := none, code := cdv, closureTuple := ct, builtins := builtinsNs }
abbrev lob (qual : Str) (params : Arguments) (body : Expr) (scope : Scope) (cl : List (Str × Addr)) (dV pm : Value) (c' : Addr) (ctv : Value) : Obj := { cls := .type "function", data := .func (lfd qual params body scope cl dV pm (.ref c') ctv) }
/-- the very object o stands at a -/
def ObX (a : Addr) (o : Obj) : HO := .ext fun h => h.get? a = some o
/-- the parameters of a lambda: none, or one with an int as default -/
inductive ParOk : Option Str → Arguments → Prop
  | zero : ParOk none ⟨[], [], none, [], [], none, []⟩
  | one (x : Str) (p1 p2 : Pos) (i : Int) (j : Nat) : ParOk (some x) ⟨[], [⟨x, none, p1⟩], none, [], [], none, [.Constant (.int i) j p2]⟩
def lamQ (x : Str) : Str := x ++ ".<locals>." ++ "<lambda>"
/-- at f stands the lambda l, made with the cells cl -/
def LamAt (K : PySem.W.Frag) (H : Hp) (f : Addr) (x : Str) (p : List Nat) (l : LamD) (cl : Cl) : Prop := lamK K x p = some l ∧ ∃ (dV pm ctv : Value) (c' : Addr) (one : Option Str), H f = some (ObX f (lob (lamQ x) l.params l.body l.scope cl dV pm c' ctv)) ∧ H c' = some (LamX.CodeO c' (lamQ x)) ∧ ParOk one l.params ∧
  (one = none → dV = .none) ∧ (∀ y, one = some y → ∃ (D : Addr) (u : Value), dV = .ref D ∧ H D = some (ObX D { cls := .type "tuple", data := .seq #[u] }))
/-- the cells hold vs -/
inductive CapsAt (H : Hp) : Cl → List V → Prop
  | nil : CapsAt H [] []
  | cons {y : Str} {a : Addr} {o : Obj} {u : Value} {v : V} {cl : Cl} {vs : List V} : H a = some (ObX a o) → o.data = .cell (some u) → RelV v u → CapsAt H cl vs → CapsAt H ((y, a) :: cl) (v :: vs)
/-- an error at a, of a class, with a dict -/
def ExV (a : Addr) (cls : Value) (dx : Option Addr) : HO := .ext fun h => ∃ (oe : Obj) (vs : Array Value), h.get? a = some oe ∧ Zc cls dx oe ∧ oe.data = .fields vs
mutual
/-- no closure, no error in it -/
def plain : W → Bool
  | .clo _ _ _ => false
  | .lam _ _ => false
  | .exo _ _ => false
  | .tup ws => plainL ws
  | .lst ws => plainL ws
  | .dct _ ws => plainL ws
  | .dcu _ ws => plainL ws
  | _ => true
def plainL : List W → Bool
  | [] => true
  | w :: ws => plain w && plainL ws
end
/-- what closures and errors lean on is kept -/
structure Kp (H H' : Hp) : Prop where
  ext : ∀ b φ, H b = some (.ext φ) → H' b = some (.ext φ)
  xd : ∀ b fs, H b = some (.xd fs) → H' b = some (.xd fs)
theorem LamAt.kp {K : PySem.W.Frag} {H H' : Hp} {f : Addr} {x : Str} {p : List Nat} {l : LamD} {cl : Cl} (k : Kp H H') (h : LamAt K H f x p l cl) : LamAt K H' f x p l cl := by
  obtain ⟨h0, dV, pm, ctv, c', one, h1, h2, h3, h4, h5⟩ := h
  refine ⟨h0, dV, pm, ctv, c', one, k.ext _ _ h1, k.ext _ _ h2, h3, h4, fun y hy => ?_⟩
  obtain ⟨D, u, e, hD⟩ := h5 y hy
  exact ⟨D, u, e, k.ext _ _ hD⟩
theorem CapsAt.kp {H H' : Hp} (k : Kp H H') : ∀ {cl : Cl} {vs : List V}, CapsAt H cl vs → CapsAt H' cl vs
  | _, _, .nil => .nil
  | _, _, .cons h1 h2 h3 r => .cons (k.ext _ _ h1) h2 h3 (CapsAt.kp k r)
mutual
inductive Rep (K : PySem.W.Frag) (c : Cc) (H : Hp) : W → V → Prop
  | non : Rep K c H .non .non
  | bl (b : Bool) : Rep K c H (.bl b) (.bl b)
  | int (i : Int) : Rep K c H (.int i) (.int i)
  | str (x : Str) : Rep K c H (.str x) (.str x)
  | tup {a : Addr} {vs : List V} {ws : List W} : SqT K H a vs → RepL K c H ws vs → Rep K c H (.tup ws) (.ref a)
  | lst {a : Addr} {vs : List V} {ws : List W} : a ∉ c.A → H a = some (.lst vs) → RepL K c H ws vs → Rep K c H (.lst ws) (.ref a)
  | dct {a : Addr} {kvs : List (Key × V)} {ws : List W} : a ∉ c.A → H a = some (.dK kvs) → RepL K c H ws (kvs.map (·.2)) → Rep K c H (.dct (kvs.map (·.1)) ws) (.ref a)
  | scr {a : Addr} {ns : List Int} : (a ∉ c.A ∧ Rd H a (.lst (ns.map V.int))) ∨ SqL K (fun _ => none) a (ns.map V.int) → Rep K c H (.scr ns.length) (.ref a)
  | stt : Rep K c H .stt (.ref c.S)
  | lam {f : Addr} {x : Str} {p : List Nat} {l : LamD} : LamAt K H f x p l (cloFrom c.C l.scope.names []) → Rep K c H (.lam x p) (.ref f)
  | clo {f : Addr} {x : Str} {p : List Nat} {l : LamD} {cl : Cl} {ws : List W} {vs : List V} : LamAt K H f x p l cl → cl.map (·.1) = (cloFrom [] l.scope.names []).map (·.1) → (cl.map (·.2)).Nodup → CapsAt H cl vs → plainL ws = true → RepL K c H ws vs → Rep K c H (.clo x p ws) (.ref f)
  | exo {a d : Addr} {n : Nat} {fs : List W} {vs : List V} : H a = some (ExV a (.ref (He.ga K (xName n))) (some d)) → H d = some (.xd ((xFlds n).zip vs).reverse) → vs.length = (xFlds n).length → RepL K c H fs vs → Rep K c H (.exo n fs) (.ref a)
  | obj {i : Nat} {a : Addr} : c.O[i]? = some a → Rep K c H (.obj i) (.ref a)
  | dcu {a : Addr} {kvs : List (List Key × V)} {ws : List W} : a ∉ c.A → H a = some (.dT kvs) → RepL K c H ws (kvs.map (·.2)) → Rep K c H (.dcu (kvs.map (·.1)) ws) (.ref a)
inductive RepL (K : PySem.W.Frag) (c : Cc) (H : Hp) : List W → List V → Prop
  | nil : RepL K c H [] []
  | cons {w : W} {v : V} {ws : List W} {vs : List V} : Rep K c H w v → RepL K c H ws vs → RepL K c H (w :: ws) (v :: vs)
end
theorem Step.sqT0 {K : PySem.W.Frag} {c : Cc} {d : Nat} {H H' : Hp} {a : Addr} {vs : List V} (st : Step c H H') (s : St0 c d H) (h : SqT K H a vs) : SqT K H' a vs := by
  obtain ⟨kvs, hS⟩ := s.S
  obtain ⟨xs, hl⟩ := s.la
  rcases h with (h | ⟨o, h⟩) | h
  · exact .inl (.inl (st.keep _ _ h (ne_of h hS (by intro z; cases z)) (ne_of h hl (by intro z; cases z)) nofun))
  · exact .inl (.inr ⟨o, st.keep _ _ h (ne_of h hS (by intro z; cases z)) (ne_of h hl (by intro z; cases z)) nofun⟩)
  · exact .inr h
/-- what is fixed through a run -/
structure CcOk (c : Cc) : Prop where
  inS : c.S ∈ c.A
  inla : c.la ∈ c.A
  inca : c.ca ∈ c.A
theorem CcOk.neS {c : Cc} (h : CcOk c) {a : Addr} (n : a ∉ c.A) : a ≠ c.S := fun e => n (e ▸ h.inS)
theorem CcOk.nela {c : Cc} (h : CcOk c) {a : Addr} (n : a ∉ c.A) : a ≠ c.la := fun e => n (e ▸ h.inla)
theorem sqL_split {K : PySem.W.Frag} {H : Hp} {a : Addr} {vs : List V} (h : SqL K H a vs) : Rd H a (.lst vs) ∨ SqL K (fun _ => none) a vs := by
  rcases h with h | h
  · exact .inl h
  · exact .inr (.inr h)
theorem sqL_of_none {K : PySem.W.Frag} {H : Hp} {a : Addr} {vs : List V} (h : SqL K (fun _ => none) a vs) : SqL K H a vs := by
  rcases h with (h | ⟨_, h⟩) | h
  · cases h
  · cases h
  · exact .inr h
section
variable {K : PySem.W.Frag} {c : Cc} {d : Nat} {H H' : Hp}
theorem Step.kp0 (st : Step c H H') (s : St0 c d H) : Kp H H' := by
  obtain ⟨kvs, hS⟩ := s.S
  obtain ⟨xs, hl⟩ := s.la
  exact ⟨fun b φ h => st.keep _ _ h (ne_of h hS nofun) (ne_of h hl nofun) nofun, fun b φ h => st.keep _ _ h (ne_of h hS nofun) (ne_of h hl nofun) nofun⟩
theorem Step.lst {a : Addr} {o : HO} (st : Step c H H') (ok : CcOk c) (n : a ∉ c.A) (h : H a = some o) (nt : NoT o := by nofun) : H' a = some o := st.keep a o h (ok.neS n) (ok.nela n) nt
mutual
theorem Rep.step0 (st : Step c H H') (s : St0 c d H) (ok : CcOk c) : ∀ {w : W} {v : V}, Rep K c H w v → Rep K c H' w v
  | _, _, .non => .non
  | _, _, .bl b => .bl b
  | _, _, .int i => .int i
  | _, _, .str x => .str x
  | _, _, .tup h r => .tup (st.sqT0 s h) (RepL.step0 st s ok r)
  | _, _, .lst n h r => .lst n (st.lst ok n h) (RepL.step0 st s ok r)
  | _, _, .dct n h r => .dct n (st.lst ok n h) (RepL.step0 st s ok r)
  | _, _, .scr h => .scr (h.imp (fun ⟨n, r⟩ => ⟨n, r.imp (fun e => st.lst ok n e) fun ⟨o, e⟩ => ⟨o, st.lst ok n e⟩⟩) id)
  | _, _, .stt => .stt
  | _, _, .obj h => .obj h
  | _, _, .dcu n h r => .dcu n (st.lst ok n h) (RepL.step0 st s ok r)
  | _, _, .lam h => .lam (h.kp (st.kp0 s))
  | _, _, .clo h g n k pl r => .clo (h.kp (st.kp0 s)) g n (k.kp (st.kp0 s)) pl (RepL.step0 st s ok r)
  | _, _, .exo h1 h2 h3 r => .exo ((st.kp0 s).ext _ _ h1) ((st.kp0 s).xd _ _ h2) h3 (RepL.step0 st s ok r)
theorem RepL.step0 (st : Step c H H') (s : St0 c d H) (ok : CcOk c) : ∀ {ws : List W} {vs : List V}, RepL K c H ws vs → RepL K c H' ws vs
  | _, _, .nil => .nil
  | _, _, .cons h r => .cons (Rep.step0 st s ok h) (RepL.step0 st s ok r)
end
/-- the classes of the program whose objects may be made, with their fields in the order of their making -/
def yAll : List (Str × List Str) := [("Words", ["own_words", "own_line", "own_spot"]), ("Polish", ["own_line_words", "own_count"]), ("Task", ["own_size", "own_many", "own_measure", "own_base", "own_table"]), ("Trial", ["held_receiver", "kept_past"]),
  ("Receiver", ["own_prime", "own_laying", "own_past"]), ("Desk", ["own_receiver"]), ("Shelf", ["own_layings"])]
def yName (n : Nat) : Str := (yAll.getD n ("", [])).1
def yFlds (n : Nat) : List Str := (yAll.getD n ("", [])).2
/-- at a stands an object with these fields -/
def ObAt (K : PySem.W.Frag) (c : Cc) (H : Hp) (a : Addr) (cl : Nat) (fs : List W) : Prop := ∃ (dx : Addr) (vs : List V), H a = some (.ins (He.ga K (yName cl)) dx ((yFlds cl).zip vs)) ∧ RepL K c H fs vs ∧ vs.length ≤ (yFlds cl).length ∧ plainL fs = true
/-- the program has none of these classes -/
def noObj (K : PySem.W.Frag) : Bool := yAll.all fun y => match PySem.W.nsIn K mainGlobals y.1 with
  | some (some _) => false
  | _ => true
structure ObOk (c : Cc) (os : List (Nat × List W)) (H : Hp) : Prop where
  ok : CcOk c
  len : c.O.length = os.length
  nd : c.O.Nodup
  at_ : ∀ (i : Nat) (a : Addr) (o : Nat × List W), c.O[i]? = some a → os[i]? = some o → ObAt c.K c H a o.1 o.2
  no : noObj c.K = true → os = []
/-- objects more -/
structure Gr (c c' : Cc) : Prop where
  S : c'.S = c.S
  ca : c'.ca = c.ca
  la : c'.la = c.la
  A : c'.A = c.A
  M : c'.M = c.M
  T : c'.T = c.T
  C : c'.C = c.C
  KK : c'.K = c.K
  O : c.O <+: c'.O
theorem Gr.refl (c : Cc) : Gr c c := ⟨rfl, rfl, rfl, rfl, rfl, rfl, rfl, rfl, List.prefix_rfl⟩
theorem Gr.trans {a b c : Cc} (g : Gr a b) (h : Gr b c) : Gr a c := ⟨h.S.trans g.S, h.ca.trans g.ca, h.la.trans g.la, h.A.trans g.A, h.M.trans g.M, h.T.trans g.T, h.C.trans g.C, h.KK.trans g.KK, g.O.trans h.O⟩
theorem Gr.at {c c' : Cc} (g : Gr c c') {i : Nat} {a : Addr} (h : c.O[i]? = some a) : c'.O[i]? = some a := by
  obtain ⟨m, e⟩ := g.O
  rw [← e, List.getElem?_append_left (List.getElem?_eq_some_iff.mp h).1]
  exact h
mutual
theorem Rep.gr {c' : Cc} (g : Gr c c') : ∀ {w : W} {v : V}, Rep K c H w v → Rep K c' H w v
  | _, _, .non => .non
  | _, _, .bl b => .bl b
  | _, _, .int i => .int i
  | _, _, .str x => .str x
  | _, _, .tup h r => .tup h (RepL.gr g r)
  | _, _, .lst n h r => .lst (by rw [g.A]; exact n) h (RepL.gr g r)
  | _, _, .dct n h r => .dct (by rw [g.A]; exact n) h (RepL.gr g r)
  | _, _, .dcu n h r => .dcu (by rw [g.A]; exact n) h (RepL.gr g r)
  | _, _, .scr h => .scr (by rw [g.A]; exact h)
  | _, _, .stt => by rw [← g.S]; exact .stt
  | _, _, .lam h => .lam (by rw [g.C]; exact h)
  | _, _, .clo h q n k pl r => .clo h q n k pl (RepL.gr g r)
  | _, _, .exo h1 h2 h3 r => .exo h1 h2 h3 (RepL.gr g r)
  | _, _, .obj h => .obj (g.at h)
theorem RepL.gr {c' : Cc} (g : Gr c c') : ∀ {ws : List W} {vs : List V}, RepL K c H ws vs → RepL K c' H ws vs
  | _, _, .nil => .nil
  | _, _, .cons h r => .cons (Rep.gr g h) (RepL.gr g r)
end
theorem Step.gr {c c' : Cc} {H H' : Hp} (g : Gr c c') (st : Step c' H H') : Step c H H' := ⟨fun b o e h1 h2 n => st.keep b o e (by rw [g.S]; exact h1) (by rw [g.la]; exact h2) n, st.tbl, st.ins⟩
theorem Step.gr' {c c' : Cc} {H H' : Hp} (g : Gr c c') (st : Step c H H') : Step c' H H' := ⟨fun b o e h1 h2 n => st.keep b o e (by rw [← g.S]; exact h1) (by rw [← g.la]; exact h2) n, st.tbl, st.ins⟩
theorem CcOk.gr {c c' : Cc} (g : Gr c c') (h : CcOk c) : CcOk c' := ⟨by rw [g.S, g.A]; exact h.inS, by rw [g.la, g.A]; exact h.inla, by rw [g.ca, g.A]; exact h.inca⟩
/-- a step, with objects more -/
structure SG (c c' : Cc) (H H' : Hp) : Prop where
  g : Gr c c'
  st : Step c H H'
theorem SG.refl (c : Cc) (H : Hp) : SG c c H H := ⟨.refl c, .refl c H⟩
theorem SG.of {c : Cc} {H H' : Hp} (st : Step c H H') : SG c c H H' := ⟨.refl c, st⟩
theorem SG.trans {a b c : Cc} {H H1 H2 : Hp} (x : SG a b H H1) (y : SG b c H1 H2) : SG a c H H2 := ⟨x.g.trans y.g, x.st.trans (y.st.gr x.g)⟩
theorem SG.new {c : Cc} {H : Hp} {p : Addr} {o : HO} (n : H p = none) : SG c c H (upd H p o) := .of (.new n)
theorem SG.same {c : Cc} {H H' : Hp} (h : ∀ b o, H b = some o → H' b = some o) : SG c c H H' := .of (.same h)
/-- the state and the objects stand -/
def StOk (c : Cc) (d : Dw) (H : Hp) : Prop := St0 c d.n H ∧ ObOk c d.os H
end
section
variable {K : PySem.W.Frag} {c : Cc} {d : Dw} {H H' : Hp}
theorem StOk.tab (s : StOk c d H) : LamX.Tabs c.T H := s.1.tab
theorem StOk.S (s : StOk c d H) : ∃ kvs, H c.S = some (.dK kvs) := s.1.S
theorem StOk.la (s : StOk c d H) : ∃ xs, H c.la = some (.lst xs) := s.1.la
theorem Step.sqT {a : Addr} {vs : List V} (st : Step c H H') (s : StOk c d H) (h : SqT K H a vs) : SqT K H' a vs := st.sqT0 s.1 h
theorem Step.kp (st : Step c H H') (s : StOk c d H) : Kp H H' := st.kp0 s.1
theorem Rep.step {w : W} {v : V} {c' : Cc} (h : Rep K c H w v) (st : SG c c' H H') (s : StOk c d H) (ok : CcOk c) : Rep K c' H' w v := (Rep.step0 st.st s.1 ok h).gr st.g
theorem RepL.step {w : List W} {v : List V} {c' : Cc} (h : RepL K c H w v) (st : SG c c' H H') (s : StOk c d H) (ok : CcOk c) : RepL K c' H' w v := (RepL.step0 st.st s.1 ok h).gr st.g
/-- objects whose heap does not change -/
theorem ObAt.same {a : Addr} {cl : Nat} {fs : List W} {c' : Cc} (h : ObAt K c H a cl fs) (e : H a = H' a) (r : ∀ ws vs, RepL K c H ws vs → RepL K c' H' ws vs) : ObAt K c' H' a cl fs := by
  obtain ⟨dx, vs, h1, h3, h4⟩ := h
  exact ⟨dx, vs, by rw [← e]; exact h1, r _ _ h3, h4⟩
theorem ObAt.some {a : Addr} {cl : Nat} {fs : List W} (h : ObAt K c H a cl fs) : ∃ C dx fl, H a = some (.ins C dx fl) := by
  obtain ⟨dx, vs, h1, _⟩ := h
  exact ⟨_, dx, _, h1⟩
theorem ObOk.same {c' : Cc} {os : List (Nat × List W)} (h : ObOk c os H) (ok : CcOk c') (eO : c'.O = c.O) (eK : c'.K = c.K) (e : ∀ a C dx fl, H a = Option.some (.ins C dx fl) → H' a = Option.some (.ins C dx fl)) (r : ∀ ws vs, RepL c.K c H ws vs → RepL c.K c' H' ws vs) : ObOk c' os H' := ⟨ok, by rw [eO]; exact h.len, by rw [eO]; exact h.nd, fun i a o h1 h2 => by
  rw [eO] at h1
  have q := h.at_ i a o h1 h2
  obtain ⟨C, dx, fl, h3⟩ := q.some
  rw [eK]
  exact q.same (h3.trans (e a C dx fl h3).symm) r, by rw [eK]; exact h.no⟩
theorem StOk.new {p : Addr} {o : HO} (s : StOk c d H) (n : H p = none) : StOk c d (upd H p o) := ⟨s.1.new n, s.2.same s.2.ok rfl rfl (fun a C dx fl h => by rw [upd_ne (ne_of_none h n)]; exact h) fun ws vs r => r.step (.new n) s s.2.ok⟩
end
section
variable {K : PySem.W.Frag} {c : Cc} {d : Dw} {H H' : Hp}
theorem RepL.length : ∀ {ws : List W} {vs : List V}, RepL K c H ws vs → ws.length = vs.length
  | _, _, .nil => rfl
  | _, _, .cons _ r => congrArg (· + 1) (RepL.length r)
theorem RepL.get : ∀ {ws : List W} {vs : List V}, RepL K c H ws vs → ∀ {i : Nat} {w : W}, ws[i]? = some w → ∃ v, vs[i]? = some v ∧ Rep K c H w v
  | _, _, .nil, i, w, e => by simp at e
  | _, _, .cons h r, 0, w, e => by
    simp at e
    subst e
    exact ⟨_, rfl, h⟩
  | _, _, .cons h r, i + 1, w, e => by
    obtain ⟨v, e1, e2⟩ := RepL.get r (i := i) (w := w) (by simpa using e)
    exact ⟨v, by simpa using e1, e2⟩
theorem RepL.append : ∀ {ws ws' : List W} {vs vs' : List V}, RepL K c H ws vs → RepL K c H ws' vs' → RepL K c H (ws ++ ws') (vs ++ vs')
  | _, _, _, _, .nil, h => h
  | _, _, _, _, .cons h r, h' => .cons h (RepL.append r h')
theorem RepL.take : ∀ {ws : List W} {vs : List V} (n : Nat), RepL K c H ws vs → RepL K c H (ws.take n) (vs.take n)
  | _, _, 0, _ => .nil
  | _, _, _ + 1, .nil => .nil
  | _, _, n + 1, .cons h r => .cons h (RepL.take n r)
theorem RepL.drop : ∀ {ws : List W} {vs : List V} (n : Nat), RepL K c H ws vs → RepL K c H (ws.drop n) (vs.drop n)
  | _, _, 0, r => r
  | _, _, _ + 1, .nil => .nil
  | _, _, n + 1, .cons _ r => RepL.drop n r
theorem RepL.set : ∀ {ws : List W} {vs : List V} {w : W} {v : V} (n : Nat), RepL K c H ws vs → Rep K c H w v → RepL K c H (ws.set n w) (vs.set n v)
  | _, _, _, _, _, .nil, _ => .nil
  | _, _, _, _, 0, .cons _ r, h => .cons h r
  | _, _, _, _, n + 1, .cons q r, h => .cons q (RepL.set n r h)
theorem RepL.reverse : ∀ {ws : List W} {vs : List V}, RepL K c H ws vs → RepL K c H ws.reverse vs.reverse
  | _, _, .nil => .nil
  | _, _, .cons h r => by
    rw [List.reverse_cons, List.reverse_cons]
    exact (RepL.reverse r).append (.cons h .nil)
/-- a list of ints, of bools, of texts: the values are told -/
theorem RepL.ints : ∀ {ns : List Int} {vs : List V}, RepL K c H (ns.map W.int) vs → vs = ns.map V.int
  | [], _, .nil => rfl
  | n :: ns, _, .cons h r => by
    cases h
    rw [RepL.ints r]
    rfl
theorem RepL.bls : ∀ {ns : List Bool} {vs : List V}, RepL K c H (ns.map W.bl) vs → vs = ns.map V.bl
  | [], _, .nil => rfl
  | n :: ns, _, .cons h r => by
    cases h
    rw [RepL.bls r]
    rfl
theorem RepL.strs : ∀ {ns : List Str} {vs : List V}, RepL K c H (ns.map W.str) vs → vs = ns.map V.str
  | [], _, .nil => rfl
  | n :: ns, _, .cons h r => by
    cases h
    rw [RepL.strs r]
    rfl
theorem RepL.ofInts : ∀ (ns : List Int), RepL K c H (ns.map W.int) (ns.map V.int)
  | [] => .nil
  | n :: ns => .cons (.int n) (RepL.ofInts ns)
end
theorem Step.there {c : Cc} {H H' : Hp} {b : Addr} {o : HO} (st : Step c H H') (h : H b = some o) (h1 : b ≠ c.S) (h2 : b ≠ c.la) : ∃ o', H' b = some o' := by
  cases o with
  | tbl ps =>
    obtain ⟨m, e⟩ := st.tbl b ps h
    exact ⟨_, e⟩
  | ins C dx fs =>
    obtain ⟨gs, e⟩ := st.ins b C dx fs h
    exact ⟨_, e⟩
  | _ => exact ⟨_, st.keep b _ h h1 h2 nofun⟩
def OwnO (o : HO) : Prop := (∃ xs, o = .lst xs) ∨ ∃ xs, o = .dK xs
theorem OwnO.noT {o : HO} (h : OwnO o) : NoT o := by
  rcases h with ⟨xs, rfl⟩ | ⟨xs, rfl⟩
  · exact nofun
  · exact nofun
/-- the world stands -/
structure Wd (c : Cc) (d : Dw) (H : Hp) : Prop where
  ok : CcOk c
  st : StOk c d H
  av : ∀ b ∈ c.A, ∃ o, H b = some o ∧ OwnO o
theorem Wd.fresh {c : Cc} {d : Dw} {H : Hp} {p : Addr} (w : Wd c d H) (n : H p = none) : p ∉ c.A := fun h => by
  obtain ⟨o, e, _⟩ := w.av p h
  rw [n] at e
  cases e
theorem Wd.step {c c' : Cc} {d d' : Dw} {H H' : Hp} (w : Wd c d H) (st : SG c c' H H') (s' : StOk c' d' H') : Wd c' d' H' := ⟨w.ok.gr st.g, s', fun b hb => by
    rw [st.g.A] at hb
    obtain ⟨o, h, w⟩ := w.av b hb
    by_cases h1 : b = c.S
    · obtain ⟨kvs, h2⟩ := s'.S
      rw [st.g.S] at h2
      exact ⟨_, h1 ▸ h2, .inr ⟨_, rfl⟩⟩
    · by_cases h2 : b = c.la
      · obtain ⟨xs, h3⟩ := s'.la
        rw [st.g.la] at h3
        exact ⟨_, h2 ▸ h3, .inl ⟨_, rfl⟩⟩
      · exact ⟨o, st.st.keep b o h h1 h2 w.noT, w⟩⟩
theorem Wd.new {c : Cc} {d : Dw} {H : Hp} {p : Addr} {o : HO} (w : Wd c d H) (n : H p = none) : Wd c d (upd H p o) := w.step (.new n) (w.st.new n)
/-- of each function of the written part: the table of its code, the name of its lambdas -/
def tabL (K : PySem.W.Frag) : List (Addr × Str) := K.filterMap fun x => match x.2.data with
  | .func fd => (match fd.code with
    | .ref c => some (He.tabOf K c, fd.qualname ++ ".<locals>." ++ "<lambda>")
    | _ => none)
  | _ => none
inductive Sl where
  | un | val (w : W) | own (ws : List W) | odc (kvs : List (Key × W))
abbrev En := List Sl
/-- pairs that stand for a dict's pairs -/
def RepD (K : PySem.W.Frag) (c : Cc) (H : Hp) (acc : List (Key × W)) (kvs : List (Key × V)) : Prop := acc.map (·.1) = kvs.map (·.1) ∧ RepL K c H (acc.map (·.2)) (kvs.map (·.2))
/-- the frame's own lists -/
structure MOk (c : Cc) (H : Hp) : Prop where
  inA : ∀ b ∈ c.M, b ∈ c.A
  nst : ∀ b ∈ c.M, b ∉ [c.S, c.ca, c.la]
  ls : ∀ b ∈ c.M, ∃ o, H b = some o ∧ OwnO o
theorem MOk.step {c c' : Cc} {H H' : Hp} (m : MOk c H) (st : SG c c' H H') : MOk c' H' := ⟨fun b hb => by
  rw [st.g.A]
  rw [st.g.M] at hb
  exact m.inA b hb, fun b hb => by
  rw [st.g.M] at hb
  rw [st.g.S, st.g.ca, st.g.la]
  exact m.nst b hb, fun b hb => by
  rw [st.g.M] at hb
  obtain ⟨o, h, w⟩ := m.ls b hb
  have n := m.nst b hb
  simp only [List.mem_cons, not_or] at n
  exact ⟨o, st.st.keep b _ h n.1 n.2.2.1 w.noT, w⟩⟩
/-- oa: the addresses of the lists that the frame's own slots hold -/
structure EnvOk (K : PySem.W.Frag) (Γ : Cl) (c : Cc) (d : Dw) (oa : Nat → Addr) (ρ : En) (σ : St) (H : Hp) : Prop where
  ok : CcOk c
  st : StOk c d H
  av : ∀ b ∈ c.A, ∃ o, H b = some o ∧ OwnO o
  len : ρ.length = σ.length
  val : ∀ (i : Nat) (w : W), ρ[i]? = some (.val w) → ∃ v, σ[i]? = some (some v) ∧ Rep K c H w v
  m : MOk c H
  own : ∀ (i : Nat) (ws : List W), ρ[i]? = some (.own ws) → oa i ∈ c.M ∧ σ[i]? = some (some (.ref (oa i))) ∧ ∃ vs, H (oa i) = some (.lst vs) ∧ RepL K c H ws vs
  inj : ∀ (i j : Nat) (ws us : List W), ρ[i]? = some (.own ws) → ρ[j]? = some (.own us) → oa i = oa j → i = j
  odc : ∀ (i : Nat) (kvs : List (Key × W)), ρ[i]? = some (.odc kvs) → oa i ∈ c.M ∧ σ[i]? = some (some (.ref (oa i))) ∧ ∃ vs, H (oa i) = some (.dK vs) ∧ RepD K c H kvs vs
  ido : ∀ (i j : Nat) (ks ls : List (Key × W)), ρ[i]? = some (.odc ks) → ρ[j]? = some (.odc ls) → oa i = oa j → i = j
  tT : c.T = tabL K
  cC : c.C = Γ
  kK : c.K = K
section
variable {K : PySem.W.Frag} {c : Cc} {d d' : Dw} {oa : Nat → Addr} {ρ : En} {σ : St} {H H' : Hp}
theorem EnvOk.wd (e : EnvOk K Γ c d oa ρ σ H) : Wd c d H := ⟨e.ok, e.st, e.av⟩
theorem EnvOk.step {c' : Cc} (e : EnvOk K Γ c d oa ρ σ H) (st : SG c c' H H') (s' : StOk c' d' H') : EnvOk K Γ c' d' oa ρ σ H' where
  ok := e.ok.gr st.g
  st := s'
  av := (e.wd.step st s').av
  len := e.len
  val := fun i w h => by
    obtain ⟨v, h1, h2⟩ := e.val i w h
    exact ⟨v, h1, h2.step st e.st e.ok⟩
  m := e.m.step st
  own := fun i ws h => by
    obtain ⟨h1, h3, vs, h4, h5⟩ := e.own i ws h
    have h2 := e.m.nst _ h1
    refine ⟨by rw [st.g.M]; exact h1, h3, vs, st.st.keep _ _ h4 ?_ ?_ nofun, h5.step st e.st e.ok⟩
    · intro z
      exact h2 (by rw [z]; simp)
    · intro z
      exact h2 (by rw [z]; simp)
  inj := e.inj
  odc := fun i ws h => by
    obtain ⟨h1, h3, vs, h4, h5⟩ := e.odc i ws h
    have h2 := e.m.nst _ h1
    refine ⟨by rw [st.g.M]; exact h1, h3, vs, st.st.keep _ _ h4 ?_ ?_ nofun, h5.1, h5.2.step st e.st e.ok⟩
    · intro z
      exact h2 (by rw [z]; simp)
    · intro z
      exact h2 (by rw [z]; simp)
  ido := e.ido
  tT := st.g.T.trans e.tT
  cC := st.g.C.trans e.cC
  kK := st.g.KK.trans e.kK
end
/-- an error's class is the module's n-th name; its dict holds the fields -/
def RepX (K : PySem.W.Frag) (c : Cc) (H : Hp) (n : Nat) (fs : List W) (cls : Value) (dx : Option Addr) : Prop :=
  cls = .ref (He.ga K (xName n)) ∧ ∃ (d : Addr) (vs : List V), dx = some d ∧ H d = some (.xd ((xFlds n).zip vs).reverse) ∧ vs.length = (xFlds n).length ∧ RepL K c H fs vs
/-- what is wanted of an expression's run -/
def PQ (K : PySem.W.Frag) (c : Cc) (H : Hp) (Q : VK) : Dw → W → Prop := fun d w => ∀ ⦃c' : Cc⦄ v H', SG c c' H H' → StOk c' d H' → Rep K c' H' w v → Q v H'
def PQL (K : PySem.W.Frag) (c : Cc) (H : Hp) (Q : List V → Hp → Prop) : Dw → List W → Prop := fun d ws => ∀ ⦃c' : Cc⦄ vs H', SG c c' H H' → StOk c' d H' → RepL K c' H' ws vs → Q vs H'
def PB (c : Cc) (H : Hp) (Q : Bool → Hp → Prop) : Dw → Bool → Prop := fun d b => ∀ ⦃c' : Cc⦄ H', SG c c' H H' → StOk c' d H' → Q b H'
theorem PB.later {c c1 : Cc} {H H1 : Hp} {Q : Bool → Hp → Prop} {d : Dw} {b : Bool} (s : SG c c1 H H1) (h : PB c H Q d b) : PB c1 H1 Q d b := fun _ H' st so => h H' (s.trans st) so
def PX (K : PySem.W.Frag) (c : Cc) (H : Hp) (E : XK) : Dw → Nat → List W → Prop := fun d n fs => ∀ ⦃c' : Cc⦄ cls dx H', SG c c' H H' → StOk c' d H' → RepX K c' H' n fs cls dx → E cls dx H'
theorem PQ.later {K : PySem.W.Frag} {c c1 : Cc} {H H1 : Hp} {Q : VK} {d : Dw} {w : W} (s : SG c c1 H H1) (h : PQ K c H Q d w) : PQ K c1 H1 Q d w := fun _ v H' st so r => h v H' (s.trans st) so r
theorem PQL.later {K : PySem.W.Frag} {c c1 : Cc} {H H1 : Hp} {Q : List V → Hp → Prop} {d : Dw} {w : List W} (s : SG c c1 H H1) (h : PQL K c H Q d w) : PQL K c1 H1 Q d w := fun _ v H' st so r => h v H' (s.trans st) so r
theorem PX.later {K : PySem.W.Frag} {c c1 : Cc} {H H1 : Hp} {E : XK} {n : Nat} {d : Dw} {fs : List W} (s : SG c c1 H H1) (h : PX K c H E d n fs) : PX K c1 H1 E d n fs := fun _ v dx H' st so r => h v dx H' (s.trans st) so r
def liftE (K : PySem.W.Frag) (Γ : Cl) (E : WX) (f : En → T W) : TE := fun σ H Q => ∃ c d oa ρ, EnvOk K Γ c d oa ρ σ H ∧ (f ρ).AllW (PQ K c H Q) (PX K c H fun cls dx H' => E cls dx σ H') d
def liftA (K : PySem.W.Frag) (Γ : Cl) (E : WX) (f : En → T (List W)) : TA := fun σ H Q => ∃ c d oa ρ, EnvOk K Γ c d oa ρ σ H ∧ (f ρ).AllW (PQL K c H Q) (PX K c H fun cls dx H' => E cls dx σ H') d
def liftB (K : PySem.W.Frag) (Γ : Cl) (E : WX) (f : En → T Bool) : TT := fun σ H Q => ∃ c d oa ρ, EnvOk K Γ c d oa ρ σ H ∧ (f ρ).AllW (PB c H Q) (PX K c H fun cls dx H' => E cls dx σ H') d
def TrE (Γ : Cl) (X : Cx) (E : WX) (e : Expr) (f : En → T W) : Prop := PE X e (liftE X.K Γ E f)
def TrA (Γ : Cl) (X : Cx) (E : WX) (es : List Expr) (f : En → T (List W)) : Prop := PA X es (liftA X.K Γ E f)
def TrB (Γ : Cl) (X : Cx) (E : WX) (e : Expr) (f : En → T Bool) : Prop := PT X e (liftB X.K Γ E f)
theorem pe_imp {X : Cx} {e : Expr} {t t' : TE} (h : PE X e t) (i : ∀ σ H Q, t' σ H Q → t σ H Q) : PE X e t' := ⟨fun pins s σ H Q I q => h.run pins s σ H Q I (i σ H Q q)⟩
theorem pa_imp {X : Cx} {e : List Expr} {t t' : TA} (h : PA X e t) (i : ∀ σ H Q, t' σ H Q → t σ H Q) : PA X e t' := ⟨fun pos pins s σ H Q I q => h.run pos pins s σ H Q I (i σ H Q q)⟩
theorem pt_imp {X : Cx} {e : Expr} {t t' : TT} (h : PT X e t) (i : ∀ σ H Q, t' σ H Q → t σ H Q) : PT X e t' := ⟨fun pins s σ H Q I q => h.run pins s σ H Q I (i σ H Q q)⟩
theorem pw_imp {X : Cx} {e : Expr} {t t' : TT} (h : PW X e t) (i : ∀ σ H Q, t' σ H Q → t σ H Q) : PW X e t' := ⟨fun wh pins s σ H Q I q => h.run wh pins s σ H Q I (i σ H Q q)⟩
theorem ps_imp {X : Cx} {e : Stmt} {t t' : TS} (h : PS X e t) (i : ∀ D σ H, t' D σ H → t D σ H) : PS X e t' := ⟨fun pins s σ H D I q => h.run pins s σ H D I (i D σ H q)⟩
theorem pss_imp {X : Cx} {e : List Stmt} {t t' : TS} (h : PSs X e t) (i : ∀ D σ H, t' D σ H → t D σ H) : PSs X e t' := ⟨fun pins s σ H D I q => h.run pins s σ H D I (i D σ H q)⟩
section
variable {K : PySem.W.Frag} {E : WX} {f : En → T W} {g : W → T W} {c : Cc} {d : Dw} {oa : Nat → Addr} {ρ : En} {σ : St} {H : Hp} {Q : VK}
/-- a run, then something of its value -/
theorem lift_then {β : Type} {P : Cc → Hp → Dw → β → Prop} {G : W → T β} {R : V → Hp → Prop} (e : EnvOk K Γ c d oa ρ σ H) (h : ((f ρ).bind G).AllW (P c H) (PX K c H fun cls dx H' => E cls dx σ H') d)
    (lt : ∀ {c1 H1 d' b}, SG c c1 H H1 → P c H d' b → P c1 H1 d' b)
    (go : ∀ {c1 : Cc} w v H1 d1, SG c c1 H H1 → Rep K c1 H1 w v → EnvOk K Γ c1 d1 oa ρ σ H1 → (G w).AllW (P c1 H1) (PX K c1 H1 fun cls dx H' => E cls dx σ H') d1 → R v H1) : liftE K Γ E f σ H R := by
  refine ⟨c, d, oa, ρ, e, T.AllW.imp (fun d1 w x => ?_) (fun _ _ _ x => x) (T.allW_bind.mp h)⟩
  intro c1 v H1 st so r
  exact go w v H1 d1 st r (e.step st so) (T.AllW.imp (fun _ _ y => lt st y) (fun _ _ _ y => y.later st) x)
theorem liftB_then {β : Type} {fb : En → T Bool} {P : Cc → Hp → Dw → β → Prop} {G : Bool → T β} {R : Bool → Hp → Prop} (e : EnvOk K Γ c d oa ρ σ H) (h : ((fb ρ).bind G).AllW (P c H) (PX K c H fun cls dx H' => E cls dx σ H') d)
    (lt : ∀ {c1 H1 d' b}, SG c c1 H H1 → P c H d' b → P c1 H1 d' b)
    (go : ∀ {c1 : Cc} b H1 d1, SG c c1 H H1 → EnvOk K Γ c1 d1 oa ρ σ H1 → (G b).AllW (P c1 H1) (PX K c1 H1 fun cls dx H' => E cls dx σ H') d1 → R b H1) : liftB K Γ E fb σ H R := by
  refine ⟨c, d, oa, ρ, e, T.AllW.imp (fun d1 w x => ?_) (fun _ _ _ x => x) (T.allW_bind.mp h)⟩
  intro c1 H1 st so
  exact go w H1 d1 st (e.step st so) (T.AllW.imp (fun _ _ y => lt st y) (fun _ _ _ y => y.later st) x)
theorem liftA_then {β : Type} {fs : En → T (List W)} {P : Cc → Hp → Dw → β → Prop} {G : List W → T β} {R : List V → Hp → Prop} (e : EnvOk K Γ c d oa ρ σ H) (h : ((fs ρ).bind G).AllW (P c H) (PX K c H fun cls dx H' => E cls dx σ H') d)
    (lt : ∀ {c1 H1 d' b}, SG c c1 H H1 → P c H d' b → P c1 H1 d' b)
    (go : ∀ {c1 : Cc} w v H1 d1, SG c c1 H H1 → RepL K c1 H1 w v → EnvOk K Γ c1 d1 oa ρ σ H1 → (G w).AllW (P c1 H1) (PX K c1 H1 fun cls dx H' => E cls dx σ H') d1 → R v H1) : liftA K Γ E fs σ H R := by
  refine ⟨c, d, oa, ρ, e, T.AllW.imp (fun d1 w x => ?_) (fun _ _ _ x => x) (T.allW_bind.mp h)⟩
  intro c1 v H1 st so r
  exact go w v H1 d1 st r (e.step st so) (T.AllW.imp (fun _ _ y => lt st y) (fun _ _ _ y => y.later st) x)
end
end PF
namespace PF
open PySem PySem.Spec PyProof.Rows L2
section
variable {K : PySem.W.Frag} {c : Cc} {d : Dw} {H : Hp} {Q : VK} {E' : Dw → Nat → List W → Prop}
theorem PQ.now {w : W} {v : V} (wd : Wd c d H) (h : PQ K c H Q d w) (r : Rep K c H w v) : Q v H := h v H (.refl _ H) wd.st r
theorem PQ.tup {ws : List W} {vs : List V} {p : Addr} (wd : Wd c d H) (h : PQ K c H Q d (.tup ws)) (r : RepL K c H ws vs) (n : H p = none) : Q (.ref p) (upd H p (.tup vs)) :=
  h _ _ (.new n) (wd.st.new n) (.tup (.of upd_same) (r.step (.new n) wd.st wd.ok))
theorem PQ.lst {ws : List W} {vs : List V} {p : Addr} (wd : Wd c d H) (h : PQ K c H Q d (.lst ws)) (r : RepL K c H ws vs) (n : H p = none) : Q (.ref p) (upd H p (.lst vs)) :=
  h _ _ (.new n) (wd.st.new n) (.lst (wd.fresh n) upd_same (r.step (.new n) wd.st wd.ok))
end
def gV (i : Nat) (ρ : En) : T W := match ρ[i]? with
  | some (.val w) => .ok w
  | _ => .bad
section
variable {X : Cx} {E : WX}
theorem gV_ok {K : PySem.W.Frag} {c : Cc} {d : Dw} {oa : Nat → Addr} {ρ : En} {σ : St} {H : Hp} {i : Nat} {P : Dw → W → Prop} {E' : Dw → Nat → List W → Prop} (e : EnvOk K Γ c d oa ρ σ H) (h : (gV i ρ).AllW P E' d) :
    ∃ w v, σ[i]? = some (some v) ∧ Rep K c H w v ∧ P d w := by
  unfold gV at h
  split at h
  · rename_i w hw
    obtain ⟨v, h1, h2⟩ := e.val i w hw
    exact ⟨w, v, h1, h2, h⟩
  · exact h.elim
theorem tr_var (i : Nat) {x : Str} {pos : Pos} (hN : X.N[i]? = some x := by rfl) (hv : Vis X.env.scope x := by first | exact Or.inl rfl | exact Or.inr (Or.inl rfl) | exact Or.inr (Or.inr rfl)) (hd : (x == ("__debug__" : Str)) = false := by decide)
    (hcd : (x == ("__classdict__" : Str)) = false := by decide) : TrE Γ X E (.Name x pos) (gV i) := pe_imp (pe_var hN hv hd hcd) fun σ H Q h => by
  obtain ⟨c, d, oa, ρ, e, h⟩ := h
  obtain ⟨w, v, h1, h2, h3⟩ := gV_ok e h
  exact ⟨v, h1, PQ.now e.wd h3 h2⟩
theorem tr_const {e : Expr} {v : V} {w : W} (h : PE X e (tC v)) (r : ∀ c H, Rep X.K c H w v) : TrE Γ X E e (fun _ => .ok w) := pe_imp h fun σ H Q h => by
  obtain ⟨c, d, oa, ρ, e, h⟩ := h
  exact PQ.now e.wd h (r c H)
theorem tr_int {i j pos} : TrE Γ X E (.Constant (.int i) j pos) (fun _ => .ok (.int i)) := tr_const pe_int fun _ _ => .int i
theorem tr_bl {b j pos} : TrE Γ X E (.Constant (.bool b) j pos) (fun _ => .ok (.bl b)) := tr_const pe_bl fun _ _ => .bl b
theorem tr_non {j pos} : TrE Γ X E (.Constant .none j pos) (fun _ => .ok .non) := tr_const pe_non fun _ _ => .non
theorem tr_str {x j pos} : TrE Γ X E (.Constant (.str x) j pos) (fun _ => .ok (.str x)) := tr_const pe_str fun _ _ => .str x
theorem tr_glob {x : Str} {v : V} {u : Value} {w : W} {pos : Pos} (hg : Gl X x) (hm : X.mg x = some u) (r : RelV v u) (rw_ : ∀ c H, Rep X.K c H w v) (hd : (x == ("__debug__" : Str)) = false := by decide) : TrE Γ X E (.Name x pos) (fun _ => .ok w) :=
  tr_const (pe_glob hg hm r hd) rw_
end
def f2 (g : W → W → T W) (fa fb : En → T W) : En → T W := fun ρ => (fa ρ).bind fun x => (fb ρ).bind fun y => g x y
def f1 (g : W → T W) (fa : En → T W) : En → T W := fun ρ => (fa ρ).bind g
def Sem2 (K : PySem.W.Frag) (r : R2) (g : W → W → T W) : Prop := ∀ (c : Cc) (d : Dw) (H : Hp) (x y : W) (v u : V) (Q : VK) (E' : Dw → Nat → List W → Prop), Wd c d H → Rep K c H x v → Rep K c H y u → (g x y).AllW (PQ K c H Q) E' d → r v u H Q
def Sem1 (K : PySem.W.Frag) (r : V → Hp → VK → Prop) (g : W → T W) : Prop := ∀ (c : Cc) (d : Dw) (H : Hp) (x : W) (v : V) (Q : VK) (E' : Dw → Nat → List W → Prop), Wd c d H → Rep K c H x v → (g x).AllW (PQ K c H Q) E' d → r v H Q
def SemL (K : PySem.W.Frag) (r : List V → Hp → VK → Prop) (g : List W → T W) : Prop := ∀ (c : Cc) (d : Dw) (H : Hp) (x : List W) (v : List V) (Q : VK) (E' : Dw → Nat → List W → Prop), Wd c d H → RepL K c H x v → (g x).AllW (PQ K c H Q) E' d → r v H Q
section
variable {X : Cx} {E : WX} {a b cc : Expr} {fa fb fc : En → T W} {g : W → W → T W} {g1 : W → T W} {r r' : R2} {pos : Pos}
theorem two (hs : Sem2 X.K r g) : ∀ σ H Q, liftE X.K Γ E (f2 g fa fb) σ H Q → tOp r (liftE X.K Γ E fa) (liftE X.K Γ E fb) σ H Q := fun σ H Q h => by
  obtain ⟨c, d, oa, ρ, e, h⟩ := h
  refine lift_then (P := fun c H => PQ X.K c H Q) e h (fun st p => p.later st) fun w v H1 d1 _ r1 e1 h1 => ?_
  refine lift_then (P := fun c H => PQ X.K c H Q) e1 h1 (fun st p => p.later st) fun w2 v2 H2 d2 st2 r2 e2 h2 => ?_
  exact hs _ d2 H2 w w2 v v2 Q _ e2.wd (r1.step st2 e1.st e1.ok) r2 h2
theorem one {r1 : V → Hp → VK → Prop} (hs : Sem1 X.K r1 g1) : ∀ σ H Q, liftE X.K Γ E (f1 g1 fa) σ H Q → tUn r1 (liftE X.K Γ E fa) σ H Q := fun σ H Q h => by
  obtain ⟨c, d, oa, ρ, e, h⟩ := h
  refine lift_then (P := fun c H => PQ X.K c H Q) e h (fun st p => p.later st) fun w v H1 d1 _ r1 e1 h1 => ?_
  exact hs _ d1 H1 w v Q _ e1.wd r1 h1
theorem tr_op {op : Operator} (ho : OpR X (binaryOp op) r) (hs : Sem2 X.K r g) (ha : TrE Γ X E a fa) (hb : TrE Γ X E b fb) : TrE Γ X E (.BinOp a op b pos) (f2 g fa fb) := pe_imp (pe_op ho ha hb) (two hs)
theorem tr_un {op : UnaryOp} {r1 : V → Hp → VK → Prop} (ho : UnR X (unaryOp op) r1) (hs : Sem1 X.K r1 g1) (ha : TrE Γ X E a fa) : TrE Γ X E (.UnaryOp op a pos) (f1 g1 fa) := pe_imp (pe_un ho ha) (one hs)
theorem tr_cmp {op : CmpOp} (ho : OpR X (compareOp op) r) (hs : Sem2 X.K r g) (ha : TrE Γ X E a fa) (hb : TrE Γ X E b fb) (hm : behindInMarks op b = false) : TrE Γ X E (.Compare a [op] [b] pos) (f2 g fa fb) := pe_imp (pe_cmpR ho ha hb hm) (two hs)
theorem tr_ix (ho : IxR X r) (hs : Sem2 X.K r g) (ha : TrE Γ X E a fa) (hb : TrE Γ X E b fb) (hp : PlainIx b := by exact fun _ _ => rfl) : TrE Γ X E (.Subscript a b pos) (f2 g fa fb) := pe_imp (pe_ix ho ha hb hp) (two hs)
/-- a op b op' c -/
def fCh (g g' : W → W → T W) (fa fb fc : En → T W) : En → T W := fun ρ => (fa ρ).bind fun x => (fb ρ).bind fun y => (g x y).bind fun z => match z with
  | .bl true => (fc ρ).bind fun w => g' y w
  | .bl false => .ok (.bl false)
  | _ => .bad
theorem tr_chain {op op' : CmpOp} {g' : W → W → T W} (ho : OpR X (compareOp op) r) (ho' : OpR X (compareOp op') r') (hs : Sem2 X.K r g) (hs' : Sem2 X.K r' g') (ha : TrE Γ X E a fa) (hb : TrE Γ X E b fb) (hc : TrE Γ X E cc fc)
    (hm : lastMarks [op, op'] [b, cc] = false := by with_unfolding_all rfl) : TrE Γ X E (.Compare a [op, op'] [b, cc] pos) (fCh g g' fa fb fc) := pe_imp (pe_chain ho ho' ha hb hc hm) fun σ H Q h => by
  obtain ⟨c, d, oa, ρ, e, h⟩ := h
  refine lift_then (P := fun c H => PQ X.K c H Q) e h (fun st p => p.later st) fun w v H1 d1 _ r1 e1 h1 => ?_
  refine lift_then (P := fun c H => PQ X.K c H Q) e1 h1 (fun st p => p.later st) fun w2 v2 H2 d2 st2 r2 e2 h2 => ?_
  refine hs _ d2 H2 w w2 v v2 _ _ e2.wd (r1.step st2 e1.st e1.ok) r2 (T.AllW.imp (fun d3 z hz => ?_) (fun _ _ _ y => y) (T.allW_bind.mp h2))
  intro _ vz H3 st3 so3 rz
  have e3 := e2.step st3 so3
  cases z with
  | bl k =>
    cases rz
    refine ⟨k, rfl, ?_⟩
    cases k with
    | false => exact iteF (PQ.now e3.wd (PQ.later st3 hz) (.bl false))
    | true =>
      refine iteT (lift_then (P := fun c H => PQ X.K c H Q) e3 (T.AllW.imp (fun _ _ y => y.later st3) (fun _ _ _ y => y.later st3) hz) (fun st p => p.later st) fun w4 v4 H4 d4 st4 r4 e4 h4 => ?_)
      exact hs' _ d4 H4 w2 w4 v2 v4 Q _ e4.wd ((r2.step st3 e2.st e2.ok).step st4 e3.st e3.ok) r4 h4
  | _ => exact hz.elim
end
theorem T.AllW.ite {α : Type} {P : Dw → α → Prop} {E : Dw → Nat → List W → Prop} {d : Dw} {b : Bool} {t : T α} (h : (if b then t else .bad).AllW P E d) : b = true ∧ t.AllW P E d := by
  cases b with
  | true => exact ⟨rfl, h⟩
  | false => exact h.elim
@[irreducible] def strOk (x : Str) : Bool := decide (x.length ≤ 16777216)
theorem strOk_of {x : Str} (h : strOk x = true) : x.length ≤ sizeLine := by
  rw [sizeLine_eq]
  unfold strOk at h
  exact of_decide_eq_true h
def truW : W → T Bool
  | .non => .ok false
  | .bl b => .ok b
  | .int i => .ok (i != 0)
  | .str y => if strOk y then .ok ((y.length : Int) != 0) else .bad
  | .tup ws => .ok !ws.isEmpty
  | .lst ws => .ok !ws.isEmpty
  | .dct ks _ => .ok !ks.isEmpty
  | _ => .bad
/-- a bool alone -/
def blW : W → T Bool
  | .bl b => .ok b
  | _ => .bad
def fTru (fa : En → T W) : En → T Bool := fun ρ => (fa ρ).bind truW
def fBl (fa : En → T W) : En → T Bool := fun ρ => (fa ρ).bind blW
theorem RepL.empty {K : PySem.W.Frag} {c : Cc} {H : Hp} {ws : List W} {vs : List V} (r : RepL K c H ws vs) : (!ws.isEmpty) = !vs.isEmpty := by
  cases r <;> rfl
section
variable {X : Cx} {E : WX} {a b cc : Expr} {fa fb fc : En → T W} {ta tb : En → T Bool} {g g' : W → W → T W} {r r' : R2} {pos : Pos} {rest : List Expr}
theorem trb_tru (ha : TrE Γ X E a fa) (he : ∀ whole, isTrue a X.env whole = (do let v ← whole; standAt a.pos; holding [v] (truthy v)) := by intro _; rfl) : TrB Γ X E a (fTru fa) := pt_imp (pt_truth ha he) fun σ H Q h => by
  obtain ⟨c, d, oa, ρ, e, h⟩ := h
  refine lift_then (P := fun c H => PB c H Q) e h (fun st p => p.later st) @fun c1 w v H1 d1 _ r1 e1 h1 => ?_
  have now : ∀ {b : Bool}, PB c1 H1 Q d1 b → Q b H1 := fun h => h H1 (.refl c1 H1) e1.st
  cases r1 with
  | non => exact ⟨false, rfl, now h1⟩
  | bl b => exact ⟨b, rfl, now h1⟩
  | int i => exact ⟨i != 0, rfl, now h1⟩
  | str x =>
    obtain ⟨hz, h1⟩ := T.AllW.ite h1
    exact ⟨_, ⟨strOk_of hz, rfl⟩, now h1⟩
  | tup h rl => exact ⟨_, .inr (.inl ⟨_, h, rl.empty⟩), now h1⟩
  | lst n h rl => exact ⟨_, .inl ⟨_, SqL.of h, rl.empty⟩, now h1⟩
  | dct n h rl => exact ⟨_, .inr (.inr ⟨_, h, by simp⟩), now h1⟩
  | scr h => exact h1.elim
  | stt => exact h1.elim
  | lam _ => exact h1.elim
  | clo _ _ _ _ _ _ => exact h1.elim
  | exo _ _ _ _ => exact h1.elim
  | obj _ => exact h1.elim
  | dcu _ _ _ => exact h1.elim
theorem bl_then {Q : Bool → Hp → Prop} : ∀ σ H, liftB X.K Γ E (fBl fa) σ H Q → liftE X.K Γ E fa σ H fun x H' => ∃ k, x = .bl k ∧ Q k H' := fun σ H h => by
  obtain ⟨c, d, oa, ρ, e, h⟩ := h
  refine lift_then (P := fun c H => PB c H Q) e h (fun st p => p.later st) fun w v H1 d1 _ r1 e1 h1 => ?_
  cases r1 with
  | bl b => exact ⟨b, rfl, h1 H1 (.refl _ H1) e1.st⟩
  | _ => exact h1.elim
/-- a comparison's test, by the test's own form of the reading -/
theorem trb_of {t : TE} (hp : PT X a (tTest t)) (i : ∀ σ H Q, liftE X.K Γ E fa σ H Q → t σ H Q) : TrB Γ X E a (fBl fa) := pt_imp hp fun σ H Q h => i σ H _ (bl_then σ H h)
theorem trb_cmp {op : CmpOp} (ho : OpR X (compareOp op) r) (hs : Sem2 X.K r g) (ha : TrE Γ X E a fa) (hb : TrE Γ X E b fb) (hm : behindInMarks op b = false) : TrB Γ X E (.Compare a [op] [b] pos) (fBl (f2 g fa fb)) := trb_of (pt_cmpR ho ha hb hm) (two hs)
def fNot (ta : En → T Bool) : En → T Bool := fun ρ => (ta ρ).bind fun b => .ok !b
def fAnd (ta tb : En → T Bool) : En → T Bool := fun ρ => (ta ρ).bind fun b => if b then tb ρ else .ok false
def fOr (ta tb : En → T Bool) : En → T Bool := fun ρ => (ta ρ).bind fun b => if b then .ok true else tb ρ
theorem PB.now {c : Cc} {d : Dw} {H : Hp} {Q : Bool → Hp → Prop} {b : Bool} (wd : Wd c d H) (h : PB c H Q d b) : Q b H := h H (.refl _ H) wd.st
theorem trb_not (ha : TrB Γ X E a ta) : TrB Γ X E (.UnaryOp .Not a pos) (fNot ta) := pt_imp (pt_not ha) fun σ H Q h => by
  obtain ⟨c, d, oa, ρ, e, h⟩ := h
  exact liftB_then (P := fun c H => PB c H Q) e h (fun st p => p.later st) fun b H1 d1 _ e1 h1 => PB.now e1.wd h1
def TrW (Γ : Cl) (X : Cx) (E : WX) (e : Expr) (f : En → T Bool) : Prop := PW X e (liftB X.K Γ E f)
theorem TrW.toB (h : TrW Γ X E a ta) : TrB Γ X E a ta := PW.pt h
theorem trw_and1 (ha : TrB Γ X E a ta) : TrW Γ X E (.BoolOp .And [a] pos) ta := pw_and1 ha
theorem trw_or1 (ha : TrB Γ X E a ta) : TrW Γ X E (.BoolOp .Or [a] pos) ta := pw_or1 ha
theorem trw_and (ha : TrB Γ X E a ta) (hb : TrW Γ X E (.BoolOp .And (b :: rest) pos) tb) : TrW Γ X E (.BoolOp .And (a :: b :: rest) pos) (fAnd ta tb) := pw_imp (pw_and ha hb) fun σ H Q h => by
  obtain ⟨c, d, oa, ρ, e, h⟩ := h
  refine liftB_then (P := fun c H => PB c H Q) e h (fun st p => p.later st) fun b H1 d1 _ e1 h1 => ?_
  cases b with
  | true => exact iteT ⟨_, d1, oa, ρ, e1, h1⟩
  | false => exact iteF (PB.now e1.wd h1)
theorem trw_or (ha : TrB Γ X E a ta) (hb : TrW Γ X E (.BoolOp .Or (b :: rest) pos) tb) : TrW Γ X E (.BoolOp .Or (a :: b :: rest) pos) (fOr ta tb) := pw_imp (pw_or ha hb) fun σ H Q h => by
  obtain ⟨c, d, oa, ρ, e, h⟩ := h
  refine liftB_then (P := fun c H => PB c H Q) e h (fun st p => p.later st) fun b H1 d1 _ e1 h1 => ?_
  cases b with
  | false => exact iteF ⟨_, d1, oa, ρ, e1, h1⟩
  | true => exact iteT (PB.now e1.wd h1)
def fAndV (fa fb : En → T W) : En → T W := fun ρ => (fa ρ).bind fun x => match x with
  | .bl true => fb ρ
  | .bl false => .ok (.bl false)
  | _ => .bad
def fOrV (fa fb : En → T W) : En → T W := fun ρ => (fa ρ).bind fun x => match x with
  | .bl false => fb ρ
  | .bl true => .ok (.bl true)
  | _ => .bad
def fNotV (fa : En → T W) : En → T W := fun ρ => (fa ρ).bind fun x => match x with
  | .bl b => .ok (.bl !b)
  | _ => .bad
def fIf (t : En → T Bool) (fa fb : En → T W) : En → T W := fun ρ => (t ρ).bind fun b => if b then fa ρ else fb ρ
theorem tr_one {op} (h : TrE Γ X E a fa) : TrE Γ X E (.BoolOp op [a] pos) fa := pe_one h
theorem tr_and (ha : TrE Γ X E a fa) (hb : TrE Γ X E (.BoolOp .And (b :: rest) pos) fb) : TrE Γ X E (.BoolOp .And (a :: b :: rest) pos) (fAndV fa fb) := pe_imp (pe_and ha hb) fun σ H Q h => by
  obtain ⟨c, d, oa, ρ, e, h⟩ := h
  refine lift_then (P := fun c H => PQ X.K c H Q) e h (fun st p => p.later st) fun w v H1 d1 _ r1 e1 h1 => ?_
  cases r1 with
  | bl b =>
    refine ⟨b, rfl, ?_⟩
    cases b with
    | true => exact iteT ⟨_, d1, oa, ρ, e1, h1⟩
    | false => exact iteF (PQ.now e1.wd h1 (.bl false))
  | _ => exact h1.elim
theorem tr_or (ha : TrE Γ X E a fa) (hb : TrE Γ X E (.BoolOp .Or (b :: rest) pos) fb) : TrE Γ X E (.BoolOp .Or (a :: b :: rest) pos) (fOrV fa fb) := pe_imp (pe_or ha hb) fun σ H Q h => by
  obtain ⟨c, d, oa, ρ, e, h⟩ := h
  refine lift_then (P := fun c H => PQ X.K c H Q) e h (fun st p => p.later st) fun w v H1 d1 _ r1 e1 h1 => ?_
  cases r1 with
  | bl b =>
    refine ⟨b, rfl, ?_⟩
    cases b with
    | false => exact iteF ⟨_, d1, oa, ρ, e1, h1⟩
    | true => exact iteT (PQ.now e1.wd h1 (.bl true))
  | _ => exact h1.elim
theorem tr_not (ha : TrE Γ X E a fa) : TrE Γ X E (.UnaryOp .Not a pos) (fNotV fa) := pe_imp (pe_not ha) fun σ H Q h => by
  obtain ⟨c, d, oa, ρ, e, h⟩ := h
  refine lift_then (P := fun c H => PQ X.K c H Q) e h (fun st p => p.later st) fun w v H1 d1 _ r1 e1 h1 => ?_
  cases r1 with
  | bl b => exact ⟨b, rfl, PQ.now e1.wd h1 (.bl _)⟩
  | _ => exact h1.elim
theorem tr_if (ht : TrB Γ X E cc ta) (ha : TrE Γ X E a fa) (hb : TrE Γ X E b fb) : TrE Γ X E (.IfExp cc a b pos) (fIf ta fa fb) := pe_imp (pe_ifExp ht ha hb) fun σ H Q h => by
  obtain ⟨c, d, oa, ρ, e, h⟩ := h
  refine liftB_then (P := fun c H => PQ X.K c H Q) e h (fun st p => p.later st) fun b H1 d1 _ e1 h1 => ?_
  cases b with
  | true => exact iteT ⟨_, d1, oa, ρ, e1, h1⟩
  | false => exact iteF ⟨_, d1, oa, ρ, e1, h1⟩
end
def fNil : En → T (List W) := fun _ => .ok []
def fCons (fa : En → T W) (fs : En → T (List W)) : En → T (List W) := fun ρ => (fa ρ).bind fun x => (fs ρ).bind fun xs => .ok (x :: xs)
@[irreducible] def sizeOk (ws : List W) : Bool := decide (ws.length ≤ 16777216)
theorem sizeOk_of {ws : List W} (h : sizeOk ws = true) : ws.length ≤ sizeLine := by
  rw [sizeLine_eq]
  unfold sizeOk at h
  exact of_decide_eq_true h
def mkTup (ws : List W) : T W := if sizeOk ws then .ok (.tup ws) else .bad
def mkLst (ws : List W) : T W := if sizeOk ws then .ok (.lst ws) else .bad
def fL (fs : En → T (List W)) (g : List W → T W) : En → T W := fun ρ => (fs ρ).bind g
section
variable {X : Cx} {E : WX} {e : Expr} {es : List Expr} {fa : En → T W} {fs : En → T (List W)} {pos : Pos}
theorem tra_nil : TrA Γ X E [] fNil := pa_imp pa_nil fun σ H Q h => by
  obtain ⟨c, d, oa, ρ, e, h⟩ := h
  exact h [] H (.refl _ H) e.st .nil
theorem tra_cons (ha : TrE Γ X E e fa) (hr : TrA Γ X E es fs) (hs : starEach (e :: es) X.env = (false, eval e X.env) :: starEach es X.env := by rfl) : TrA Γ X E (e :: es) (fCons fa fs) := pa_imp (pa_cons ha hr hs) fun σ H Q h => by
  obtain ⟨c, d, oa, ρ, e, h⟩ := h
  refine lift_then (P := fun c H => PQL X.K c H Q) e h (fun st p => p.later st) fun w v H1 d1 _ r1 e1 h1 => ?_
  refine liftA_then (P := fun c H => PQL X.K c H Q) e1 h1 (fun st p => p.later st) fun w2 v2 H2 d2 st2 r2 e2 h2 => ?_
  exact h2 _ H2 (.refl _ H2) e2.st (.cons (r1.step st2 e1.st e1.ok) r2)
theorem tr_tup {x1} (h : TrA Γ X E es fs) : TrE Γ X E (.Tuple es x1 pos) (fL fs mkTup) := pe_imp (pe_tup h) fun σ H Q h => by
  obtain ⟨c, d, oa, ρ, e, h⟩ := h
  refine liftA_then (P := fun c H => PQ X.K c H Q) e h (fun st p => p.later st) fun w v H1 d1 _ r1 e1 h1 => ?_
  obtain ⟨h2, h1⟩ := T.AllW.ite h1
  exact ⟨by rw [← r1.length]; exact sizeOk_of h2, fun p n => PQ.tup e1.wd h1 r1 n⟩
theorem tr_lst (h : TrA Γ X E es fs) : TrE Γ X E (.List es pos) (fL fs mkLst) := pe_imp (pe_lst h) fun σ H Q h => by
  obtain ⟨c, d, oa, ρ, e, h⟩ := h
  refine liftA_then (P := fun c H => PQ X.K c H Q) e h (fun st p => p.later st) fun w v H1 d1 _ r1 e1 h1 => ?_
  obtain ⟨h2, h1⟩ := T.AllW.ite h1
  exact ⟨by rw [← r1.length]; exact sizeOk_of h2, fun p n => PQ.lst e1.wd h1 r1 n⟩
theorem callL {r : List V → Hp → VK → Prop} {g : List W → T W} (hs : SemL X.K r g) : ∀ σ H Q, liftE X.K Γ E (fL fs g) σ H Q → tCB r (liftA X.K Γ E fs) σ H Q := fun σ H Q h => by
  obtain ⟨c, d, oa, ρ, e, h⟩ := h
  refine liftA_then (P := fun c H => PQ X.K c H Q) e h (fun st p => p.later st) fun w v H1 d1 _ r1 e1 h1 => ?_
  exact hs _ d1 H1 w v Q _ e1.wd r1 h1
/-- a built-in function, a built-in type, called -/
theorem tr_callB {r : List V → Hp → VK → Prop} {g : List W → T W} {x : Str} {p : Pos} {id : String} (hc : CallR X (.builtin id) r) (hs : SemL X.K r g) (hg : Gl X x) (hm : X.mg x = none) (hv : bootBuiltins x = some (.builtin id)) (ha : TrA Γ X E (e :: es) fs) (hn : x ≠ "__name__" := by decide) (hdb : (x == ("__debug__" : Str)) = false := by decide)
    (he : starEach (e :: es) X.env = (false, eval e X.env) :: starEach es X.env := by rfl) (hpl : (backTo pos (starEach es X.env)).any (·.1) = false := by rfl) : TrE Γ X E (.Call (.Name x p) (e :: es) [] pos) (fL fs g) :=
  pe_imp (pe_callB hc hg hm hv ha hn hdb he hpl) (callL hs)
theorem tr_callTy {r : List V → Hp → VK → Prop} {g : List W → T W} {x : Str} {p : Pos} {id : String} (hc : CallR X (.type id) r) (hs : SemL X.K r g) (hg : Gl X x) (hm : X.mg x = none) (hv : bootBuiltins x = some (.type id)) (ha : TrA Γ X E (e :: es) fs) (hn : x ≠ "__name__" := by decide) (hdb : (x == ("__debug__" : Str)) = false := by decide)
    (he : starEach (e :: es) X.env = (false, eval e X.env) :: starEach es X.env := by rfl) (hpl : (backTo pos (starEach es X.env)).any (·.1) = false := by rfl) : TrE Γ X E (.Call (.Name x p) (e :: es) [] pos) (fL fs g) :=
  pe_imp (pe_callTy hc hg hm hv ha hn hdb he hpl) (callL hs)
end
def SpF (K : PySem.W.Frag) (F : List W → T W) : Sp := fun vs H Q E => ∃ c d ws, (c.T = tabL K ∧ c.K = K) ∧ Wd c d H ∧ RepL K c H ws vs ∧ (F ws).AllW (PQ K c H Q) (PX K c H E) d
section
variable {X : Cx} {E : WX} {e : Expr} {es : List Expr} {fs : En → T (List W)} {pos p : Pos} {F : List W → T W} {k : Nat} {f : Addr} {fd : FuncData} {ps : List Str} {x : Str}
theorem tr_call (G : FnOk X.prog X.w X.K X.mg X.base (L2.CX X.prog X.w) k f fd ps (SpF X.K F)) (hr : Room k X.A) (tk : Takes X E) (hg : Gl X x) (hm : X.mg x = some (.ref f)) (hk : PySem.W.keepIn X.K (.ref f) = true) (hb : Binds X.K fd ps []) (ha : TrA Γ X E (e :: es) fs)
    (hdb : (x == ("__debug__" : Str)) = false := by decide) (he : starEach (e :: es) X.env = (false, eval e X.env) :: starEach es X.env := by rfl) (hpl : (backTo pos (starEach es X.env)).any (·.1) = false := by rfl) :
    TrE Γ X E (.Call (.Name x p) (e :: es) [] pos) (fL fs F) := pe_imp (pe_callSD (E := fun σ => WE E σ) G hr hg hm hk hb .nil (fun σ => passAt tk σ) ha hdb he hpl) fun σ H Q h => by
  obtain ⟨c, d, oa, ρ, e, h⟩ := h
  refine liftA_then (P := fun c H => PQ X.K c H Q) e h (fun st p => p.later st) fun w v H1 d1 _ r1 e1 h1 => ?_
  exact ⟨_, d1, w, ⟨e1.tT, e1.kK⟩, e1.wd, by rw [List.append_nil]; exact r1, h1⟩
end
end PF
namespace PF
open PySem PySem.Spec PyProof.Rows L2
structure Fwd (K : PySem.W.Frag) (c : Cc) (H : Hp) (c' : Cc) (H' : Hp) : Prop where
  S : c'.S = c.S
  ca : c'.ca = c.ca
  la : c'.la = c.la
  T : c'.T = c.T
  C : c'.C = c.C
  KK : c'.K = c.K
  O : c.O <+: c'.O
  sub : ∀ b ∈ c.A, b ∉ c.M → b ∈ c'.A
  fr : ∀ b ∈ c'.M, b ∈ c.M ∨ (b ∉ c.A ∧ b ≠ c.S ∧ b ≠ c.la ∧ H b = none)
  step : ∀ b o, H b = some o → b ≠ c.S → b ≠ c.la → b ∉ c.M → NoT o → H' b = some o
  tbl : ∀ b ps, H b = some (.tbl ps) → b ∉ c.M → ∃ more, H' b = some (.tbl (ps ++ more))
  rep : ∀ w v, Rep K c H w v → Rep K c' H' w v
  sq : ∀ a vs, SqT K H a vs → SqT K H' a vs
  ins : ∀ b C dx fs, H b = some (.ins C dx fs) → b ∉ c.M → ∃ gs, H' b = some (.ins C dx gs)
section
variable {K : PySem.W.Frag} {c c1 c2 : Cc} {d : Dw} {H H1 H2 : Hp}
theorem Fwd.refl : Fwd K c H c H := ⟨rfl, rfl, rfl, rfl, rfl, rfl, List.prefix_rfl, fun _ h _ => h, fun _ h => .inl h, fun _ _ h _ _ _ _ => h, fun _ ps h _ => ⟨#[], by rw [h]; simp⟩, fun _ _ h => h, fun _ _ h => h, fun _ _ _ fs h _ => ⟨fs, h⟩⟩
theorem Step.to (st : Step c1 H1 H2) (hS : c1.S = c.S) (hl : c1.la = c.la) : Step c H1 H2 := ⟨fun b o e h1 h2 h3 => st.keep b o e (by rw [hS]; exact h1) (by rw [hl]; exact h2) h3, st.tbl, st.ins⟩
theorem Fwd.there {b : Addr} {o : HO} (f : Fwd K c H c1 H1) (h : H b = some o) (h1 : b ≠ c.S) (h2 : b ≠ c.la) (n : b ∉ c.M) : ∃ o', H1 b = some o' := by
  cases o with
  | tbl ps =>
    obtain ⟨m, e⟩ := f.tbl b ps h n
    exact ⟨_, e⟩
  | ins C dx fs =>
    obtain ⟨gs, e⟩ := f.ins b C dx fs h n
    exact ⟨_, e⟩
  | _ => exact ⟨_, f.step b _ h h1 h2 n nofun⟩
theorem Fwd.trans (a : Fwd K c H c1 H1) (b : Fwd K c1 H1 c2 H2) : Fwd K c H c2 H2 where
  S := b.S.trans a.S
  ca := b.ca.trans a.ca
  la := b.la.trans a.la
  T := b.T.trans a.T
  C := b.C.trans a.C
  KK := b.KK.trans a.KK
  O := a.O.trans b.O
  sub := fun x h n => b.sub x (a.sub x h n) fun z => by
    rcases a.fr x z with z | z
    · exact n z
    · exact z.1 h
  fr := fun x h => by
    rcases b.fr x h with z | ⟨z1, z2, z3, z4⟩
    · exact a.fr x z
    · rw [a.S] at z2
      rw [a.la] at z3
      by_cases hm : x ∈ c.M
      · exact .inl hm
      · refine .inr ⟨fun hA => z1 (a.sub x hA hm), z2, z3, ?_⟩
        cases hx : H x with
        | none => rfl
        | some o =>
          obtain ⟨o', e⟩ := a.there hx z2 z3 hm
          rw [e] at z4
          cases z4
  step := fun x o h h1 h2 n nt => b.step x o (a.step x o h h1 h2 n nt) (by rw [a.S]; exact h1) (by rw [a.la]; exact h2) (fun z => by
    rcases a.fr x z with z | z
    · exact n z
    · rw [h] at z
      cases z.2.2.2) nt
  tbl := fun x ps h n => by
    obtain ⟨m, e1⟩ := a.tbl x ps h n
    obtain ⟨m', e2⟩ := b.tbl x _ e1 (fun z => by
      rcases a.fr x z with z | z
      · exact n z
      · rw [h] at z
        cases z.2.2.2)
    exact ⟨m ++ m', by rw [e2, Array.append_assoc]⟩
  rep := fun w v h => b.rep w v (a.rep w v h)
  sq := fun x vs h => b.sq x vs (a.sq x vs h)
  ins := fun x C dx fs h n => by
    obtain ⟨gs, e1⟩ := a.ins x C dx fs h n
    exact b.ins x C dx gs e1 (fun z => by
      rcases a.fr x z with z | z
      · exact n z
      · rw [h] at z
        cases z.2.2.2)
theorem Fwd.of (st : SG c c1 H H1) (wd : Wd c d H) : Fwd K c H c1 H1 where
  S := st.g.S
  ca := st.g.ca
  la := st.g.la
  T := st.g.T
  C := st.g.C
  KK := st.g.KK
  O := st.g.O
  sub := fun b h _ => by
    rw [st.g.A]
    exact h
  fr := fun b h => by
    rw [st.g.M] at h
    exact .inl h
  step := fun b o h h1 h2 _ nt => st.st.keep b o h h1 h2 nt
  tbl := fun b ps h _ => st.st.tbl b ps h
  rep := fun _ _ h => h.step st wd.st wd.ok
  sq := fun _ _ h => st.st.sqT wd.st h
  ins := fun b C dx fs h _ => st.st.ins b C dx fs h
mutual
theorem Rep.weak0 (hS : c1.S = c.S) (hC : c1.C = c.C) (hO : c1.O = c.O) (sub : ∀ b ∈ c.A, b ∈ c1.A) : ∀ {w : W} {v : V}, Rep K c1 H w v → Rep K c H w v
  | _, _, .non => .non
  | _, _, .bl b => .bl b
  | _, _, .int i => .int i
  | _, _, .str x => .str x
  | _, _, .tup h r => .tup h (RepL.weak0 hS hC hO sub r)
  | _, _, .lst n h r => .lst (fun z => n (sub _ z)) h (RepL.weak0 hS hC hO sub r)
  | _, _, .dct n h r => .dct (fun z => n (sub _ z)) h (RepL.weak0 hS hC hO sub r)
  | _, _, .scr h => .scr (h.imp (fun ⟨n, r⟩ => ⟨fun z => n (sub _ z), r⟩) id)
  | _, _, .stt => by rw [hS]; exact .stt
  | _, _, .lam h => .lam (by rw [← hC]; exact h)
  | _, _, .clo h g n k pl r => .clo h g n k pl (RepL.weak0 hS hC hO sub r)
  | _, _, .exo h1 h2 h3 r => .exo h1 h2 h3 (RepL.weak0 hS hC hO sub r)
  | _, _, .obj h => .obj (by rw [← hO]; exact h)
  | _, _, .dcu n h r => .dcu (fun z => n (sub _ z)) h (RepL.weak0 hS hC hO sub r)
theorem RepL.weak0 (hS : c1.S = c.S) (hC : c1.C = c.C) (hO : c1.O = c.O) (sub : ∀ b ∈ c.A, b ∈ c1.A) : ∀ {ws : List W} {vs : List V}, RepL K c1 H ws vs → RepL K c H ws vs
  | _, _, .nil => .nil
  | _, _, .cons h r => .cons (Rep.weak0 hS hC hO sub h) (RepL.weak0 hS hC hO sub r)
end
theorem Rep.weak (hS : c1.S = c.S) (hC : c1.C = c.C) (sub : ∀ b ∈ c.A, b ∈ c1.A) {w : W} {v : V} (h : Rep K c1 H w v) (hO : c1.O = c.O := by rfl) : Rep K c H w v := Rep.weak0 hS hC hO sub h
theorem RepL.weak (hS : c1.S = c.S) (hC : c1.C = c.C) (sub : ∀ b ∈ c.A, b ∈ c1.A) {w : List W} {v : List V} (h : RepL K c1 H w v) (hO : c1.O = c.O := by rfl) : RepL K c H w v := RepL.weak0 hS hC hO sub h
theorem RepL.fwd (f : Fwd K c H c1 H1) : ∀ {ws : List W} {vs : List V}, RepL K c H ws vs → RepL K c1 H1 ws vs
  | _, _, .nil => .nil
  | _, _, .cons h r => .cons (f.rep _ _ h) (RepL.fwd f r)
theorem Fwd.sqT {a : Addr} {vs : List V} (f : Fwd K c H c1 H1) (wd : Wd c d H) (h : SqT K H a vs) : SqT K H1 a vs := f.sq a vs h
end
inductive Fl where
  | nx | rt (w : W) | bk | ct
def PSq (K : PySem.W.Frag) (Γ : Cl) (c : Cc) (H : Hp) (D : Ends) : Dw → Fl × En → Prop := fun d x => ∀ c' oa' σ' H', Fwd K c H c' H' → EnvOk K Γ c' d oa' x.2 σ' H' → match x.1 with
  | .nx => D.nx σ' H'
  | .bk => D.bk σ' H'
  | .ct => D.ct σ' H'
  | .rt w => ∀ v, Rep K c' H' w v → D.rt v H'
theorem PSq.later {K : PySem.W.Frag} {c c1 : Cc} {H H1 : Hp} {D : Ends} {d : Dw} {x : Fl × En} (f : Fwd K c H c1 H1) (h : PSq K Γ c H D d x) : PSq K Γ c1 H1 D d x := fun c' oa' σ' H' g e => h c' oa' σ' H' (f.trans g) e
/-- what is wanted of an error that leaves a statement -/
def PXs (K : PySem.W.Frag) (c : Cc) (H : Hp) (E : XK) : Dw → Nat → List W → Prop := fun d n fs => ∀ c' cls dx H', Fwd K c H c' H' → StOk c' d H' → RepX K c' H' n fs cls dx → E cls dx H'
theorem PXs.fwd {K : PySem.W.Frag} {c c1 : Cc} {H H1 : Hp} {E : XK} {d : Dw} {n : Nat} {fs : List W} (f : Fwd K c H c1 H1) (h : PXs K c H E d n fs) : PXs K c1 H1 E d n fs := fun c' cls dx H' g so r => h c' cls dx H' (f.trans g) so r
theorem PXs.later {K : PySem.W.Frag} {c c1 : Cc} {d0 : Dw} {H H1 : Hp} {E : XK} {d : Dw} {n : Nat} {fs : List W} (wd : Wd c d0 H) (st : SG c c1 H H1) (h : PXs K c H E d n fs) : PXs K c1 H1 E d n fs := h.fwd (.of st wd)
theorem PXs.toX {K : PySem.W.Frag} {c : Cc} {d0 : Dw} {H : Hp} {E : XK} {d : Dw} {n : Nat} {fs : List W} (wd : Wd c d0 H) (h : PXs K c H E d n fs) : PX K c H E d n fs := fun _ cls dx H' st so r => h _ cls dx H' (.of st wd) so r
section
variable {K : PySem.W.Frag} {E : XK} {f : En → T W} {c : Cc} {d : Dw} {oa : Nat → Addr} {ρ : En} {σ : St} {H : Hp}
abbrev wOf (E : XK) : WX := fun cls dx _ H => E cls dx H
theorem lift_thenS {β : Type} {P : Cc → Hp → Dw → β → Prop} {G : W → T β} {R : V → Hp → Prop} (e : EnvOk K Γ c d oa ρ σ H) (h : ((f ρ).bind G).AllW (P c H) (PXs K c H E) d)
    (lt : ∀ {c1 H1 d' b}, SG c c1 H H1 → P c H d' b → P c1 H1 d' b)
    (go : ∀ {c1 : Cc} w v H1 d1, SG c c1 H H1 → Rep K c1 H1 w v → EnvOk K Γ c1 d1 oa ρ σ H1 → (G w).AllW (P c1 H1) (PXs K c1 H1 E) d1 → R v H1) : liftE K Γ (wOf E) f σ H R := by
  refine ⟨c, d, oa, ρ, e, T.AllW.imp (fun d1 w x => ?_) (fun _ _ _ x => x.toX e.wd) (T.allW_bind.mp h)⟩
  intro _ v H1 st so r
  exact go w v H1 d1 st r (e.step st so) (T.AllW.imp (fun _ _ y => lt st y) (fun _ _ _ y => y.later e.wd st) x)
theorem liftB_thenS {β : Type} {fb : En → T Bool} {P : Cc → Hp → Dw → β → Prop} {G : Bool → T β} {R : Bool → Hp → Prop} (e : EnvOk K Γ c d oa ρ σ H) (h : ((fb ρ).bind G).AllW (P c H) (PXs K c H E) d)
    (lt : ∀ {c1 H1 d' b}, SG c c1 H H1 → P c H d' b → P c1 H1 d' b)
    (go : ∀ {c1 : Cc} b H1 d1, SG c c1 H H1 → EnvOk K Γ c1 d1 oa ρ σ H1 → (G b).AllW (P c1 H1) (PXs K c1 H1 E) d1 → R b H1) : liftB K Γ (wOf E) fb σ H R := by
  refine ⟨c, d, oa, ρ, e, T.AllW.imp (fun d1 w x => ?_) (fun _ _ _ x => x.toX e.wd) (T.allW_bind.mp h)⟩
  intro _ H1 st so
  exact go w H1 d1 st (e.step st so) (T.AllW.imp (fun _ _ y => lt st y) (fun _ _ _ y => y.later e.wd st) x)
theorem liftA_thenS {β : Type} {fs : En → T (List W)} {P : Cc → Hp → Dw → β → Prop} {G : List W → T β} {R : List V → Hp → Prop} (e : EnvOk K Γ c d oa ρ σ H) (h : ((fs ρ).bind G).AllW (P c H) (PXs K c H E) d)
    (lt : ∀ {c1 H1 d' b}, SG c c1 H H1 → P c H d' b → P c1 H1 d' b)
    (go : ∀ {c1 : Cc} w v H1 d1, SG c c1 H H1 → RepL K c1 H1 w v → EnvOk K Γ c1 d1 oa ρ σ H1 → (G w).AllW (P c1 H1) (PXs K c1 H1 E) d1 → R v H1) : liftA K Γ (wOf E) fs σ H R := by
  refine ⟨c, d, oa, ρ, e, T.AllW.imp (fun d1 w x => ?_) (fun _ _ _ x => x.toX e.wd) (T.allW_bind.mp h)⟩
  intro _ v H1 st so r
  exact go w v H1 d1 st r (e.step st so) (T.AllW.imp (fun _ _ y => lt st y) (fun _ _ _ y => y.later e.wd st) x)
end
/-- E is wanted of what is raised, at any slots -/
def liftS (K : PySem.W.Frag) (Γ : Cl) (E : XK) (g : En → T (Fl × En)) : TS := fun D σ H => ∃ c d oa ρ, EnvOk K Γ c d oa ρ σ H ∧ (g ρ).AllW (PSq K Γ c H D) (PXs K c H E) d
def TrS (Γ : Cl) (X : Cx) (E : XK) (st : Stmt) (g : En → T (Fl × En)) : Prop := PS X st (liftS X.K Γ E g)
def TrSs (Γ : Cl) (X : Cx) (E : XK) (sts : List Stmt) (g : En → T (Fl × En)) : Prop := PSs X sts (liftS X.K Γ E g)
section
variable {K : PySem.W.Frag} {c : Cc} {d : Dw} {oa : Nat → Addr} {ρ : En} {σ : St} {H : Hp}
theorem getElem?_set_or {α : Type} {l : List α} {i j : Nat} {a x : α} (h : (l.set i a)[j]? = some x) : (j = i ∧ x = a) ∨ (j ≠ i ∧ l[j]? = some x) := by
  by_cases e : i = j
  · subst e
    by_cases hl : i < l.length
    · rw [List.getElem?_set_self hl] at h
      exact .inl ⟨rfl, (Option.some.inj h).symm⟩
    · rw [List.getElem?_eq_none (by simpa using hl)] at h
      cases h
  · rw [List.getElem?_set_ne e] at h
    exact .inr ⟨fun z => e z.symm, h⟩
theorem EnvOk.set {i : Nat} {w : W} {v : V} (e : EnvOk K Γ c d oa ρ σ H) (r : Rep K c H w v) : EnvOk K Γ c d oa (ρ.set i (.val w)) (σ.set i (some v)) H where
  ok := e.ok
  st := e.st
  av := e.av
  len := by rw [List.length_set, List.length_set]; exact e.len
  val := fun j x h => by
    rcases getElem?_set_or h with ⟨ej, ex⟩ | ⟨n, h'⟩
    · cases ex
      subst ej
      refine ⟨v, ?_, r⟩
      have hl : j < ρ.length := by
        by_cases hl : j < ρ.length
        · exact hl
        · rw [List.getElem?_eq_none (by simpa using hl)] at h
          cases h
      rw [List.getElem?_set_self (by rw [← e.len]; exact hl)]
    · obtain ⟨u, h1, h2⟩ := e.val j x h'
      exact ⟨u, by rw [List.getElem?_set_ne (Ne.symm n)]; exact h1, h2⟩
  m := e.m
  own := fun j x h => by
    rcases getElem?_set_or h with ⟨ej, ex⟩ | ⟨n, h'⟩
    · cases ex
    · obtain ⟨h1, h3, h4⟩ := e.own j x h'
      exact ⟨h1, by rw [List.getElem?_set_ne (Ne.symm n)]; exact h3, h4⟩
  inj := fun a b x y h1 h2 => by
    rcases getElem?_set_or h1 with ⟨ej, ex⟩ | ⟨n1, h1'⟩
    · cases ex
    · rcases getElem?_set_or h2 with ⟨ej, ex⟩ | ⟨n2, h2'⟩
      · cases ex
      · exact e.inj a b x y h1' h2'
  odc := fun j x h => by
    rcases getElem?_set_or h with ⟨ej, ex⟩ | ⟨n, h'⟩
    · cases ex
    · obtain ⟨h1, h3, h4⟩ := e.odc j x h'
      exact ⟨h1, by rw [List.getElem?_set_ne (Ne.symm n)]; exact h3, h4⟩
  ido := fun a b x y h1 h2 => by
    rcases getElem?_set_or h1 with ⟨ej, ex⟩ | ⟨n1, h1'⟩
    · cases ex
    · rcases getElem?_set_or h2 with ⟨ej, ex⟩ | ⟨n2, h2'⟩
      · cases ex
      · exact e.ido a b x y h1' h2'
  tT := e.tT
  cC := e.cC
  kK := e.kK
end
def sNil : En → T (Fl × En) := fun ρ => .ok (.nx, ρ)
def sSeq (g h : En → T (Fl × En)) : En → T (Fl × En) := fun ρ => (g ρ).bind fun x => match x with
  | (.nx, ρ') => h ρ'
  | x => .ok x
def sRet (f : En → T W) : En → T (Fl × En) := fun ρ => (f ρ).bind fun w => .ok (.rt w, ρ)
def sRetN : En → T (Fl × En) := fun ρ => .ok (.rt .non, ρ)
def sExpr (f : En → T W) : En → T (Fl × En) := fun ρ => (f ρ).bind fun _ => .ok (.nx, ρ)
def sSet (i : Nat) (f : En → T W) : En → T (Fl × En) := fun ρ => (f ρ).bind fun w => .ok (.nx, ρ.set i (.val w))
def sIf (t : En → T Bool) (g h : En → T (Fl × En)) : En → T (Fl × En) := fun ρ => (t ρ).bind fun b => if b then g ρ else h ρ
def sNever : En → T (Fl × En) := fun _ => .bad
def sPar (i j : Nat) (fs : En → T (List W)) : En → T (Fl × En) := fun ρ => (fs ρ).bind fun xs => match xs with
  | [x, y] => .ok (.nx, (ρ.set i (.val x)).set j (.val y))
  | _ => .bad
section
variable {X : Cx} {E : XK} {st : Stmt} {sts : List Stmt} {g h : En → T (Fl × En)} {f : En → T W} {e a b : Expr} {fs : En → T (List W)} {t : En → T Bool} {pos : Pos}
theorem trs_nil : TrSs Γ X E [] sNil := pss_imp pss_nil fun D σ H q => by
  obtain ⟨c, d, oa, ρ, e, q⟩ := q
  exact q _ oa σ H .refl e
theorem trs_cons (h1 : TrS Γ X E st g) (h2 : TrSs Γ X E sts h) : TrSs Γ X E (st :: sts) (sSeq g h) := pss_imp (pss_cons h1 h2) fun D σ H q => by
  obtain ⟨c, d, oa, ρ, e, q⟩ := q
  refine ⟨c, d, oa, ρ, e, T.AllW.imp (fun d1 x hx => ?_) (fun _ _ _ y => y) (T.allW_bind.mp q)⟩
  obtain ⟨fl, ρ'⟩ := x
  intro c' oa' σ' H' fw e'
  cases fl with
  | nx => exact ⟨c', d1, oa', ρ', e', T.AllW.imp (fun _ _ y => y.later fw) (fun _ _ _ y => y.fwd fw) hx⟩
  | rt w => exact hx c' oa' σ' H' fw e'
  | bk => exact hx c' oa' σ' H' fw e'
  | ct => exact hx c' oa' σ' H' fw e'
theorem trs_one (h1 : TrS Γ X E st g) : TrSs Γ X E [st] g := pss_one h1
theorem tr_ret (he : TrE Γ X (wOf E) e f) : TrS Γ X E (.Return (some e) pos) (sRet f) := ps_imp (ps_ret he) fun D σ H q => by
  obtain ⟨c, d, oa, ρ, e, q⟩ := q
  refine lift_thenS (P := fun c H => PSq X.K Γ c H D) e q (fun st p => p.later (.of st e.wd)) fun w v H1 d1 _ r1 e1 h1 => ?_
  exact h1 _ oa σ H1 .refl e1 v r1
theorem tr_retN : TrS Γ X E (.Return none pos) sRetN := ps_imp ps_retN fun D σ H q => by
  obtain ⟨c, d, oa, ρ, e, q⟩ := q
  exact q _ oa σ H .refl e _ .non
theorem tr_expr (he : TrE Γ X (wOf E) e f) (hs : swapsWith e none pos.line X.env = pure false := by rfl) : TrS Γ X E (.Expr e pos) (sExpr f) := ps_imp (ps_expr he hs) fun D σ H q => by
  obtain ⟨c, d, oa, ρ, e, q⟩ := q
  refine lift_thenS (P := fun c H => PSq X.K Γ c H D) e q (fun st p => p.later (.of st e.wd)) fun w v H1 d1 _ r1 e1 h1 => ?_
  exact h1 _ oa σ H1 .refl e1
theorem tr_set {i : Nat} {x : Str} {pos' : Pos} (hN : X.N.Nodup) (hi : X.N[i]? = some x) (hx : Loc X.env.scope x) (he : TrE Γ X (wOf E) e f) (hs : swapsWith e (some (.Name x pos')) pos.line X.env = pure false := by rfl)
    (hf : X.fn x = true ∨ X.env.scope.names.lookup x = some .local := by first | exact .inl rfl | exact .inr rfl | assumption) : TrS Γ X E (.Assign [.Name x pos'] e pos) (sSet i f) := ps_imp (ps_set hN hi hx he hs hf) fun D σ H q => by
  obtain ⟨c, d, oa, ρ, e, q⟩ := q
  refine lift_thenS (P := fun c H => PSq X.K Γ c H D) e q (fun st p => p.later (.of st e.wd)) fun w v H1 d1 _ r1 e1 h1 => ?_
  exact h1 _ oa _ H1 .refl (e1.set r1)
theorem tr_ifs {sa sb : List Stmt} (hc : TrB Γ X (wOf E) e t) (ha : TrSs Γ X E sa g) (hb : TrSs Γ X E sb h) : TrS Γ X E (.If e sa sb pos) (sIf t g h) := ps_imp (ps_if hc ha hb) fun D σ H q => by
  obtain ⟨c, d, oa, ρ, e, q⟩ := q
  refine liftB_thenS (P := fun c H => PSq X.K Γ c H D) e q (fun st p => p.later (.of st e.wd)) fun b H1 d1 _ e1 h1 => ?_
  cases b with
  | true => exact iteT ⟨_, d1, oa, ρ, e1, h1⟩
  | false => exact iteF ⟨_, d1, oa, ρ, e1, h1⟩
theorem tr_never : TrS Γ X E st sNever := ps_imp ps_never fun D σ H q => by
  obtain ⟨c, d, oa, ρ, e, q⟩ := q
  exact q
theorem tr_par {i j : Nat} (hp : PS X st (tPar i j (liftA X.K Γ (wOf E) fs))) : TrS Γ X E st (sPar i j fs) := ps_imp hp fun D σ H q => by
  obtain ⟨c, d, oa, ρ, e, q⟩ := q
  refine liftA_thenS (P := fun c H => PSq X.K Γ c H D) e q (fun st p => p.later (.of st e.wd)) fun w v H1 d1 _ r1 e1 h1 => ?_
  cases r1 with
  | nil => exact h1.elim
  | cons r1 r2 =>
    cases r2 with
    | nil => exact h1.elim
    | cons r2 r3 =>
      cases r3 with
      | nil => exact ⟨_, _, rfl, h1 _ oa _ H1 .refl ((e1.set r1).set r2)⟩
      | cons _ _ => exact h1.elim
end
end PF
namespace PF
open PySem PySem.Spec PyProof.Rows L2
/-- the slots at ns alone may have changed -/
def ButAt (ns : List Nat) (σ σ' : St) : Prop := σ'.length = σ.length ∧ ∀ j : Nat, j ∉ ns → σ'[j]? = σ[j]?
theorem ButAt.trans {ns ms : List Nat} {σ σ1 σ2 : St} (a : ButAt ns σ σ1) (b : ButAt ms σ1 σ2) : ButAt (ns ++ ms) σ σ2 := ⟨b.1.trans a.1, fun j h => by
  rw [List.mem_append, not_or] at h
  rw [b.2 j h.2, a.2 j h.1]⟩
def liftG (K : PySem.W.Frag) (Γ : Cl) (ns : List Nat) (G : W → En → Option En) : TG := fun v σ H Q => ∃ c d oa ρ w ρ', EnvOk K Γ c d oa ρ σ H ∧ Rep K c H w v ∧ G w ρ = some ρ' ∧ ∀ σ', ButAt ns σ σ' → EnvOk K Γ c d oa ρ' σ' H → Q σ' H
def liftGs (K : PySem.W.Frag) (Γ : Cl) (ns : List Nat) (G : List W → En → Option En) : TGs := fun vs σ H Q => ∃ c d oa ρ ws ρ', EnvOk K Γ c d oa ρ σ H ∧ RepL K c H ws vs ∧ G ws ρ = some ρ' ∧ ∀ σ', ButAt ns σ σ' → EnvOk K Γ c d oa ρ' σ' H → Q σ' H
def TrG (Γ : Cl) (X : Cx) (e : Expr) (ns : List Nat) (G : W → En → Option En) : Prop := PG X e (liftG X.K Γ ns G)
def TrGs (Γ : Cl) (X : Cx) (es : List Expr) (ns : List Nat) (G : List W → En → Option En) : Prop := PGs X es (liftGs X.K Γ ns G)
def goName (i : Nat) : W → En → Option En := fun w ρ => some (ρ.set i (.val w))
def goNil : List W → En → Option En := fun ws ρ => match ws with
  | [] => some ρ
  | _ => none
def goCons (G : W → En → Option En) (Gs : List W → En → Option En) : List W → En → Option En := fun ws ρ => match ws with
  | w :: ws => (G w ρ).bind (Gs ws)
  | [] => none
def goTup (n : Nat) (Gs : List W → En → Option En) : W → En → Option En := fun w ρ => match w with
  | .tup ws => if ws.length == n then Gs ws ρ else none
  | _ => none
theorem pg_imp {X : Cx} {e : Expr} {t t' : TG} (h : PG X e t) (i : ∀ v σ H Q, t' v σ H Q → t v σ H Q) : PG X e t' := ⟨fun pins s σ H v u Q I r q => h.run pins s σ H v u Q I r (i v σ H Q q)⟩
theorem pgs_imp {X : Cx} {e : List Expr} {t t' : TGs} (h : PGs X e t) (i : ∀ v σ H Q, t' v σ H Q → t v σ H Q) : PGs X e t' := ⟨fun pins s σ H v u Q I r q => h.run pins s σ H v u Q I r (i v σ H Q q)⟩
section
variable {X : Cx} {e : Expr} {es : List Expr} {ns ms : List Nat} {G : W → En → Option En} {Gs : List W → En → Option En} {pos : Pos}
theorem trg_name {i : Nat} {x : Str} (hN : X.N.Nodup) (hi : X.N[i]? = some x) (hx : Loc X.env.scope x) (hf : X.fn x = true ∨ X.env.scope.names.lookup x = some .local := by first | exact .inl rfl | exact .inr rfl | assumption) : TrG Γ X (.Name x pos) [i] (goName i) := pg_imp (pg_name hN hi hx hf) fun v σ H Q h => by
  obtain ⟨c, d, oa, ρ, w, ρ', e, r, g, q⟩ := h
  cases g
  exact q _ ⟨by rw [List.length_set], fun j h => by rw [List.getElem?_set_ne (fun z => h (by simp [z]))]⟩ (e.set r)
theorem trgs_nil : TrGs Γ X [] [] goNil := pgs_imp pgs_nil fun v σ H Q h => by
  obtain ⟨c, d, oa, ρ, w, ρ', e, r, g, q⟩ := h
  cases r with
  | nil =>
    cases g
    exact ⟨rfl, q σ ⟨rfl, fun _ _ => rfl⟩ e⟩
  | cons _ _ => cases g
theorem trgs_cons (h1 : TrG Γ X e ns G) (h2 : TrGs Γ X es ms Gs) (hs : (assignEach (e :: es) X.env).map (·.2) = assign e X.env :: (assignEach es X.env).map (·.2) := by rfl) : TrGs Γ X (e :: es) (ns ++ ms) (goCons G Gs) := pgs_imp (pgs_cons h1 h2 hs) fun v σ H Q h => by
  obtain ⟨c, d, oa, ρ, w, ρ', e, r, g, q⟩ := h
  cases r with
  | nil => cases g
  | cons r rr =>
    rename_i w1 v1 ws1 vs1
    have g' : (G w1 ρ).bind (Gs ws1) = some ρ' := g
    cases g1 : G w1 ρ with
    | none =>
      rw [g1] at g'
      cases g'
    | some ρ1 =>
      rw [g1] at g'
      exact ⟨v1, vs1, rfl, c, d, oa, ρ, w1, ρ1, e, r, g1, fun σ1 b1 e1 => ⟨c, d, oa, ρ1, ws1, ρ', e1, rr, g', fun σ2 b2 e2 => q σ2 (b1.trans b2) e2⟩⟩
theorem trg_tup {k n : Nat} (hc : X.calm = true) (h : TrGs Γ X es ns Gs) (hn : (assignEach es X.env).length = n := by rfl) (hst : (assignEach es X.env).findIdx? (·.1) = none := by rfl) : TrG Γ X (.Tuple es k pos) ns (goTup n Gs) := pg_imp (pg_tup hc h hn hst) fun v σ H Q h => by
  obtain ⟨c, d, oa, ρ, w, ρ', e, r, g, q⟩ := h
  cases r with
  | tup hq rl =>
    rename_i a vs ws
    have g' : (if ws.length == n then Gs ws ρ else none) = some ρ' := g
    cases hl : (ws.length == n) with
    | false =>
      rw [hl] at g'
      cases g'
    | true =>
      rw [hl] at g'
      exact ⟨a, vs, rfl, hq, by rw [← rl.length]; exact eq_of_beq hl, c, d, oa, ρ, ws, ρ', e, rl, g', q⟩
  | _ => cases g
end
/-- target = value, for any target -/
def sAsg (f : En → T W) (G : W → En → Option En) : En → T (Fl × En) := fun ρ => (f ρ).bind fun w => match G w ρ with
  | some ρ' => .ok (.nx, ρ')
  | none => .bad
theorem tr_asg {X : Cx} {E : XK} {e tg : Expr} {f : En → T W} {ns : List Nat} {G : W → En → Option En} {pos : Pos} (he : TrE Γ X (wOf E) e f) (hg : TrG Γ X tg ns G) (hs : swapsWithSole [tg] e pos.line X.env = pure false := by rfl) (hw : swappedStores [tg] e X.env = pure none := by rfl)
    (h1 : (assignEach [tg] X.env).map (·.2) = [assign tg X.env] := by rfl) : TrS Γ X E (.Assign [tg] e pos) (sAsg f G) := ps_imp (ps_asg he hg hs hw h1) fun D σ H q => by
  obtain ⟨c, d, oa, ρ, e, q⟩ := q
  refine lift_thenS (P := fun c H => PSq X.K Γ c H D) e q (fun st p => p.later (.of st e.wd)) fun w v H1 d1 _ r1 e1 h1 => ?_
  cases g : G w ρ with
  | none =>
    rw [g] at h1
    exact h1.elim
  | some ρ' =>
    rw [g] at h1
    exact ⟨_, d1, oa, ρ, w, ρ', e1, r1, g, fun σ' _ e' => h1 _ oa σ' H1 .refl e'⟩
def whileL (t : En → T Bool) (gb : En → T (Fl × En)) : Nat → En → T (Fl × En)
  | 0, _ => .bad
  | n + 1, ρ => (t ρ).bind fun b => if b then (gb ρ).bind fun x => match x with
      | (.nx, ρ') => whileL t gb n ρ'
      | (.ct, ρ') => whileL t gb n ρ'
      | (.bk, ρ') => .ok (.nx, ρ')
      | (.rt w, ρ') => .ok (.rt w, ρ') else .ok (.nx, ρ)
def sWhile (μ : En → Nat) (t : En → T Bool) (gb : En → T (Fl × En)) : En → T (Fl × En) := fun ρ => whileL t gb (μ ρ) ρ
theorem tr_while {X : Cx} {E : XK} {e : Expr} {body : List Stmt} {t : En → T Bool} {gb : En → T (Fl × En)} {pos : Pos} (μ : En → Nat) (hp : PassesOwn (model X.prog X.w) X.A X.env X.xe) (hc : TrB Γ X (wOf E) e t) (hb : TrSs Γ X E body gb) : TrS Γ X E (.While e body [] pos) (sWhile μ t gb) :=
  ps_imp (ps_while hp hc hb) fun D σ H q => by
  obtain ⟨c, d, oa, ρ, e, q⟩ := q
  refine ⟨fun m σ H => ∃ c d oa ρ, EnvOk X.K Γ c d oa ρ σ H ∧ (whileL t gb m ρ).AllW (PSq X.K Γ c H D) (PXs X.K c H E) d, ⟨_, c, d, oa, ρ, e, q⟩, ?_⟩
  rintro m σ H ⟨c, d, oa, ρ, e, q⟩
  cases m with
  | zero => exact q.elim
  | succ m =>
    refine liftB_thenS (P := fun c H => PSq X.K Γ c H D) e q (fun st p => p.later (.of st e.wd)) fun b H1 d1 _ e1 h1 => ?_
    cases b with
    | false => exact iteF (h1 _ oa σ H1 .refl e1)
    | true =>
      refine iteT ⟨fun σ H => ∃ c d oa ρ, EnvOk X.K Γ c d oa ρ σ H ∧ (whileL t gb m ρ).AllW (PSq X.K Γ c H D) (PXs X.K c H E) d, fun σ' H' h => ⟨m, Nat.lt_succ_self m, h⟩, _, d1, oa, ρ, e1, ?_⟩
      refine T.AllW.imp (fun d2 x hx => ?_) (fun _ _ _ y => y) (T.allW_bind.mp h1)
      obtain ⟨fl, ρ2⟩ := x
      intro c2 oa2 σ2 H2 fw e2
      cases fl with
      | nx => exact ⟨c2, d2, oa2, ρ2, e2, T.AllW.imp (fun _ _ y => y.later fw) (fun _ _ _ y => y.fwd fw) hx⟩
      | ct => exact ⟨c2, d2, oa2, ρ2, e2, T.AllW.imp (fun _ _ y => y.later fw) (fun _ _ _ y => y.fwd fw) hx⟩
      | bk => exact hx c2 oa2 σ2 H2 fw e2
      | rt w => exact hx c2 oa2 σ2 H2 fw e2
/-- the iterator J yields ws, as long as the world goes on -/
def ItOk (K : PySem.W.Frag) (c : Cc) (H : Hp) (J : It) (ws : List W) : Prop := ∀ (c' : Cc) (H' : Hp) (d' : Dw) (i : Nat), Fwd K c H c' H' → Wd c' d' H' →
  (∀ w, ws[i]? = some w → J.go i H' ∧ ∀ x H2, J.yld i H' x H2 → SG c' c' H' H2 ∧ StOk c' d' H2 ∧ Rep K c' H2 w x) ∧ (ws.length ≤ i → J.stop i H')
def PJ (K : PySem.W.Frag) (c : Cc) (H : Hp) (R : It → Hp → Prop) : Dw → List W → Prop := fun d ws => ∀ ⦃c' : Cc⦄ J H1, SG c c' H H1 → StOk c' d H1 → ItOk K c' H1 J ws → R J H1
def liftI (K : PySem.W.Frag) (Γ : Cl) (E : WX) (f : En → T (List W)) : TI := fun σ H R => ∃ c d oa ρ, EnvOk K Γ c d oa ρ σ H ∧ (f ρ).AllW (PJ K c H R) (PX K c H fun cls dx H' => E cls dx σ H') d
theorem PJ.later {K : PySem.W.Frag} {c c1 : Cc} {H H1 : Hp} {R : It → Hp → Prop} {d : Dw} {ws : List W} (s : SG c c1 H H1) (h : PJ K c H R d ws) : PJ K c1 H1 R d ws := fun _ J H' st so r => h J H' (s.trans st) so r
def TrI (Γ : Cl) (X : Cx) (E : WX) (tg iter : Expr) (f : En → T (List W)) : Prop := PI X tg iter (liftI X.K Γ E f)
theorem pi_imp {X : Cx} {tg e : Expr} {t t' : TI} (h : PI X tg e t) (i : ∀ σ H Q, t' σ H Q → t σ H Q) : PI X tg e t' := ⟨fun pins s σ H Q I q => h.run pins s σ H Q I (i σ H Q q)⟩
def tupW : W → T (List W)
  | .tup ws => .ok ws
  | _ => .bad
def lstW : W → T (List W)
  | .lst ws => .ok ws
  | _ => .bad
def iOf (g : W → T (List W)) (f : En → T W) : En → T (List W) := fun ρ => (f ρ).bind g
def intsFrom (lo : Int) : Nat → List W
  | 0 => []
  | n + 1 => .int lo :: intsFrom (lo + 1) n
theorem intsFrom_get : ∀ (n : Nat) (lo : Int) (i : Nat), (intsFrom lo n)[i]? = if i < n then some (.int (lo + i)) else none
  | 0, lo, i => by simp [intsFrom]
  | n + 1, lo, 0 => by simp [intsFrom]
  | n + 1, lo, i + 1 => by
    simp only [intsFrom, List.getElem?_cons_succ]
    rw [intsFrom_get n (lo + 1) i]
    by_cases h : i < n
    · rw [if_pos h, if_pos (by omega)]
      have e : lo + 1 + (i : Int) = lo + ((i + 1 : Nat) : Int) := by omega
      rw [e]
    · rw [if_neg h, if_neg (by omega)]
theorem intsFrom_length : ∀ (n : Nat) (lo : Int), (intsFrom lo n).length = n
  | 0, _ => rfl
  | n + 1, lo => congrArg (· + 1) (intsFrom_length n (lo + 1))
@[irreducible] def rngOk (n : Int) : Bool := decide (n.natAbs.log2 < 61)
theorem rngOk_of {n : Int} (h : rngOk n = true) : -(2 ^ 62) ≤ n ∧ n < 2 ^ 62 := by
  unfold rngOk at h
  have h := of_decide_eq_true h
  by_cases h0 : n.natAbs = 0
  · omega
  · have := (Nat.log2_lt h0).mp h
    omega
theorem rngOk_is {n : Int} (h : -(2 ^ 60) ≤ n) (h1 : n ≤ 2 ^ 60) : rngOk n = true := by
  unfold rngOk
  refine decide_eq_true ?_
  by_cases h0 : n.natAbs = 0
  · rw [h0]
    decide
  · exact (Nat.log2_lt h0).mpr (by omega)
def rng1 : List W → T (List W)
  | [.int n] => if rngOk n then .ok (intsFrom 0 n.toNat) else .bad
  | _ => .bad
def rng2 : List W → T (List W)
  | [.int a, .int b] => if rngOk a && rngOk b then .ok (intsFrom a (b - a).toNat) else .bad
  | _ => .bad
def iL (g : List W → T (List W)) (f : En → T (List W)) : En → T (List W) := fun ρ => (f ρ).bind g
section
variable {X : Cx} {E : WX} {tg e a b : Expr} {f : En → T W} {fs : En → T (List W)} {p pos : Pos}
theorem PJ.now {K : PySem.W.Frag} {c : Cc} {H : Hp} {R : It → Hp → Prop} {d : Dw} {ws : List W} {J : It} (wd : Wd c d H) (h : PJ K c H R d ws) (j : ItOk K c H J ws) : R J H := h J H (.refl _ H) wd.st j
theorem tri_tup (h : TrE Γ X E e f) : TrI Γ X E tg e (iOf tupW f) := pi_imp (pi_tup h) fun σ H R q => by
  obtain ⟨c, d, oa, ρ, e, q⟩ := q
  refine lift_then (P := fun c H => PJ X.K c H R) e q (fun st p => p.later st) fun w v H1 d1 _ r1 e1 h1 => ?_
  cases r1 with
  | tup hq rl =>
    rename_i a vs ws
    refine ⟨a, rfl, ⟨_, hq⟩, PJ.now e1.wd h1 fun c' H' d' i fw wd => ⟨fun w hw => ?_, fun hi => ?_⟩⟩
    · obtain ⟨v, hv, rv⟩ := rl.get hw
      have hq' := fw.sqT e1.wd hq
      refine ⟨⟨vs, v, hq', hv⟩, fun x H2 y => ?_⟩
      obtain ⟨rfl, y⟩ := y
      have ex := y vs hq'
      rw [hv] at ex
      cases ex
      exact ⟨.refl _ _, wd.st, fw.rep _ _ rv⟩
    · exact ⟨vs, fw.sqT e1.wd hq, by rw [← rl.length]; exact hi⟩
  | _ => exact h1.elim
theorem tri_lst (h : TrE Γ X E e f) : TrI Γ X E tg e (iOf lstW f) := pi_imp (pi_list h) fun σ H R q => by
  obtain ⟨c, d, oa, ρ, e, q⟩ := q
  refine lift_then (P := fun c H => PJ X.K c H R) e q (fun st p => p.later st) fun w v H1 d1 _ r1 e1 h1 => ?_
  cases r1 with
  | lst n hq rl =>
    rename_i a vs ws
    refine ⟨a, rfl, ⟨_, SqL.of hq⟩, PJ.now e1.wd h1 fun c' H' d' i fw wd => ?_⟩
    have hq' : H' a = some (.lst vs) := fw.step _ _ hq (e1.ok.neS n) (e1.ok.nela n) (fun z => n (e1.m.inA _ z)) nofun
    have uq : ∀ xs, SqL X.K H' a xs → Rd H' a (.lst xs) ∨ SqL X.K (fun _ => none) a xs := fun xs h => sqL_split h
    refine ⟨fun w hw => ?_, fun hi => ?_⟩
    · obtain ⟨v, hv, rv⟩ := rl.get hw
      refine ⟨⟨vs, v, SqL.of hq', hv⟩, fun x H2 y => ?_⟩
      obtain ⟨rfl, y⟩ := y
      have ex := y vs (SqL.of hq')
      rw [hv] at ex
      cases ex
      exact ⟨.refl _ _, wd.st, fw.rep _ _ rv⟩
    · exact ⟨vs, SqL.of hq', by rw [← rl.length]; exact hi⟩
  | _ => exact h1.elim
theorem itr_ok {K : PySem.W.Frag} {c : Cc} {H : Hp} (lo : Int) (n : Nat) : ItOk K c H (Itr lo n) (intsFrom lo n) := fun c' H' d' i fw wd => by
  refine ⟨fun w hw => ?_, fun hi => ?_⟩
  · rw [intsFrom_get] at hw
    by_cases hi : i < n
    · rw [if_pos hi] at hw
      cases hw
      refine ⟨hi, fun x H2 y => ?_⟩
      obtain ⟨rfl, rfl⟩ := y
      exact ⟨.refl _ _, wd.st, .int _⟩
    · rw [if_neg hi] at hw
      cases hw
  · rw [intsFrom_length] at hi
    exact hi
theorem tri_rng1 (hg : Gl X "range") (hm : X.mg "range" = none) (ha : TrA Γ X E [a] fs) (hs : starEach [a] X.env = [(false, eval a X.env)] := by rfl) : TrI Γ X E tg (.Call (.Name "range" p) [a] [] pos) (iL rng1 fs) := pi_imp (pi_range1 hg hm ha hs) fun σ H R q => by
  obtain ⟨c, d, oa, ρ, e, q⟩ := q
  refine liftA_then (P := fun c H => PJ X.K c H R) e q (fun st p => p.later st) fun w v H1 d1 _ r1 e1 h1 => ?_
  cases r1 with
  | nil => exact h1.elim
  | cons r rr =>
    cases rr with
    | cons _ _ =>
      cases r <;> exact h1.elim
    | nil =>
      cases r with
      | int n =>
        obtain ⟨hb, h1⟩ := T.AllW.ite h1
        obtain ⟨h2, h3⟩ := rngOk_of hb
        exact ⟨n, rfl, h2, h3, PJ.now e1.wd h1 (itr_ok 0 n.toNat)⟩
      | _ => exact h1.elim
theorem tri_rng2 (hg : Gl X "range") (hm : X.mg "range" = none) (ha : TrA Γ X E [a, b] fs) (hs : starEach [a, b] X.env = [(false, eval a X.env), (false, eval b X.env)] := by rfl) (hs2 : starEach [b] X.env = [(false, eval b X.env)] := by rfl) : TrI Γ X E tg (.Call (.Name "range" p) [a, b] [] pos) (iL rng2 fs) := pi_imp (pi_range2 hg hm ha hs hs2) fun σ H R q => by
  obtain ⟨c, d, oa, ρ, e, q⟩ := q
  refine liftA_then (P := fun c H => PJ X.K c H R) e q (fun st p => p.later st) fun w v H1 d1 _ r1 e1 h1 => ?_
  cases r1 with
  | nil => exact h1.elim
  | cons r rr =>
    cases rr with
    | nil => cases r <;> exact h1.elim
    | cons r2 rr =>
      cases rr with
      | cons _ _ => cases r <;> cases r2 <;> exact h1.elim
      | nil =>
        cases r with
        | int x =>
          cases r2 with
          | int y =>
            obtain ⟨hb, h1⟩ := T.AllW.ite h1
            obtain ⟨ha, hb⟩ := Bool.and_eq_true_iff.mp hb
            obtain ⟨a1, a2⟩ := rngOk_of ha
            obtain ⟨b1, b2⟩ := rngOk_of hb
            exact ⟨x, y, rfl, ⟨a1, a2, b1, b2⟩, PJ.now e1.wd h1 (itr_ok x (y - x).toNat)⟩
          | _ => exact h1.elim
        | _ => exact h1.elim
end
def forL (G : W → En → Option En) (gb : En → T (Fl × En)) : List W → En → T (Fl × En)
  | [], ρ => .ok (.nx, ρ)
  | w :: ws, ρ => match G w ρ with
    | none => .bad
    | some ρ1 => (gb ρ1).bind fun x => match x with
      | (.nx, ρ2) => forL G gb ws ρ2
      | (.ct, ρ2) => forL G gb ws ρ2
      | (.bk, ρ2) => .ok (.nx, ρ2)
      | (.rt w, ρ2) => .ok (.rt w, ρ2)
def sFor (fi : En → T (List W)) (G : W → En → Option En) (gb : En → T (Fl × En)) : En → T (Fl × En) := fun ρ => (fi ρ).bind fun ws => forL G gb ws ρ
theorem tr_for {X : Cx} {E : XK} {tg iter : Expr} {body : List Stmt} {fi : En → T (List W)} {ns : List Nat} {G : W → En → Option En} {gb : En → T (Fl × En)} {pos : Pos} (hp : PassesOwn (model X.prog X.w) X.A X.env X.xe) (hc : X.calm = true) (hi : TrI Γ X (wOf E) tg iter fi) (hg : TrG Γ X tg ns G) (hb : TrSs Γ X E body gb)
    (hs : ∀ x, foldedSetIterable iter X.env x = pure x := by intro _; rfl) : TrS Γ X E (.For tg iter body [] pos) (sFor fi G gb) := ps_imp (ps_for hp hc hi hg hb hs) fun D σ H q => by
  obtain ⟨c, d, oa, ρ, e, q⟩ := q
  refine ⟨c, d, oa, ρ, e, T.AllW.imp (fun d1 ws hx => ?_) (fun _ _ _ y => y.toX e.wd) (T.allW_bind.mp q)⟩
  intro c1 J H1 st1 so1 jo
  have e1 := e.step st1 so1
  refine ⟨fun i m σ H' => m = ws.length - i ∧ ∃ c' d' oa' ρ', Fwd X.K c1 H1 c' H' ∧ EnvOk X.K Γ c' d' oa' ρ' σ H' ∧ (forL G gb (ws.drop i) ρ').AllW (PSq X.K Γ c' H' D) (PXs X.K c' H' E) d', ⟨_, rfl, c1, d1, oa, ρ, .refl, e1, T.AllW.imp (fun _ _ y => y.later (.of st1 e.wd)) (fun _ _ _ y => y.later e.wd st1) hx⟩, ?_⟩
  rintro i m σ' H' ⟨rfl, c', d', oa', ρ', fw, e', h'⟩
  obtain ⟨ji, js⟩ := jo c' H' d' i fw e'.wd
  by_cases hi : i < ws.length
  · have hw : ws[i]? = some ws[i] := List.getElem?_eq_getElem hi
    have hd : ws.drop i = ws[i] :: ws.drop (i + 1) := List.drop_eq_getElem_cons hi
    rw [hd] at h'
    obtain ⟨jg, jy⟩ := ji _ hw
    refine .inr ⟨jg, fun σ2 H2 => ∃ c2 d2 oa2 ρ2, Fwd X.K c1 H1 c2 H2 ∧ EnvOk X.K Γ c2 d2 oa2 ρ2 σ2 H2 ∧ (forL G gb (ws.drop (i + 1)) ρ2).AllW (PSq X.K Γ c2 H2 D) (PXs X.K c2 H2 E) d2, fun σ2 H2 h2 => ⟨ws.length - (i + 1), by omega, rfl, h2⟩, fun x H2 y => ?_⟩
    obtain ⟨st2, so2, rx⟩ := jy x H2 y
    have fw2 : Fwd X.K c' H' c' H2 := .of st2 e'.wd
    have e2 := e'.step st2 so2
    unfold forL at h'
    cases g : G ws[i] ρ' with
    | none =>
      rw [g] at h'
      exact h'.elim
    | some ρ1 =>
      rw [g] at h'
      refine ⟨c', d', oa', ρ', ws[i], ρ1, e2, rx, g, fun σ3 _ e3 => ⟨c', d', oa', ρ1, e3, ?_⟩⟩
      refine T.AllW.imp (fun d4 x4 hx4 => ?_) (fun _ _ _ y => y.fwd fw2) (T.allW_bind.mp h')
      obtain ⟨fl, ρ4⟩ := x4
      intro c4 oa4 σ4 H4 fw4 e4
      have fw5 : Fwd X.K c' H' c4 H4 := fw2.trans fw4
      cases fl with
      | nx => exact ⟨c4, d4, oa4, ρ4, fw.trans fw5, e4, T.AllW.imp (fun _ _ y => y.later fw5) (fun _ _ _ y => y.fwd fw5) hx4⟩
      | ct => exact ⟨c4, d4, oa4, ρ4, fw.trans fw5, e4, T.AllW.imp (fun _ _ y => y.later fw5) (fun _ _ _ y => y.fwd fw5) hx4⟩
      | bk => exact hx4 c4 oa4 σ4 H4 fw5 e4
      | rt w => exact hx4 c4 oa4 σ4 H4 fw5 e4
  · rw [List.drop_eq_nil_of_le (by omega)] at h'
    exact .inl ⟨js (by omega), h' c' oa' σ' H' .refl e'⟩
end PF
namespace PF
open PySem PySem.Spec PyProof.Rows L2
abbrev Cc.more (c : Cc) (D : Addr) : Cc := { c with A := D :: c.A }
section
variable {K : PySem.W.Frag} {c : Cc} {d : Dw} {oa : Nat → Addr} {ρ : En} {σ : St} {H H' : Hp} {D : Addr}
mutual
theorem Rep.more (n : H D = none) (st : Step c H H') (s : StOk c d H) (ok : CcOk c) : ∀ {w : W} {v : V}, Rep K c H w v → Rep K (c.more D) H' w v
  | _, _, .non => .non
  | _, _, .bl b => .bl b
  | _, _, .int i => .int i
  | _, _, .str x => .str x
  | _, _, .tup h r => .tup (st.sqT s h) (RepL.more n st s ok r)
  | _, _, .lst m h r => .lst (by
      simp only [List.mem_cons, not_or]
      exact ⟨ne_of_none h n, m⟩) (st.lst ok m h) (RepL.more n st s ok r)
  | _, _, .dct m h r => .dct (by
      simp only [List.mem_cons, not_or]
      exact ⟨ne_of_none h n, m⟩) (st.lst ok m h) (RepL.more n st s ok r)
  | _, _, .scr h => .scr (by
      rcases h with ⟨m, r⟩ | h
      · refine .inl ⟨?_, r.imp (fun e => st.lst ok m e) fun ⟨o, e⟩ => ⟨o, st.lst ok m e⟩⟩
        simp only [List.mem_cons, not_or]
        refine ⟨?_, m⟩
        rcases r with r | ⟨o, r⟩
        · exact ne_of_none r n
        · exact ne_of_none r n
      · exact .inr h)
  | _, _, .stt => .stt
  | _, _, .lam h => .lam (h.kp (st.kp s))
  | _, _, .clo h g m k pl r => .clo (h.kp (st.kp s)) g m (k.kp (st.kp s)) pl (RepL.more n st s ok r)
  | _, _, .exo h1 h2 h3 r => .exo ((st.kp s).ext _ _ h1) ((st.kp s).xd _ _ h2) h3 (RepL.more n st s ok r)
  | _, _, .obj h => .obj h
  | _, _, .dcu m h r => .dcu (by
      simp only [List.mem_cons, not_or]
      exact ⟨ne_of_none h n, m⟩) (st.lst ok m h) (RepL.more n st s ok r)
theorem RepL.more (n : H D = none) (st : Step c H H') (s : StOk c d H) (ok : CcOk c) : ∀ {ws : List W} {vs : List V}, RepL K c H ws vs → RepL K (c.more D) H' ws vs
  | _, _, .nil => .nil
  | _, _, .cons h r => .cons (Rep.more n st s ok h) (RepL.more n st s ok r)
end
theorem Fwd.more (n : H D = none) (st : Step c H H') (wd : Wd c d H) : Fwd K c H (c.more D) H' := ⟨rfl, rfl, rfl, rfl, rfl, rfl, List.prefix_rfl, fun b h _ => List.mem_cons_of_mem _ h, fun _ h => .inl h, fun b o h h1 h2 _ nt => st.keep b o h h1 h2 nt, fun b ps h _ => st.tbl b ps h, fun w v r => r.more n st wd.st wd.ok, fun _ _ h => st.sqT wd.st h, fun b C dx fs h _ => st.ins b C dx fs h⟩
theorem CcOk.more (ok : CcOk c) : CcOk (c.more D) := ⟨List.mem_cons_of_mem _ ok.inS, List.mem_cons_of_mem _ ok.inla, List.mem_cons_of_mem _ ok.inca⟩
theorem StOk.more {o : HO} (s : StOk c d H) (n : H D = none) : StOk (c.more D) d (upd H D o) := ⟨s.1.new n, s.2.same s.2.ok.more rfl rfl (fun a C dx fl h => by rw [upd_ne (ne_of_none h n)]; exact h) fun ws vs r => r.more n (.new n) s s.2.ok⟩
/-- an object of the frame's own is laid -/
theorem EnvOk.more {o : HO} (e : EnvOk K Γ c d oa ρ σ H) (n : H D = none) (ow : OwnO o := by first | exact .inl ⟨_, rfl⟩ | exact .inr ⟨_, rfl⟩) : EnvOk K Γ (c.more D) d oa ρ σ (upd H D o) where
  ok := ⟨List.mem_cons_of_mem _ e.ok.inS, List.mem_cons_of_mem _ e.ok.inla, List.mem_cons_of_mem _ e.ok.inca⟩
  st := e.st.more n
  av := fun b hb => by
    rcases List.mem_cons.mp hb with rfl | hb
    · exact ⟨_, upd_same, ow⟩
    · exact (e.wd.new n).av b hb
  len := e.len
  val := fun i w h => by
    obtain ⟨v, h1, h2⟩ := e.val i w h
    exact ⟨v, h1, h2.more n (.new n) e.st e.ok⟩
  m := ⟨fun b hb => List.mem_cons_of_mem _ (e.m.inA b hb), e.m.nst, fun b hb => by
    obtain ⟨o', h, w⟩ := e.m.ls b hb
    exact ⟨o', by rw [upd_ne (ne_of_none h n)]; exact h, w⟩⟩
  own := fun i ws h => by
    obtain ⟨h1, h3, vs, h4, h5⟩ := e.own i ws h
    exact ⟨h1, h3, vs, by rw [upd_ne (ne_of_none h4 n)]; exact h4, h5.more n (.new n) e.st e.ok⟩
  inj := e.inj
  odc := fun i ws h => by
    obtain ⟨h1, h3, vs, h4, h5⟩ := e.odc i ws h
    exact ⟨h1, h3, vs, by rw [upd_ne (ne_of_none h4 n)]; exact h4, h5.1, h5.2.more n (.new n) e.st e.ok⟩
  ido := e.ido
  tT := e.tT
  cC := e.cC
  kK := e.kK
theorem sqT_upd {a : Addr} {vs : List V} {o u : HO} (hl : H D = some o) (nt : ∀ xs, o ≠ .tup xs) (nf : ∀ b u, o ≠ .frz b u) (h : SqT K H a vs) : SqT K (upd H D u) a vs := by
  rcases h with (h | ⟨b, h⟩) | h
  · exact .inl (.inl (by rw [upd_ne (ne_of h hl (Ne.symm (nt _)))]; exact h))
  · exact .inl (.inr ⟨b, by rw [upd_ne (ne_of h hl (Ne.symm (nf _ _)))]; exact h⟩)
  · exact .inr h
theorem kp_upd {o u : HO} (hl : H D = some o) (nx : (∀ φ, o ≠ .ext φ) ∧ ∀ fs, o ≠ .xd fs) : Kp H (L2.upd H D u) := ⟨fun b φ h => by rw [upd_ne (ne_of h hl (Ne.symm (nx.1 _)))]; exact h, fun b φ h => by rw [upd_ne (ne_of h hl (Ne.symm (nx.2 _)))]; exact h⟩
mutual
theorem Rep.upd {o u : HO} (hA : D ∈ c.A) (hl : H D = some o) (nt : ∀ xs, o ≠ .tup xs) (nf : ∀ b u, o ≠ .frz b u) (nx : (∀ φ, o ≠ .ext φ) ∧ ∀ fs, o ≠ .xd fs := by exact ⟨nofun, nofun⟩) : ∀ {w : W} {v : V}, Rep K c H w v → Rep K c (L2.upd H D u) w v
  | _, _, .non => .non
  | _, _, .bl b => .bl b
  | _, _, .int i => .int i
  | _, _, .str x => .str x
  | _, _, .tup h r => .tup (sqT_upd hl nt nf h) (RepL.upd hA hl nt nf nx r)
  | _, _, .lst m h r => .lst m (by rw [upd_ne (fun z => m (by rw [z]; exact hA))]; exact h) (RepL.upd hA hl nt nf nx r)
  | _, _, .dct m h r => .dct m (by rw [upd_ne (fun z => m (by rw [z]; exact hA))]; exact h) (RepL.upd hA hl nt nf nx r)
  | _, _, .scr h => .scr (by
      rcases h with ⟨m, r⟩ | h
      · have ne : ∀ b, b ∉ c.A → b ≠ D := fun b hb z => hb (by rw [z]; exact hA)
        exact .inl ⟨m, r.imp (fun e => by rw [upd_ne (ne _ m)]; exact e) fun ⟨o, e⟩ => ⟨o, by rw [upd_ne (ne _ m)]; exact e⟩⟩
      · exact .inr h)
  | _, _, .stt => .stt
  | _, _, .lam h => .lam (h.kp (kp_upd hl nx))
  | _, _, .clo h g m k pl r => .clo (h.kp (kp_upd hl nx)) g m (k.kp (kp_upd hl nx)) pl (RepL.upd hA hl nt nf nx r)
  | _, _, .exo h1 h2 h3 r => .exo ((kp_upd hl nx).ext _ _ h1) ((kp_upd hl nx).xd _ _ h2) h3 (RepL.upd hA hl nt nf nx r)
  | _, _, .obj h => .obj h
  | _, _, .dcu m h r => .dcu m (by rw [upd_ne (fun z => m (by rw [z]; exact hA))]; exact h) (RepL.upd hA hl nt nf nx r)
theorem RepL.upd {o u : HO} (hA : D ∈ c.A) (hl : H D = some o) (nt : ∀ xs, o ≠ .tup xs) (nf : ∀ b u, o ≠ .frz b u) (nx : (∀ φ, o ≠ .ext φ) ∧ ∀ fs, o ≠ .xd fs := by exact ⟨nofun, nofun⟩) : ∀ {ws : List W} {vs : List V}, RepL K c H ws vs → RepL K c (L2.upd H D u) ws vs
  | _, _, .nil => .nil
  | _, _, .cons h r => .cons (Rep.upd hA hl nt nf nx h) (RepL.upd hA hl nt nf nx r)
end
theorem lst_noC {xs : List V} {p : Addr} (q : Str) : HO.lst xs ≠ LamX.CodeO p q := fun z => by
  unfold LamX.CodeO at z
  cases z
theorem StOk.upd {u : HO} {xs : List V} (s : StOk c d H) (hA : D ∈ c.A) (hn : D ∉ [c.S, c.ca, c.la]) (hl : H D = some (.lst xs)) : StOk c d (L2.upd H D u) := by
  obtain ⟨⟨cells, lefts, k, r, h1, h2, h3, h4, h5, h6, h7, h8, h9⟩, ob⟩ := s
  simp only [List.mem_cons, not_or, List.not_mem_nil, not_false_eq_true, and_true] at hn
  exact ⟨⟨cells, lefts, k, r, by rw [upd_ne (Ne.symm hn.1)]; exact h1, by rw [upd_ne (Ne.symm hn.2.1)]; exact h2, by rw [upd_ne (Ne.symm hn.2.2)]; exact h3, h4, h5, h6, h7, h8, Tabs.upd h9 hl nofun lst_noC⟩,
    ob.same ob.ok rfl rfl (fun a C dx fl h => by rw [upd_ne (ne_of h hl nofun)]; exact h) fun ws vs r => r.upd hA hl (fun _ z => by cases z) (fun _ _ z => by cases z)⟩
theorem EnvOk.upd {xs ys : List V} (e : EnvOk K Γ c d oa ρ σ H) (hA : D ∈ c.A) (hn : D ∉ [c.S, c.ca, c.la]) (hl : H D = some (.lst xs)) (ho : ∀ (i : Nat) (ws : List W), ρ[i]? = some (.own ws) → oa i ≠ D) : EnvOk K Γ c d oa ρ σ (L2.upd H D (.lst ys)) where
  ok := e.ok
  st := e.st.upd hA hn hl
  av := fun b hb => by
    by_cases hb' : b = D
    · rw [hb']
      exact ⟨_, upd_same, .inl ⟨_, rfl⟩⟩
    · obtain ⟨o, h, w⟩ := e.av b hb
      exact ⟨o, by rw [upd_ne hb']; exact h, w⟩
  len := e.len
  val := fun i w h => by
    obtain ⟨v, h1, h2⟩ := e.val i w h
    exact ⟨v, h1, h2.upd hA hl (fun _ z => by cases z) (fun _ _ z => by cases z)⟩
  m := ⟨e.m.inA, e.m.nst, fun b hb => by
    by_cases hb' : b = D
    · rw [hb']
      exact ⟨_, upd_same, .inl ⟨_, rfl⟩⟩
    · obtain ⟨xs, h, w⟩ := e.m.ls b hb
      exact ⟨xs, by rw [upd_ne hb']; exact h, w⟩⟩
  own := fun i ws h => by
    obtain ⟨h1, h3, vs, h4, h5⟩ := e.own i ws h
    exact ⟨h1, h3, vs, by rw [upd_ne (ho i ws h)]; exact h4, h5.upd hA hl (fun _ z => by cases z) (fun _ _ z => by cases z)⟩
  inj := e.inj
  odc := fun i ws h => by
    obtain ⟨h1, h3, vs, h4, h5⟩ := e.odc i ws h
    have ne : oa i ≠ D := fun z => by
      rw [z, hl] at h4
      cases h4
    exact ⟨h1, h3, vs, by rw [upd_ne ne]; exact h4, h5.1, h5.2.upd hA hl (fun _ z => by cases z) (fun _ _ z => by cases z)⟩
  ido := e.ido
  tT := e.tT
  cC := e.cC
  kK := e.kK
end
/-- a step, then an object that is new since then is changed -/
theorem Step.past {c : Cc} {H H' : Hp} {D : Addr} {u : HO} (st : Step c H H') (n : H D = none) : Step c H (L2.upd H' D u) := ⟨fun b o hb h1 h2 h3 => by
    rw [upd_ne (ne_of_none hb n)]
    exact st.keep b o hb h1 h2 h3, fun b ps hb => by
    rw [upd_ne (ne_of_none hb n)]
    exact st.tbl b ps hb, fun b C dx fs hb => by
    obtain ⟨gs, q⟩ := st.ins b C dx fs hb
    exact ⟨gs, by rw [upd_ne (ne_of_none hb n)]; exact q⟩⟩
def noX {α : Type} : T α → T α
  | .ok a => .ok a
  | .exc _ _ => .bad
  | .bad => .bad
  | .ask n k => .ask n fun i => noX (k i)
  | .get i k => .get i fun c fs => noX (k c fs)
  | .put i fs k => .put i fs (noX k)
  | .new c fs k => .new c fs fun i => noX (k i)
theorem noX_all {α : Type} {P : Dw → α → Prop} {E E' : Dw → Nat → List W → Prop} {t : T α} {d : Dw} (h : (noX t).AllW P E d) : t.AllW P E' d := by
  induction t generalizing d with
  | ok a => exact h
  | exc _ _ => exact h.elim
  | bad => exact h
  | ask n k ih =>
    obtain ⟨e, he, x⟩ := h
    exact ⟨e, he, fun i hi => ih i (x i hi)⟩
  | get i k ih =>
    obtain ⟨c, fs, e, x⟩ := h
    exact ⟨c, fs, e, ih c fs x⟩
  | put i fs k ih =>
    obtain ⟨c, gs, e, x⟩ := h
    exact ⟨c, gs, e, ih x⟩
  | new c fs k ih => exact ih _ h
def wipeE (ρ : En) : List Nat → En
  | [] => ρ
  | v :: vs => (wipeE ρ vs).set v .un
def compL (G : W → En → Option En) (tt : En → T Bool) (fe : En → T W) (ρ : En) : List W → T (List W)
  | [] => .ok []
  | w :: ws => match G w ρ with
    | none => .bad
    | some ρ1 => (noX (tt ρ1)).bind fun b => if b then (noX (fe ρ1)).bind fun x => (compL G tt fe ρ ws).bind fun xs => .ok (x :: xs) else compL G tt fe ρ ws
def fComp (vs : List Nat) (fi : En → T (List W)) (G : W → En → Option En) (tt : En → T Bool) (fe : En → T W) : En → T W := fun ρ => (fi ρ).bind fun ws => if sizeOk ws then (compL G tt fe (wipeE ρ vs) ws).bind fun xs => .ok (.lst xs) else .bad
abbrev noW : WX := fun _ _ _ _ => False
section
variable {K : PySem.W.Frag} {c : Cc} {d : Dw} {oa : Nat → Addr} {ρ : En} {σ : St} {H : Hp}
theorem EnvOk.un {v : Nat} (e : EnvOk K Γ c d oa ρ σ H) : EnvOk K Γ c d oa (ρ.set v .un) (σ.set v none) H where
  ok := e.ok
  st := e.st
  av := e.av
  len := by rw [List.length_set, List.length_set]; exact e.len
  val := fun j x h => by
    rcases getElem?_set_or h with ⟨ej, ex⟩ | ⟨n, h'⟩
    · cases ex
    · obtain ⟨u, h1, h2⟩ := e.val j x h'
      exact ⟨u, by rw [List.getElem?_set_ne (Ne.symm n)]; exact h1, h2⟩
  m := e.m
  own := fun j x h => by
    rcases getElem?_set_or h with ⟨ej, ex⟩ | ⟨n, h'⟩
    · cases ex
    · obtain ⟨h1, h3, h4⟩ := e.own j x h'
      exact ⟨h1, by rw [List.getElem?_set_ne (Ne.symm n)]; exact h3, h4⟩
  inj := fun a b x y h1 h2 => by
    rcases getElem?_set_or h1 with ⟨ej, ex⟩ | ⟨n1, h1'⟩
    · cases ex
    · rcases getElem?_set_or h2 with ⟨ej, ex⟩ | ⟨n2, h2'⟩
      · cases ex
      · exact e.inj a b x y h1' h2'
  odc := fun j x h => by
    rcases getElem?_set_or h with ⟨ej, ex⟩ | ⟨n, h'⟩
    · cases ex
    · obtain ⟨h1, h3, h4⟩ := e.odc j x h'
      exact ⟨h1, by rw [List.getElem?_set_ne (Ne.symm n)]; exact h3, h4⟩
  ido := fun a b x y h1 h2 => by
    rcases getElem?_set_or h1 with ⟨ej, ex⟩ | ⟨n1, h1'⟩
    · cases ex
    · rcases getElem?_set_or h2 with ⟨ej, ex⟩ | ⟨n2, h2'⟩
      · cases ex
      · exact e.ido a b x y h1' h2'
  tT := e.tT
  cC := e.cC
  kK := e.kK
theorem EnvOk.wipe (e : EnvOk K Γ c d oa ρ σ H) : ∀ vs : List Nat, EnvOk K Γ c d oa (wipeE ρ vs) (L2.wipe σ vs) H
  | [] => e
  | v :: vs => (EnvOk.wipe e vs).un
theorem wipeE_own {j : Nat} {xs : List W} : ∀ {vs : List Nat}, (wipeE ρ vs)[j]? = some (.own xs) → ρ[j]? = some (.own xs)
  | [], h => h
  | v :: vs, h => by
    rcases getElem?_set_or h with ⟨_, ex⟩ | ⟨_, h⟩
    · cases ex
    · exact wipeE_own h
theorem wipe_len (σ : St) : ∀ vs : List Nat, (L2.wipe σ vs).length = σ.length
  | [] => rfl
  | v :: vs => by
    unfold L2.wipe
    rw [List.length_set, wipe_len σ vs]
theorem wipe_at (σ : St) : ∀ (vs : List Nat) (j : Nat), (L2.wipe σ vs)[j]? = if j ∈ vs then (if j < σ.length then some none else none) else σ[j]?
  | [], j => by
    rw [if_neg (by simp)]
    rfl
  | v :: vs, j => by
    unfold L2.wipe
    by_cases e : v = j
    · subst e
      rw [if_pos (List.mem_cons_self ..), List.getElem?_set]
      simp only [if_true, wipe_len]
    · rw [List.getElem?_set_ne e, wipe_at σ vs j]
      have e' : (j ∈ v :: vs) ↔ j ∈ vs := by
        simp only [List.mem_cons]
        exact ⟨fun h => h.elim (fun z => absurd z.symm e) id, .inr⟩
      simp only [e']
theorem wipe_but {ns vs : List Nat} {σ2 : St} (h : ButAt ns (L2.wipe σ vs) σ2) (hs : ∀ i ∈ ns, i ∈ vs) : L2.wipe σ2 vs = L2.wipe σ vs := by
  refine List.ext_getElem? fun j => ?_
  rw [wipe_at, wipe_at]
  have hl : σ2.length = σ.length := by rw [h.1, wipe_len]
  by_cases hj : j ∈ vs
  · rw [if_pos hj, if_pos hj, hl]
  · rw [if_neg hj, if_neg hj, h.2 j (fun z => hj (hs j z)), wipe_at, if_neg hj]
end
section
variable {X : Cx} {E : WX} {elt tg iter : Expr} {ifs : List Expr} {scope : Scope} {own : List (Str × Nat)} {pos : Pos} {fi : En → T (List W)} {ns : List Nat} {G : W → En → Option En} {tt : En → T Bool} {fe : En → T W}
theorem Gr.back {c cm : Cc} {D : Addr} (g : Gr (c.more D) cm) : Gr c { cm with A := c.A } := ⟨g.S, g.ca, g.la, rfl, g.M, g.T, g.C, g.KK, g.O⟩
theorem ObAt.weak {K : PySem.W.Frag} {c c1 : Cc} {H : Hp} {a : Addr} {cl : Nat} {fs : List W} (h : ObAt K c1 H a cl fs) (hS : c1.S = c.S) (hC : c1.C = c.C) (hO : c1.O = c.O) (sub : ∀ b ∈ c.A, b ∈ c1.A) : ObAt K c H a cl fs := h.same rfl fun _ _ r => r.weak hS hC sub hO
theorem StOk.weak {c c1 : Cc} {d : Dw} {H : Hp} (s : StOk c1 d H) (hS : c1.S = c.S) (hca : c1.ca = c.ca) (hla : c1.la = c.la) (hT : c1.T = c.T) (hC : c1.C = c.C) (hK : c1.K = c.K) (hO : c1.O = c.O) (sub : ∀ b ∈ c.A, b ∈ c1.A) (ok : CcOk c) : StOk c d H := by
  obtain ⟨⟨cells, lefts, k, r, h1, h2, h3, h4, h5, h6, h7, h8, h9⟩, ob⟩ := s
  rw [hS, hca, hla] at h1
  rw [hca] at h2
  rw [hla] at h3
  rw [hca, hla] at h8
  rw [hT] at h9
  exact ⟨⟨cells, lefts, k, r, h1, h2, h3, h4, h5, h6, h7, h8, h9⟩, ok, by rw [← hO]; exact ob.len, by rw [← hO]; exact ob.nd, fun i a o q1 q2 => by
    rw [← hK]
    exact (ob.at_ i a o (by rw [hO]; exact q1) q2).weak hS hC hO sub, by rw [← hK]; exact ob.no⟩
theorem StOk.back {c cm : Cc} {d : Dw} {D : Addr} {H : Hp} (g : Gr (c.more D) cm) (ok : CcOk c) (s : StOk cm d H) : StOk { cm with A := c.A } d H := s.weak rfl rfl rfl rfl rfl rfl rfl (fun b hb => by rw [g.A]; exact List.mem_cons_of_mem _ hb) (ok.gr g.back)
theorem Fwd.gr {K : PySem.W.Frag} {c c1 c2 : Cc} {H H1 : Hp} (f : Fwd K c H c1 H1) (g : Gr c1 c2) : Fwd K c H c2 H1 where
  S := g.S.trans f.S
  ca := g.ca.trans f.ca
  la := g.la.trans f.la
  T := g.T.trans f.T
  C := g.C.trans f.C
  KK := g.KK.trans f.KK
  O := f.O.trans g.O
  sub := fun b h n => by
    rw [g.A]
    exact f.sub b h n
  fr := fun b h => by
    rw [g.M] at h
    exact f.fr b h
  step := f.step
  tbl := f.tbl
  rep := fun w v h => (f.rep w v h).gr g
  sq := f.sq
  ins := f.ins
theorem comp_ok (hs : ∀ i ∈ ns, i ∈ own.map (·.2)) : ∀ σ H Q, liftE X.K Γ E (fComp (own.map (·.2)) fi G tt fe) σ H Q → tLc (liftI X.K Γ E fi) (liftG X.K Γ ns G) (liftB X.K Γ noW tt) (liftE X.K Γ noW fe) (own.map (·.2)) σ H Q := fun σ H Q h => by
  obtain ⟨c, d, oa, ρ, e, h⟩ := h
  refine ⟨c, d, oa, ρ, e, T.AllW.imp (fun d1 ws hx => ?_) (fun _ _ _ y => y) (T.allW_bind.mp h)⟩
  intro c1 J H1 st1 so1 jo D nD
  have e1 := e.step st1 so1
  obtain ⟨hz, hx⟩ := T.AllW.ite hx
  have hz := sizeOk_of hz
  generalize hvs : own.map (·.2) = vs at hs hx
  have hx : ((compL G tt fe (wipeE ρ vs) ws).bind fun xs => T.ok (W.lst xs)).AllW (PQ X.K c1 H1 Q) (PX X.K c1 H1 fun cls dx H' => E cls dx σ H') d1 := T.AllW.imp (fun _ _ y => y.later st1) (fun _ _ _ y => y.later st1) hx
  -- the turn's word
  refine ⟨fun i m H' => m = ws.length - i ∧ ∃ cm d' acc us, Gr (c1.more D) cm ∧ Step c1 H1 H' ∧ EnvOk X.K Γ cm d' oa (wipeE ρ vs) (wipe σ vs) H' ∧ H' D = some (.lst us) ∧ RepL X.K cm H' acc us ∧ us.length ≤ i ∧
    ((compL G tt fe (wipeE ρ vs) (ws.drop i)).bind fun xs => T.ok (W.lst (acc ++ xs))).AllW (PQ X.K c1 H1 Q) (PX X.K c1 H1 fun cls dx H' => E cls dx σ H') d',
    ⟨_, rfl, _, d1, [], [], .refl _, .new nD, (e1.more nD).wipe vs, upd_same, .nil, Nat.le_refl _, hx⟩, ?_⟩
  rintro i m H' ⟨rfl, cm, d', acc, us, gm, st', e', hD, ra, hl, h'⟩
  have fw : Fwd X.K c1 H1 cm H' := (Fwd.more nD st' e1.wd).gr gm
  obtain ⟨ji, js⟩ := jo cm H' d' i fw e'.wd
  have nst : D ∉ [cm.S, cm.ca, cm.la] := by
    rw [gm.S, gm.ca, gm.la]
    obtain ⟨⟨cells, lefts, k, r, h1, h2, h3, _⟩, _⟩ := so1
    simp only [List.mem_cons, not_or, List.not_mem_nil, not_false_eq_true, and_true]
    exact ⟨Ne.symm (ne_of_none h1 nD), Ne.symm (ne_of_none h2 nD), Ne.symm (ne_of_none h3 nD)⟩
  have inA : ∀ {ck : Cc}, Gr cm ck → D ∈ ck.A := fun g => by
    rw [g.A, gm.A]
    exact List.mem_cons_self ..
  have nstg : ∀ {ck : Cc}, Gr cm ck → D ∉ [ck.S, ck.ca, ck.la] := fun g => by
    rw [g.S, g.ca, g.la]
    exact nst
  have ho : ∀ (j : Nat) (xs : List W), (wipeE ρ vs)[j]? = some (.own xs) → oa j ≠ D := fun j xs hj => by
    obtain ⟨_, _, zs, h4, _⟩ := e1.own j xs (wipeE_own hj)
    exact ne_of_none h4 nD
  have c1m : ∀ {Ha Hb : Hp} {ck ck' : Cc}, Gr cm ck → SG ck ck' Ha Hb → Step c1 Ha Hb := fun g st => Step.to st.st (g.S.trans gm.S) (g.la.trans gm.la)
  by_cases hi : i < ws.length
  · have hw : ws[i]? = some ws[i] := List.getElem?_eq_getElem hi
    rw [List.drop_eq_getElem_cons hi] at h'
    obtain ⟨jg, jy⟩ := ji _ hw
    refine .inr ⟨jg, fun H2 => ∃ cm d' acc us, Gr (c1.more D) cm ∧ Step c1 H1 H2 ∧ EnvOk X.K Γ cm d' oa (wipeE ρ vs) (wipe σ vs) H2 ∧ H2 D = some (.lst us) ∧ RepL X.K cm H2 acc us ∧ us.length ≤ i + 1 ∧
      ((compL G tt fe (wipeE ρ vs) (ws.drop (i + 1))).bind fun xs => T.ok (W.lst (acc ++ xs))).AllW (PQ X.K c1 H1 Q) (PX X.K c1 H1 fun cls dx H' => E cls dx σ H') d', fun H2 h2 => ⟨ws.length - (i + 1), by omega, rfl, h2⟩, fun x H2 y => ?_⟩
    obtain ⟨st2, so2, rx⟩ := jy x H2 y
    have e2 := e'.step st2 so2
    have keep : ∀ {Ha Hb : Hp} {ck ck' : Cc}, Gr cm ck → SG ck ck' Ha Hb → ∀ {us}, Ha D = some (.lst us) → Hb D = some (.lst us) := fun g st us h => by
      have n0 := nstg g
      simp only [List.mem_cons, not_or] at n0
      exact st.st.keep _ _ h n0.1 n0.2.2.1 nofun
    unfold compL at h'
    cases g : G ws[i] (wipeE ρ vs) with
    | none =>
      rw [g] at h'
      exact h'.elim
    | some ρ1 =>
      rw [g] at h'
      refine ⟨cm, d', oa, wipeE ρ vs, ws[i], ρ1, e2, rx, g, fun σ3 b3 e3 => ⟨wipe_but b3 hs, cm, d', oa, ρ1, e3, ?_⟩⟩
      refine noX_all (T.AllW.imp (fun d4 b hb => ?_) (fun _ _ _ y => y) (T.allW_bind.mp (T.allW_bind.mp h')))
      intro c4 H4 st4 so4
      have e4 := e3.step st4 so4
      have e4' := e2.step st4 so4
      have hD4 := keep st4.g (.refl c4 H4) (keep (.refl cm) st4 (keep (.refl cm) st2 hD))
      have ra4 := (ra.step st2 e'.st e'.ok).step st4 e2.st e2.ok
      have stt4 : Step c1 H1 H4 := st'.trans ((c1m (.refl cm) st2).trans (c1m (.refl cm) st4))
      cases b with
      | false => exact iteF ⟨c4, d4, acc, us, gm.trans st4.g, stt4, e4', hD4, ra4, Nat.le_succ_of_le hl, T.allW_bind.mpr (show (compL G tt fe (wipeE ρ vs) (ws.drop (i + 1))).AllW _ _ d4 from hb)⟩
      | true =>
        refine iteT ⟨c4, d4, oa, ρ1, e4, ?_⟩
        refine noX_all (T.AllW.imp (fun d5 w5 h5 => ?_) (fun _ _ _ y => y) (T.allW_bind.mp (show ((noX (fe ρ1)).bind fun x => (compL G tt fe (wipeE ρ vs) (ws.drop (i + 1))).bind fun xs => .ok (x :: xs)).AllW _ _ d4 from hb)))
        intro c5 v5 H5 st5 so5 r5
        have e5 := e4'.step st5 so5
        have g5 := st4.g.trans st5.g
        have hD5 := keep st4.g st5 hD4
        have ra5 := ra4.step st5 e4'.st e4'.ok
        refine ⟨us, hD5, by omega, c5, d5, acc ++ [w5], us ++ [v5], gm.trans g5, (stt4.trans (c1m st4.g st5)).past nD, e5.upd (inA g5) (nstg g5) hD5 ho, upd_same, ?_, by rw [List.length_append]; exact Nat.succ_le_succ hl, ?_⟩
        · exact (ra5.append (.cons r5 .nil)).upd (inA g5) hD5 (fun _ z => by cases z) (fun _ _ z => by cases z)
        · have h6 := T.allW_bind.mp h5
          refine T.allW_bind.mpr (T.AllW.imp (fun d6 xs h7 => ?_) (fun _ _ _ y => y) h6)
          have e7 : acc ++ [w5] ++ xs = acc ++ w5 :: xs := by simp
          rw [e7]
          exact h7
  · rw [List.drop_eq_nil_of_le (by omega)] at h'
    refine .inl ⟨js (by omega), ?_⟩
    have h8 : PQ X.K c1 H1 Q d' (.lst (acc ++ [])) := h'
    rw [List.append_nil] at h8
    refine h8 _ H' ⟨gm.back, st'⟩ (e'.st.back gm e1.ok) (.lst (c := { cm with A := c1.A }) (e1.wd.fresh nD) hD ?_)
    exact RepL.weak (c := { cm with A := c1.A }) (c1 := cm) rfl rfl (fun b hb => by rw [gm.A]; exact List.mem_cons_of_mem _ hb) ra
/-- the clause's tests -/
def TrTs (Γ : Cl) (X : Cx) (ifs : List Expr) (t : En → T Bool) : Prop := PTs X ifs (liftB X.K Γ noW t)
def fYes : En → T Bool := fun _ => .ok true
theorem trt_nil {X : Cx} : TrTs Γ X [] fYes := ⟨fun pins s σ H Q I h => pts_nil.run pins s σ H Q I (by
  obtain ⟨c, d, oa, ρ, e, h⟩ := h
  exact h H (.refl _ H) e.st)⟩
theorem trt_one {X : Cx} {e : Expr} {t : En → T Bool} (h : TrB Γ X noW e t) : TrTs Γ X [e] t := pts_one h
theorem tr_lc (hc : X.calm = true) (hN : X.N.Nodup) (hi : TrI Γ X E tg iter fi) (ok : BlkOk X.N X.env.scope scope own) (hs : ∀ i ∈ ns, i ∈ own.map (·.2))
    (hg : ∀ (s : Shared) (H : Hp) (C : Addr) (cl : List (Str × Addr)) (fp : List Addr), TrG Γ (X.blk s H scope (compEnvC scope cl C X.env) fp) tg ns G) (ht : ∀ (s : Shared) (H : Hp) (C : Addr) (cl : List (Str × Addr)) (fp : List Addr), TrTs Γ (X.blk s H scope (compEnvC scope cl C X.env) fp) ifs tt)
    (he : ∀ (s : Shared) (H : Hp) (C : Addr) (cl : List (Str × Addr)) (fp : List Addr), TrE Γ (X.blk s H scope (compEnvC scope cl C X.env) fp) noW elt fe) (hf : ∀ x, foldedSetIterable iter X.env x = pure x := by intro _; rfl) :
    TrE Γ X E (.ListComp elt [⟨tg, iter, ifs, 0⟩] scope pos) (fComp (own.map (·.2)) fi G tt fe) := pe_imp (pe_lc (g := liftG X.K Γ ns G) (tt := liftB X.K Γ noW tt) (te := liftE X.K Γ noW fe) hc hN hi ok hg ht he hf) (comp_ok hs)
end
def startE (n : Nat) (ws : List W) : En := ws.map Sl.val ++ List.replicate (n - ws.length) .un
def endOf : Fl × En → T W
  | (.rt w, _) => .ok w
  | (.nx, _) => .ok .non
  | _ => .bad
def defF (n np : Nat) (g : En → T (Fl × En)) : List W → T W := fun ws => if ws.length == np then (g (startE n ws)).bind endOf else .bad
/-- a frame begins with no list of its own -/
abbrev Cc.bare (c : Cc) : Cc := { c with M := [] }
theorem start_ok {K : PySem.W.Frag} {c : Cc} {d : Dw} {H : Hp} {ws : List W} {vs : List V} {N : List Str} (wd : Wd c d H) (hT : c.T = tabL K ∧ c.K = K) (hM : c.M = []) (r : RepL K c H ws vs) : EnvOk K c.C c d (fun _ => 0) (startE N.length ws) (L2.start N vs) H where
  ok := wd.ok
  st := wd.st
  av := wd.av
  len := by
    unfold startE L2.start
    rw [List.length_append, List.length_append, List.length_map, List.length_map, List.length_replicate, List.length_replicate, r.length]
  val := fun i w h => by
    unfold startE at h
    unfold L2.start
    rw [List.getElem?_append] at h
    split at h
    · rename_i hi
      rw [List.length_map] at hi
      rw [List.getElem?_map] at h
      cases hw : ws[i]? with
      | none =>
        rw [hw] at h
        cases h
      | some w' =>
        rw [hw] at h
        cases h
        obtain ⟨v, h1, h2⟩ := r.get hw
        refine ⟨v, ?_, h2⟩
        rw [List.getElem?_append_left (by rw [List.length_map, ← r.length]; exact hi), List.getElem?_map, h1]
        rfl
    · rw [List.getElem?_replicate] at h
      split at h <;> cases h
  m := ⟨fun b hb => (by rw [hM] at hb; cases hb), fun b hb => (by rw [hM] at hb; cases hb), fun b hb => (by rw [hM] at hb; cases hb)⟩
  own := fun i w h => by
    unfold startE at h
    rw [List.getElem?_append] at h
    split at h
    · rw [List.getElem?_map] at h
      cases hw : ws[i]? with
      | none =>
        rw [hw] at h
        cases h
      | some w' =>
        rw [hw] at h
        cases h
    · rw [List.getElem?_replicate] at h
      split at h <;> cases h
  inj := fun i j x y h _ => by
    unfold startE at h
    rw [List.getElem?_append] at h
    split at h
    · rw [List.getElem?_map] at h
      cases hw : ws[i]? with
      | none =>
        rw [hw] at h
        cases h
      | some w' =>
        rw [hw] at h
        cases h
    · rw [List.getElem?_replicate] at h
      split at h <;> cases h
  odc := fun i w h => by
    unfold startE at h
    rw [List.getElem?_append] at h
    split at h
    · rw [List.getElem?_map] at h
      cases hw : ws[i]? with
      | none =>
        rw [hw] at h
        cases h
      | some w' =>
        rw [hw] at h
        cases h
    · rw [List.getElem?_replicate] at h
      split at h <;> cases h
  ido := fun i j x y h _ => by
    unfold startE at h
    rw [List.getElem?_append] at h
    split at h
    · rw [List.getElem?_map] at h
      cases hw : ws[i]? with
      | none =>
        rw [hw] at h
        cases h
      | some w' =>
        rw [hw] at h
        cases h
    · rw [List.getElem?_replicate] at h
      split at h <;> cases h
  tT := hT.1
  cC := rfl
  kK := hT.2
/-- back to the caller's world, with the objects that came -/
abbrev Cc.wide (c : Cc) (c' : Cc) : Cc := { c with O := c'.O }
theorem Fwd.wide {K : PySem.W.Frag} {c c' : Cc} {H H' : Hp} (fw : Fwd K c.bare H c' H') : Gr c (c.wide c') := ⟨rfl, rfl, rfl, rfl, rfl, rfl, rfl, rfl, fw.O⟩
theorem StOk.to {K : PySem.W.Frag} {c c' : Cc} {d : Dw} {H H' : Hp} (so : StOk c' d H') (fw : Fwd K c.bare H c' H') (ok : CcOk c) : StOk (c.wide c') d H' := so.weak fw.S fw.ca fw.la fw.T fw.C fw.KK rfl (fun b hb => fw.sub b hb fun z => by cases z) (ok.gr fw.wide)
theorem Fwd.back {K : PySem.W.Frag} {c c' : Cc} {H H' : Hp} (fw : Fwd K c.bare H c' H') : SG c (c.wide c') H H' := ⟨fw.wide, fun b o hb h1 h2 h3 => fw.step b o hb h1 h2 (fun z => (by cases z)) h3, fun b ps hb => fw.tbl b ps hb fun z => (by cases z), fun b C dx fs hb => fw.ins b C dx fs hb fun z => (by cases z)⟩
theorem Rep.back {K : PySem.W.Frag} {c c' : Cc} {H H' : Hp} {w : W} {v : V} (fw : Fwd K c.bare H c' H') (r : Rep K c' H' w v) : Rep K (c.wide c') H' w v := Rep.weak (c := c.wide c') (c1 := c') fw.S fw.C (fun b hb => fw.sub b hb fun z => by cases z) r
theorem RepL.back {K : PySem.W.Frag} {c c' : Cc} {H H' : Hp} {w : List W} {v : List V} (fw : Fwd K c.bare H c' H') (r : RepL K c' H' w v) : RepL K (c.wide c') H' w v := RepL.weak (c := c.wide c') (c1 := c') fw.S fw.C (fun b hb => fw.sub b hb fun z => by cases z) r
theorem StOk.bare {c : Cc} {d : Dw} {H : Hp} (s : StOk c d H) : StOk c.bare d H := s.weak rfl rfl rfl rfl rfl rfl rfl (fun _ h => h) ⟨s.2.ok.inS, s.2.ok.inla, s.2.ok.inca⟩
/-- an error that leaves a def -/
theorem PX.ofBare {K : PySem.W.Frag} {c : Cc} {H : Hp} {E : XK} {d : Dw} {n : Nat} {fs : List W} (ok : CcOk c) (h : PX K c H E d n fs) : PXs K c.bare H E d n fs := fun c' cls dx H' fw so r => by
  obtain ⟨r1, dd, vs, r2, r3, r4, r5⟩ := r
  exact h cls dx H' fw.back (so.to fw ok) ⟨r1, dd, vs, r2, r3, r4, RepL.back fw r5⟩
theorem SpF.len {K : PySem.W.Frag} {F : List W → T W} {np : Nat} (hF : ∀ ws, ws.length ≠ np → F ws = .bad) : ∀ vs H Q E, SpF K F vs H Q E → vs.length = np := fun vs H Q E h => by
  obtain ⟨c, d, ws, hT, wd, r, h⟩ := h
  by_cases e : ws.length = np
  · rw [← r.length]
    exact e
  · rw [hF ws e] at h
    exact h.elim
/-- THE RULE: a def of the text does what its body's run does -/
theorem fn_tr {P : Program} {w : World} {K : PySem.W.Frag} {mg : Str → Option Value} {base : Heap} {k : Nat} {f : Addr} {fd : FuncData} {x qual : Str} {params : Arguments} {body : List Stmt} {scope : Scope} {N ps : List Str} {g : En → T (Fl × En)}
    (F : FunD K x qual params body scope [] [] f fd) (S : FnScope N ps scope)
    (hb : ∀ (Γ : Cl) (cdv : Value) (A : Around) (outer : List PySem.Env) (s : Shared) (H : Hp) (E : XK), Room k (A.deeper (envOfC qual scope s.heap.objs.size f cdv)) → TrSs Γ (cxOf (L2.CX P w) P w K mg base N qual scope f cdv A outer s H E) E body g) :
    FnOk P w K mg base (L2.CX P w) (k + 1) f fd ps (SpF K (defF N.length ps.length g)) := by
  refine F.ok S (SpF.len fun ws h => ?_) fun cdv A outer s H vs Q E hr h => ?_
  · unfold defF
    rw [if_neg]
    intro z
    exact h (eq_of_beq z)
  · obtain ⟨c, d, ws, hT, wd, r, h⟩ := h
    obtain ⟨_, h⟩ := T.AllW.ite h
    refine ⟨_, hb c.C cdv A outer s H E hr, ?_⟩
    refine ⟨c.bare, d, fun _ => 0, startE N.length ws, start_ok (c := c.bare) ⟨⟨wd.ok.inS, wd.ok.inla, wd.ok.inca⟩, wd.st.bare, wd.av⟩ hT rfl (RepL.weak (c := c.bare) (c1 := c) rfl rfl (fun _ h => h) r), T.AllW.imp (fun d1 x hx => ?_) (fun _ _ _ y => y.ofBare wd.ok) (T.allW_bind.mp h)⟩
    obtain ⟨fl, ρ'⟩ := x
    intro c' oa' σ' H' fw e'
    have so := e'.st.to fw wd.ok
    cases fl with
    | nx => exact hx _ H' fw.back so .non
    | rt w => exact fun v rv => hx v H' fw.back so (Rep.back fw rv)
    | bk => exact hx.elim
    | ct => exact hx.elim
end PF
namespace PF
open PySem PySem.Spec PyProof.Rows L2
@[irreducible] def sz2 (a b : Nat) : Bool := decide (a + b ≤ 16777216)
theorem sz2_of {a b : Nat} (h : sz2 a b = true) : a + b ≤ 16777216 := by
  unfold sz2 at h
  exact of_decide_eq_true h
def addW : W → W → T W
  | .int i, .int j => .ok (.int (i + j))
  | .str x, .str y => if sz2 x.length y.length then .ok (.str (x ++ y)) else .bad
  | .tup xs, .tup ys => if sz2 xs.length ys.length then .ok (.tup (xs ++ ys)) else .bad
  | .lst xs, .lst ys => if sz2 xs.length ys.length then .ok (.lst (xs ++ ys)) else .bad
  | _, _ => .bad
def subW : W → W → T W
  | .int i, .int j => .ok (.int (i - j))
  | _, _ => .bad
@[irreducible] def mulOk (i j : Int) : Bool := decide (i.natAbs.log2 + j.natAbs.log2 < 1000000)
def mulW : W → W → T W
  | .int i, .int j => if mulOk i j then .ok (.int (i * j)) else .bad
  | _, _ => .bad
@[irreducible] def divOk (j : Int) : Bool := decide (0 < j) && decide (j.natAbs.log2 < 9000)
def fdivW : W → W → T W
  | .int i, .int j => if divOk j then .ok (.int (i / j)) else .bad
  | _, _ => .bad
def modW : W → W → T W
  | .int i, .int j => if decide (0 < j) then .ok (.int (i % j)) else .bad
  | _, _ => .bad
@[irreducible] def powOk (i j : Int) : Bool := decide (0 ≤ j ∧ j ≤ 1000000 ∧ i.natAbs < 2 ^ 64)
def powW : W → W → T W
  | .int i, .int j => if powOk i j then .ok (.int (i ^ j.toNat)) else .bad
  | _, _ => .bad
def ltW : W → W → T W
  | .int i, .int j => .ok (.bl (decide (i < j)))
  | _, _ => .bad
def leW : W → W → T W
  | .int i, .int j => .ok (.bl (decide (i ≤ j)))
  | _, _ => .bad
def gtW : W → W → T W
  | .int i, .int j => .ok (.bl (decide (j < i)))
  | _, _ => .bad
def geW : W → W → T W
  | .int i, .int j => .ok (.bl (decide (j ≤ i)))
  | _, _ => .bad
section
variable {K : PySem.W.Frag}
theorem RepL.sizes {c : Cc} {H : Hp} {xs ys : List W} {us vs : List V} (r : RepL K c H xs us) (q : RepL K c H ys vs) (h : sz2 xs.length ys.length = true) : us.length + vs.length ≤ sizeLine := by
  rw [sizeLine_eq, ← r.length, ← q.length]
  exact sz2_of h
theorem sem_int0 {g : W → W → T W} {f : Int → Int → V} {k : Int → Int → W} (hk : ∀ c H i j, Rep K c H (k i j) (f i j)) (h : ∀ x y, (∃ i j, x = .int i ∧ y = .int j ∧ g x y = .ok (k i j)) ∨ g x y = .bad) : Sem2 K (rI0 f) g := fun c d H x y v u Q E' wd rx ry q => by
  rcases h x y with ⟨i, j, rfl, rfl, e⟩ | e
  · rw [e] at q
    cases rx
    cases ry
    exact ⟨i, j, rfl, rfl, PQ.now wd q (hk c H i j)⟩
  · rw [e] at q
    exact q.elim
theorem sem_intC {g : W → W → T W} {C : Int → Int → Prop} {B : Int → Int → Bool} {f : Int → Int → V} {k : Int → Int → W} (hk : ∀ c H i j, Rep K c H (k i j) (f i j)) (hC : ∀ i j, B i j = true → C i j) (h : ∀ x y, (∃ i j, x = .int i ∧ y = .int j ∧ g x y = if B i j then .ok (k i j) else .bad) ∨ g x y = .bad) : Sem2 K (rI C f) g := fun c d H x y v u Q E' wd rx ry q => by
  rcases h x y with ⟨i, j, rfl, rfl, e⟩ | e
  · rw [e] at q
    cases rx
    cases ry
    obtain ⟨hb, q⟩ := T.AllW.ite q
    exact ⟨i, j, rfl, rfl, hC i j hb, PQ.now wd q (hk c H i j)⟩
  · rw [e] at q
    exact q.elim
theorem sem_or1 {r r' : R2} {g g1 g2 : W → W → T W} (h1 : Sem2 K r g1) (h2 : Sem2 K r' g2) (h : ∀ x y, g x y = g1 x y ∨ g x y = g2 x y) : Sem2 K (fun x y H Q => r x y H Q ∨ r' x y H Q) g := fun c d H x y v u Q E' wd rx ry q => by
  rcases h x y with e | e
  · rw [e] at q
    exact .inl (h1 c d H x y v u Q E' wd rx ry q)
  · rw [e] at q
    exact .inr (h2 c d H x y v u Q E' wd rx ry q)
def addI : W → W → T W
  | .int i, .int j => .ok (.int (i + j))
  | _, _ => .bad
def addS : W → W → T W
  | .str x, .str y => if sz2 x.length y.length then .ok (.str (x ++ y)) else .bad
  | _, _ => .bad
def addT : W → W → T W
  | .tup xs, .tup ys => if sz2 xs.length ys.length then .ok (.tup (xs ++ ys)) else .bad
  | _, _ => .bad
def addL : W → W → T W
  | .lst xs, .lst ys => if sz2 xs.length ys.length then .ok (.lst (xs ++ ys)) else .bad
  | _, _ => .bad
theorem sem_addI : Sem2 K (rI0 fun i j => .int (i + j)) addI := sem_int0 (k := fun i j => .int (i + j)) (fun _ _ _ _ => .int _) fun x y => by
  cases x <;> cases y <;> first | exact .inl ⟨_, _, rfl, rfl, rfl⟩ | exact .inr rfl
theorem sem_addS : Sem2 K (fun x y H Q => ∃ i j, x = .str i ∧ y = .str j ∧ i.length + j.length ≤ sizeLine ∧ Q (.str (i ++ j)) H) addS := fun c d H x y v u Q E' wd rx ry q => by
  cases rx <;> try exact q.elim
  cases ry <;> try exact q.elim
  obtain ⟨hz, q⟩ := T.AllW.ite q
  exact ⟨_, _, rfl, rfl, by rw [sizeLine_eq]; exact sz2_of hz, PQ.now wd q (.str _)⟩
theorem sem_addT : Sem2 K (rCatA K) addT := fun c d H x y v u Q E' wd rx ry q => by
  cases rx <;> try exact q.elim
  cases ry <;> try exact q.elim
  rename_i a xs ws h1 r1 b ys us h2 r2
  obtain ⟨hz, q⟩ := T.AllW.ite q
  refine ⟨_, _, _, _, rfl, rfl, h1, h2, r1.sizes r2 hz, fun e => ?_, fun _ e => ?_, fun _ _ p n => PQ.tup wd q (r1.append r2) n⟩
  · subst e
    cases r1
    exact PQ.now wd q (.tup h2 r2)
  · subst e
    cases r2
    rw [List.append_nil] at q
    exact PQ.now wd q (.tup h1 r1)
theorem sem_addL : Sem2 K rCat addL := fun c d H x y v u Q E' wd rx ry q => by
  cases rx <;> try exact q.elim
  cases ry <;> try exact q.elim
  rename_i a xs ws n1 h1 r1 b ys us n2 h2 r2
  obtain ⟨hz, q⟩ := T.AllW.ite q
  exact ⟨_, _, _, _, rfl, rfl, h1, h2, r1.sizes r2 hz, fun p n => PQ.lst wd q (r1.append r2) n⟩
/-- a + b of ints, texts, tuples, lists -/
abbrev rAddW (K : PySem.W.Frag) : R2 := fun x y H Q => rI0 (fun i j => .int (i + j)) x y H Q ∨ ((∃ i j, x = .str i ∧ y = .str j ∧ i.length + j.length ≤ sizeLine ∧ Q (.str (i ++ j)) H) ∨ (rCatA K x y H Q ∨ rCat x y H Q))
def addX : W → W → T W
  | .tup xs, y => addT (.tup xs) y
  | x, y => addL x y
def addY : W → W → T W
  | .str xs, y => addS (.str xs) y
  | x, y => addX x y
theorem addW_eq (x y : W) : addW x y = addI x y ∨ addW x y = addY x y := by
  cases x <;> cases y <;> first | exact .inl rfl | exact .inr rfl
theorem sem_add : Sem2 K (rAddW K) addW := sem_or1 sem_addI (sem_or1 (g := addY) sem_addS (sem_or1 (g := addX) sem_addT sem_addL fun x y => by
    cases x <;> first | exact .inr rfl | exact .inl rfl) fun x y => by
    cases x <;> first | exact .inr rfl | exact .inl rfl) addW_eq
theorem sem_sub : Sem2 K (rI0 fun i j => .int (i - j)) subW := sem_int0 (k := fun i j => .int (i - j)) (fun _ _ _ _ => .int _) fun x y => by
  cases x <;> cases y <;> first | exact .inl ⟨_, _, rfl, rfl, rfl⟩ | exact .inr rfl
theorem sem_mul : Sem2 K (rI CMulW fun i j => .int (i * j)) mulW := sem_intC (B := mulOk) (k := fun i j => .int (i * j)) (fun _ _ _ _ => .int _) (fun i j h => by
    unfold mulOk at h
    show i.natAbs.log2 + j.natAbs.log2 < 1000000
    exact of_decide_eq_true h) fun x y => by
  cases x <;> cases y <;> first | exact .inl ⟨_, _, rfl, rfl, rfl⟩ | exact .inr rfl
theorem sem_fdiv : Sem2 K (rI CDivW fun i j => .int (i / j)) fdivW := sem_intC (B := fun _ j => divOk j) (k := fun i j => .int (i / j)) (fun _ _ _ _ => .int _) (fun i j h => by
    unfold divOk at h
    obtain ⟨h1, h2⟩ := Bool.and_eq_true_iff.mp h
    exact ⟨of_decide_eq_true h1, of_decide_eq_true h2⟩) fun x y => by
  cases x <;> cases y <;> first | exact .inl ⟨_, _, rfl, rfl, rfl⟩ | exact .inr rfl
theorem sem_mod : Sem2 K (rI (fun _ j => 0 < j) fun i j => .int (i % j)) modW := sem_intC (B := fun _ j => decide (0 < j)) (k := fun i j => .int (i % j)) (fun _ _ _ _ => .int _) (fun i j h => of_decide_eq_true h) fun x y => by
  cases x <;> cases y <;> first | exact .inl ⟨_, _, rfl, rfl, rfl⟩ | exact .inr rfl
theorem sem_pow : Sem2 K (rI CPow fun i j => .int (i ^ j.toNat)) powW := sem_intC (B := powOk) (k := fun i j => .int (i ^ j.toNat)) (fun _ _ _ _ => .int _) (fun i j h => by
    unfold powOk at h
    show 0 ≤ j ∧ j ≤ 1000000 ∧ i.natAbs < 2 ^ 64
    exact of_decide_eq_true h) fun x y => by
  cases x <;> cases y <;> first | exact .inl ⟨_, _, rfl, rfl, rfl⟩ | exact .inr rfl
theorem sem_lt : Sem2 K (rI0 fun i j => .bl (decide (i < j))) ltW := sem_int0 (k := fun i j => .bl (decide (i < j))) (fun _ _ _ _ => .bl _) fun x y => by
  cases x <;> cases y <;> first | exact .inl ⟨_, _, rfl, rfl, rfl⟩ | exact .inr rfl
theorem sem_le : Sem2 K (rI0 fun i j => .bl (decide (i ≤ j))) leW := sem_int0 (k := fun i j => .bl (decide (i ≤ j))) (fun _ _ _ _ => .bl _) fun x y => by
  cases x <;> cases y <;> first | exact .inl ⟨_, _, rfl, rfl, rfl⟩ | exact .inr rfl
theorem sem_gt : Sem2 K (rI0 fun i j => .bl (decide (j < i))) gtW := sem_int0 (k := fun i j => .bl (decide (j < i))) (fun _ _ _ _ => .bl _) fun x y => by
  cases x <;> cases y <;> first | exact .inl ⟨_, _, rfl, rfl, rfl⟩ | exact .inr rfl
theorem sem_ge : Sem2 K (rI0 fun i j => .bl (decide (j ≤ i))) geW := sem_int0 (k := fun i j => .bl (decide (j ≤ i))) (fun _ _ _ _ => .bl _) fun x y => by
  cases x <;> cases y <;> first | exact .inl ⟨_, _, rfl, rfl, rfl⟩ | exact .inr rfl
def negW : W → T W
  | .int i => .ok (.int (-i))
  | _ => .bad
theorem sem_neg : Sem1 K (rU fun i => .int (-i)) negW := fun c d H x v Q E' wd rx q => by
  cases rx <;> try exact q.elim
  exact ⟨_, rfl, PQ.now wd q (.int _)⟩
end
section
variable {X : Cx}
theorem op_addW : OpR X (binaryOp .Add) (rAddW X.K) := op_add.or (op_add_str.or (op_catA.or op_cat))
end
mutual
def W.toD : W → Option PyData
  | .non => some .none
  | .bl b => some (.bool b)
  | .int i => some (.int i)
  | .str x => some (.str x)
  | .tup ws => (toDs ws).map .tuple
  | .lst ws => (toDs ws).map .list
  | _ => none
def toDs : List W → Option (List PyData)
  | [] => some []
  | w :: ws => match W.toD w, toDs ws with
    | some d, some ds => some (d :: ds)
    | _, _ => none
end
section
variable {K : PySem.W.Frag} {c : Cc} {H : Hp}
theorem toD_tup {ws : List W} {d : PyData} (e : (W.tup ws).toD = some d) : ∃ ds, toDs ws = some ds ∧ d = .tuple ds := by
  unfold W.toD at e
  cases q : toDs ws with
  | none =>
    rw [q] at e
    cases e
  | some ds =>
    rw [q] at e
    exact ⟨ds, rfl, (Option.some.inj e).symm⟩
theorem toD_lst {ws : List W} {d : PyData} (e : (W.lst ws).toD = some d) : ∃ ds, toDs ws = some ds ∧ d = .list ds := by
  unfold W.toD at e
  cases q : toDs ws with
  | none =>
    rw [q] at e
    cases e
  | some ds =>
    rw [q] at e
    exact ⟨ds, rfl, (Option.some.inj e).symm⟩
theorem toDs_cons {w : W} {ws : List W} {ds : List PyData} (e : toDs (w :: ws) = some ds) : ∃ d es, w.toD = some d ∧ toDs ws = some es ∧ ds = d :: es := by
  unfold toDs at e
  split at e
  · rename_i d es h1 h2
    exact ⟨d, es, h1, h2, (Option.some.inj e).symm⟩
  · cases e
theorem toD_non {d : PyData} (e : W.non.toD = some d) : d = .none := by
  unfold W.toD at e
  exact (Option.some.inj e).symm
theorem toD_bl {b : Bool} {d : PyData} (e : (W.bl b).toD = some d) : d = .bool b := by
  unfold W.toD at e
  exact (Option.some.inj e).symm
theorem toD_int {b : Int} {d : PyData} (e : (W.int b).toD = some d) : d = .int b := by
  unfold W.toD at e
  exact (Option.some.inj e).symm
theorem toD_str {b : Str} {d : PyData} (e : (W.str b).toD = some d) : d = .str b := by
  unfold W.toD at e
  exact (Option.some.inj e).symm
theorem toD_dct {ks : List Key} {ws : List W} {d : PyData} (e : (W.dct ks ws).toD = some d) : False := by
  unfold W.toD at e
  cases e
theorem toD_scr {n : Nat} {d : PyData} (e : (W.scr n).toD = some d) : False := by
  unfold W.toD at e
  cases e
theorem toD_stt {d : PyData} (e : W.stt.toD = some d) : False := by
  unfold W.toD at e
  cases e
theorem toD_lam {x : Str} {p : List Nat} {d : PyData} (e : (W.lam x p).toD = some d) : False := by
  unfold W.toD at e
  cases e
theorem toD_clo {x : Str} {p : List Nat} {ws : List W} {d : PyData} (e : (W.clo x p ws).toD = some d) : False := by
  unfold W.toD at e
  cases e
theorem toD_exo {n : Nat} {ws : List W} {d : PyData} (e : (W.exo n ws).toD = some d) : False := by
  unfold W.toD at e
  cases e
theorem toD_obj {n : Nat} {d : PyData} (e : (W.obj n).toD = some d) : False := by
  unfold W.toD at e
  cases e
theorem toD_dcu {n : List (List Key)} {ws : List W} {d : PyData} (e : (W.dcu n ws).toD = some d) : False := by
  unfold W.toD at e
  cases e
mutual
theorem Rep.dp {w : W} {v : V} (r : Rep K c H w v) : ∀ {d : PyData}, w.toD = some d → Dp K H v d := by
  intro d e
  cases r with
  | non => rw [toD_non e]; exact .non
  | bl b => rw [toD_bl e]; exact .bl b
  | int i => rw [toD_int e]; exact .int i
  | str x => rw [toD_str e]; exact .str x
  | tup h r =>
    obtain ⟨ds, e1, rfl⟩ := toD_tup e
    exact .tup h (RepL.dp r e1)
  | lst n h r =>
    obtain ⟨ds, e1, rfl⟩ := toD_lst e
    exact .lst (SqL.of h) (RepL.dp r e1)
  | dct n h r => exact (toD_dct e).elim
  | scr h => exact (toD_scr e).elim
  | stt => exact (toD_stt e).elim
  | lam _ => exact (toD_lam e).elim
  | clo _ _ _ _ _ _ => exact (toD_clo e).elim
  | exo _ _ _ _ => exact (toD_exo e).elim
  | obj _ => exact (toD_obj e).elim
  | dcu _ _ _ => exact (toD_dcu e).elim
theorem RepL.dp {ws : List W} {vs : List V} (r : RepL K c H ws vs) : ∀ {ds : List PyData}, toDs ws = some ds → DpAll K H vs ds := by
  intro ds e
  cases r with
  | nil =>
    unfold toDs at e
    cases e
    exact .nil
  | cons h r =>
    obtain ⟨d, es, e1, e2, rfl⟩ := toDs_cons e
    exact .cons (Rep.dp h e1) (RepL.dp r e2)
end
end
def eqO (x y : W) : Option Bool := match x.toD, y.toD with
  | some d, some e => if SeqAt.shaped d && SeqAt.shaped e then some (PyData.eqv d e) else none
  | _, _ => none
def eqW (x y : W) : T W := match eqO x y with
  | some b => .ok (.bl b)
  | none => .bad
def neW (x y : W) : T W := match eqO x y with
  | some b => .ok (.bl !b)
  | none => .bad
section
variable {K : PySem.W.Frag}
theorem eqO_some {x y : W} {b : Bool} (h : eqO x y = some b) : ∃ d e, x.toD = some d ∧ y.toD = some e ∧ SeqAt.shaped d = true ∧ SeqAt.shaped e = true ∧ PyData.eqv d e = b := by
  unfold eqO at h
  split at h
  · rename_i d e h1 h2
    split at h
    · rename_i hs
      obtain ⟨h3, h4⟩ := Bool.and_eq_true_iff.mp hs
      exact ⟨d, e, h1, h2, h3, h4, Option.some.inj h⟩
    · cases h
  · cases h
theorem sem_eq : Sem2 K (rEqD K) eqW := fun c d H x y v u Q E' wd rx ry q => by
  unfold eqW at q
  cases e : eqO x y with
  | none =>
    rw [e] at q
    exact q.elim
  | some b =>
    rw [e] at q
    obtain ⟨d1, d2, h1, h2, h3, h4, rfl⟩ := eqO_some e
    exact ⟨d1, d2, rx.dp h1, ry.dp h2, h3, h4, PQ.now wd q (.bl _)⟩
theorem sem_ne : Sem2 K (rNeD K) neW := fun c d H x y v u Q E' wd rx ry q => by
  unfold neW at q
  cases e : eqO x y with
  | none =>
    rw [e] at q
    exact q.elim
  | some b =>
    rw [e] at q
    obtain ⟨d1, d2, h1, h2, h3, h4, rfl⟩ := eqO_some e
    exact ⟨d1, d2, rx.dp h1, ry.dp h2, h3, h4, PQ.now wd q (.bl _)⟩
def isNon : W → Bool
  | .non => true
  | _ => false
def isW : W → W → T W
  | x, .non => .ok (.bl (isNon x))
  | .bl a, .bl b => .ok (.bl (decide (a = b)))
  | _, _ => .bad
def isntW : W → W → T W
  | x, .non => .ok (.bl !(isNon x))
  | .bl a, .bl b => .ok (.bl !(decide (a = b)))
  | _, _ => .bad
theorem Rep.isN {c : Cc} {H : Hp} {x : W} {v : V} (r : Rep K c H x v) : isNon x = decide (v = .non) := by
  cases r <;> rfl
abbrev rIsW : R2 := fun x y H Q => (y = .non ∧ Q (.bl (decide (x = .non))) H) ∨ ∃ a b, x = .bl a ∧ y = .bl b ∧ Q (.bl (decide (a = b))) H
abbrev rIsntW : R2 := fun x y H Q => (y = .non ∧ Q (.bl (!decide (x = .non))) H) ∨ ∃ a b, x = .bl a ∧ y = .bl b ∧ Q (.bl (!decide (a = b))) H
theorem sem_is : Sem2 K rIsW isW := fun c d H x y v u Q E' wd rx ry q => by
  cases ry with
  | non =>
    have q : PQ K c H Q d (.bl (isNon x)) := by cases x <;> exact q
    rw [rx.isN] at q
    exact .inl ⟨rfl, PQ.now wd q (.bl _)⟩
  | bl b =>
    cases rx <;> try exact q.elim
    exact .inr ⟨_, _, rfl, rfl, PQ.now wd q (.bl _)⟩
  | _ => cases x <;> exact q.elim
theorem sem_isnt : Sem2 K rIsntW isntW := fun c d H x y v u Q E' wd rx ry q => by
  cases ry with
  | non =>
    have q : PQ K c H Q d (.bl !(isNon x)) := by cases x <;> exact q
    rw [rx.isN] at q
    exact .inl ⟨rfl, PQ.now wd q (.bl _)⟩
  | bl b =>
    cases rx <;> try exact q.elim
    exact .inr ⟨_, _, rfl, rfl, PQ.now wd q (.bl _)⟩
  | _ => cases x <;> exact q.elim
theorem op_isW {X : Cx} : OpR X (compareOp .Is) rIsW := op_isN.or op_is_bl
theorem op_isntW {X : Cx} : OpR X (compareOp .IsNot) rIsntW := op_notN.or op_isnot_bl
def ixW : W → W → T W
  | .tup ws, .int i => match atI ws i with
    | some w => .ok w
    | none => .bad
  | .lst ws, .int i => match atI ws i with
    | some w => .ok w
    | none => .bad
  | .str z, .int i => if strOk z then (match atI z.cps.toList i with
    | some c => .ok (.str ⟨#[c]⟩)
    | none => .bad) else .bad
  | _, _ => .bad
theorem RepL.atI {c : Cc} {H : Hp} {ws : List W} {vs : List V} {i : Int} {w : W} (r : RepL K c H ws vs) (h : L2.atI ws i = some w) : ∃ v, L2.atI vs i = some v ∧ Rep K c H w v := by
  unfold L2.atI at h ⊢
  rw [← r.length]
  cases e : ixN ws.length i with
  | none =>
    rw [e] at h
    cases h
  | some j =>
    rw [e] at h
    exact r.get h
theorem sem_ix : Sem2 K (rIx K) ixW := fun c d H x y v u Q E' wd rx ry q => by
  cases rx <;> try exact q.elim
  · cases ry <;> try exact q.elim
    rename_i z i
    obtain ⟨hz, q⟩ := T.AllW.ite q
    cases e : L2.atI z.cps.toList i with
    | none =>
      rw [e] at q
      exact q.elim
    | some k =>
      rw [e] at q
      exact .inr (.inr ⟨z, i, k, rfl, rfl, strOk_of hz, e, PQ.now wd q (.str _)⟩)
  · cases ry <;> try exact q.elim
    rename_i a vs ws hq r i
    unfold ixW at q
    simp only at q
    cases e : L2.atI ws i with
    | none =>
      rw [e] at q
      exact q.elim
    | some w =>
      rw [e] at q
      obtain ⟨v, h1, h2⟩ := r.atI e
      exact .inr (.inl ⟨a, vs, i, v, rfl, rfl, hq, h1, PQ.now wd q h2⟩)
  · cases ry <;> try exact q.elim
    rename_i a vs ws n hq r i
    unfold ixW at q
    simp only at q
    cases e : L2.atI ws i with
    | none =>
      rw [e] at q
      exact q.elim
    | some w =>
      rw [e] at q
      obtain ⟨v, h1, h2⟩ := r.atI e
      exact .inl ⟨a, vs, i, v, rfl, rfl, SqL.of hq, h1, PQ.now wd q h2⟩
def absW : List W → T W
  | [.int i] => .ok (.int (if i < 0 then -i else i))
  | _ => .bad
theorem sem_abs : SemL K (fun xs H Q => ∃ i, xs = [.int i] ∧ Q (.int (if i < 0 then -i else i)) H) absW := fun c d H x v Q E' wd rx q => by
  cases rx with
  | nil => exact q.elim
  | cons r rr =>
    cases rr with
    | cons _ _ => cases r <;> exact q.elim
    | nil =>
      cases r <;> try exact q.elim
      exact ⟨_, rfl, PQ.now wd q (.int _)⟩
def intW : List W → T W
  | [.int i] => .ok (.int i)
  | [.bl b] => .ok (.int (if b then 1 else 0))
  | _ => .bad
theorem sem_int1 : SemL K (fun xs H Q => (∃ i, xs = [.int i] ∧ Q (.int i) H) ∨ ∃ k, xs = [.bl k] ∧ Q (.int (if k then 1 else 0)) H) intW := fun c d H x v Q E' wd rx q => by
  cases rx with
  | nil => exact q.elim
  | cons r rr =>
    cases rr with
    | cons _ _ => cases r <;> exact q.elim
    | nil =>
      cases r <;> try exact q.elim
      · exact .inr ⟨_, rfl, PQ.now wd q (.int _)⟩
      · exact .inl ⟨_, rfl, PQ.now wd q (.int _)⟩
def max2W : List W → T W
  | [.int i, .int j] => .ok (.int (if j > i then j else i))
  | _ => .bad
def min2W : List W → T W
  | [.int i, .int j] => .ok (.int (if j < i then j else i))
  | _ => .bad
theorem sem_two {r : List V → Hp → VK → Prop} {g : List W → T W} (h1 : ∀ c d H Q i j, Wd c d H → (g [.int i, .int j]).AllW (PQ K c H Q) (fun _ _ _ => True) d → r [.int i, .int j] H Q) (h2 : ∀ x, (∀ i j, x ≠ [.int i, .int j]) → g x = .bad) : SemL K r g := fun c d H x v Q E' wd rx q => by
  by_cases h : ∃ i j, x = [.int i, .int j]
  · obtain ⟨i, j, rfl⟩ := h
    cases rx with
    | cons r1 rr =>
      cases rr with
      | cons r2 rr =>
        cases rr
        cases r1
        cases r2
        exact h1 c d H Q i j wd (T.AllW.imp (fun _ _ y => y) (fun _ _ _ _ => trivial) q)
  · rw [h2 x fun i j z => h ⟨i, j, z⟩] at q
    exact q.elim
theorem sem_max2 : SemL K (fun xs H Q => ∃ i j, xs = [.int i, .int j] ∧ Q (.int (if j > i then j else i)) H) max2W := sem_two (fun c d H Q i j wd q => ⟨i, j, rfl, PQ.now wd q (.int _)⟩) fun x h => by
  unfold max2W
  split
  · exact absurd rfl (h _ _)
  · rfl
theorem sem_min2 : SemL K (fun xs H Q => ∃ i j, xs = [.int i, .int j] ∧ Q (.int (if j < i then j else i)) H) min2W := sem_two (fun c d H Q i j wd q => ⟨i, j, rfl, PQ.now wd q (.int _)⟩) fun x h => by
  unfold min2W
  split
  · exact absurd rfl (h _ _)
  · rfl
def lenW : List W → T W
  | [.tup ws] => .ok (.int ws.length)
  | [.lst ws] => .ok (.int ws.length)
  | [.scr n] => .ok (.int n)
  | [.str x] => if strOk x then .ok (.int x.length) else .bad
  | _ => .bad
theorem sem_len : SemL K (fun xs H Q => ∃ x n, xs = [x] ∧ LenV K x H n ∧ Q (.int n) H) lenW := fun c d H x v Q E' wd rx q => by
  cases rx with
  | nil => exact q.elim
  | cons r rr =>
    cases rr with
    | cons _ _ => cases r <;> exact q.elim
    | nil =>
      cases r with
      | str x =>
        obtain ⟨hz, q⟩ := T.AllW.ite q
        exact ⟨_, _, rfl, ⟨strOk_of hz, rfl⟩, PQ.now wd q (.int _)⟩
      | tup h rl => exact ⟨_, _, rfl, .inr ⟨_, h, rl.length⟩, PQ.now wd q (.int _)⟩
      | lst n h rl => exact ⟨_, _, rfl, .inl ⟨_, SqL.of h, rl.length⟩, PQ.now wd q (.int _)⟩
      | @scr a ns h =>
        refine ⟨_, ns.length, rfl, .inl ⟨ns.map V.int, ?_, (List.length_map ..).symm⟩, PQ.now wd q (.int _)⟩
        rcases h with ⟨_, h⟩ | h
        · exact .inl h
        · exact sqL_of_none h
      | _ => exact q.elim
def blsW : List W → Option (List Bool)
  | [] => some []
  | .bl b :: ws => (blsW ws).map (b :: ·)
  | _ => none
theorem blsW_some : ∀ {ws : List W} {bs : List Bool}, blsW ws = some bs → ws = bs.map W.bl
  | [], _, h => by cases h; rfl
  | .bl b :: ws, bs, h => by
    have h : (blsW ws).map (b :: ·) = some bs := h
    cases e : blsW ws with
    | none =>
      rw [e] at h
      cases h
    | some cs =>
      rw [e] at h
      cases h
      rw [blsW_some e]
      rfl
  | .non :: ws, _, h => by cases h
  | .int _ :: ws, _, h => by cases h
  | .str _ :: ws, _, h => by cases h
  | .tup _ :: ws, _, h => by cases h
  | .lst _ :: ws, _, h => by cases h
  | .dct _ _ :: ws, _, h => by cases h
  | .scr _ :: ws, _, h => by cases h
  | .stt :: ws, _, h => by cases h
  | .clo _ _ _ :: ws, _, h => by cases h
  | .exo _ _ :: ws, _, h => by cases h
  | .lam _ _ :: ws, _, h => by cases h
def allW : List W → T W
  | [.lst ws] => match blsW ws with
    | some bs => .ok (.bl (bs.all id))
    | none => .bad
  | _ => .bad
def anyW : List W → T W
  | [.lst ws] => match blsW ws with
    | some bs => .ok (.bl (bs.any id))
    | none => .bad
  | _ => .bad
theorem sem_all : SemL K (rAll K) allW := fun c d H x v Q E' wd rx q => by
  cases rx with
  | nil => exact q.elim
  | cons r rr =>
    cases rr with
    | cons _ _ => cases r <;> exact q.elim
    | nil =>
      cases r <;> try exact q.elim
      rename_i a vs ws n h rl
      unfold allW at q
      simp only at q
      cases e : blsW ws with
      | none =>
        rw [e] at q
        exact q.elim
      | some bs =>
        rw [e] at q
        have e2 := blsW_some e
        subst e2
        have e3 := rl.bls
        subst e3
        exact ⟨a, bs, rfl, SqL.of h, PQ.now wd q (.bl _)⟩
theorem sem_any : SemL K (rAny K) anyW := fun c d H x v Q E' wd rx q => by
  cases rx with
  | nil => exact q.elim
  | cons r rr =>
    cases rr with
    | cons _ _ => cases r <;> exact q.elim
    | nil =>
      cases r <;> try exact q.elim
      rename_i a vs ws n h rl
      unfold anyW at q
      simp only at q
      cases e : blsW ws with
      | none =>
        rw [e] at q
        exact q.elim
      | some bs =>
        rw [e] at q
        have e2 := blsW_some e
        subst e2
        have e3 := rl.bls
        subst e3
        exact ⟨a, bs, rfl, SqL.of h, PQ.now wd q (.bl _)⟩
def tyW : W → Option String
  | .non => some "NoneType"
  | .bl _ => some "bool"
  | .int _ => some "int"
  | .str _ => some "str"
  | .tup _ => some "tuple"
  | .lst _ => some "list"
  | .dct _ _ => some "dict"
  | _ => none
theorem Rep.ty {c : Cc} {H : Hp} {w : W} {v : V} {s : String} (r : Rep K c H w v) (h : tyW w = some s) : TyX K H v (.type s) := by
  cases r with
  | non => cases h; exact .base .non
  | bl b => cases h; exact .base (.bl b)
  | int i => cases h; exact .base (.int i)
  | str x => cases h; exact .base (.str x)
  | tup hq _ =>
    cases h
    rcases hq with (e | ⟨o, e⟩) | ⟨o, its, n, e, cl, _⟩
    · exact .base (.tup e)
    · exact .fTuple e
    · exact .kTuple e cl
  | lst n e _ => cases h; exact .base (.lst e)
  | dct n e _ => cases h; exact .base (.dK e)
  | scr _ => cases h
  | stt => cases h
  | lam _ => cases h
  | clo _ _ _ _ _ _ => cases h
  | exo _ _ _ _ => cases h
  | obj _ => cases h
  | dcu _ _ _ => cases h
end
/-- isT: which of the types are a T -/
def isiW (isT : String → Option Bool) (x : W) : T W := match (tyW x).bind isT with
  | some b => .ok (.bl b)
  | none => .bad
def isInt (s : String) : Option Bool := match s with
  | "NoneType" => some false | "bool" => some true | "int" => some true | "str" => some false | "tuple" => some false | "list" => some false | "dict" => some false | _ => none
def isOnly (t : String) (s : String) : Option Bool := if ["NoneType", "bool", "int", "str", "tuple", "list", "dict"].contains s then some (s == t) else none
theorem tr_isi {X : Cx} {E : WX} {a : Expr} {fa : En → T W} {T : Str} {t : String} {p p2 pos : Pos} {isT : String → Option Bool} (hi : ∀ s b, isT s = some b → kitB s t = some b) (hg : Gl X "isinstance") (hm : X.mg "isinstance" = none) (hgT : Gl X T) (hmT : X.mg T = none) (hT : bootBuiltins T = some (.type t)) (ha : TrE Γ X E a fa)
    (hn : T ≠ "__name__" := by decide) (hd : (T == ("__debug__" : Str)) = false := by decide)
    (hs1 : starEach [a, .Name T p2] X.env = (false, eval a X.env) :: starEach [.Name T p2] X.env := by rfl) (hs2 : starEach [.Name T p2] X.env = (false, eval (.Name T p2) X.env) :: starEach [] X.env := by rfl) (hpl : (backTo pos (starEach [.Name T p2] X.env)).any (·.1) = false := by rfl) :
    TrE Γ X E (.Call (.Name "isinstance" p) [a, .Name T p2] [] pos) (f1 (isiW isT) fa) := pe_imp (pe_callB (id := "isinstance") call_isi hg hm (by decide +kernel) (pa_cons ha (pa_cons (pe_bltn (v := .ty t) hgT hmT hT rfl hn hd) pa_nil hs2) hs1) (by decide) (by decide) hs1 hpl) fun σ H Q h => by
  obtain ⟨c, d, oa, ρ, e, h⟩ := h
  refine lift_then (P := fun c H => PQ X.K c H Q) e h (fun st p => p.later st) fun w v H1 d1 _ r1 e1 h1 => ?_
  unfold isiW at h1
  cases e2 : (tyW w).bind isT with
  | none =>
    rw [e2] at h1
    exact h1.elim
  | some b =>
    rw [e2] at h1
    cases e3 : tyW w with
    | none =>
      rw [e3] at e2
      cases e2
    | some s =>
      rw [e3] at e2
      exact ⟨v, .ty t, .type s, .type t, b, rfl, .ty t, r1.ty e3, kit_ty (hi s b e2), PQ.now e1.wd h1 (.bl _)⟩
end PF
namespace PF
open PySem PySem.Spec PyProof.Rows L2
/-- the module's name x is a def that does what the run F does -/
def FnIs (P : Program) (w : World) (K : PySem.W.Frag) (mg : Str → Option Value) (base : Heap) (k : Nat) (x : Str) (ps : List Str) (F : List W → T W) : Prop :=
  ∃ f fd, FnOk P w K mg base (L2.CX P w) k f fd ps (SpF K F) ∧ mg x = some (.ref f) ∧ PySem.W.keepIn K (.ref f) = true ∧ Binds K fd ps []
section
variable {X : Cx} {E : WX} {e : Expr} {es : List Expr} {fs : En → T (List W)} {pos p : Pos} {F : List W → T W} {k : Nat} {ps : List Str} {x : Str}
theorem tr_callF (h : FnIs X.prog X.w X.K X.mg X.base k x ps F) (hr : Room k X.A) (tk : Takes X E) (hg : Gl X x) (ha : TrA Γ X E (e :: es) fs)
    (hdb : (x == ("__debug__" : Str)) = false := by decide) (he : starEach (e :: es) X.env = (false, eval e X.env) :: starEach es X.env := by rfl) (hpl : (backTo pos (starEach es X.env)).any (·.1) = false := by rfl) :
    TrE Γ X E (.Call (.Name x p) (e :: es) [] pos) (fL fs F) := by
  obtain ⟨f, fd, G, hm, hk, hb⟩ := h
  exact tr_call G hr tk hg hm hk hb ha hdb he hpl
end
/-- the module's name x stands for the data w -/
def CsIs (K : PySem.W.Frag) (mg : Str → Option Value) (x : Str) (w : W) : Prop := ∃ (v : V) (u : Value), mg x = some u ∧ RelV v u ∧ ∀ c H, Rep K c H w v
theorem tr_cs {X : Cx} {E : WX} {x : Str} {w : W} {pos : Pos} (h : CsIs X.K X.mg x w) (hg : Gl X x) (hd : (x == ("__debug__" : Str)) = false := by decide) : TrE Γ X E (.Name x pos) (fun _ => .ok w) := by
  obtain ⟨v, u, hm, r, q⟩ := h
  exact tr_glob hg hm r q hd
theorem isi_int : ∀ s b, isInt s = some b → kitB s "int" = some b := fun s b h => by
  unfold isInt at h
  split at h <;> first | (cases h; decide +kernel) | cases h
theorem isOnly_mem {t s : String} {b : Bool} (h : isOnly t s = some b) : s ∈ ["NoneType", "bool", "int", "str", "tuple", "list", "dict"] ∧ b = (s == t) := by
  unfold isOnly at h
  split at h
  · rename_i hc
    exact ⟨List.contains_iff_mem.mp hc, (Option.some.inj h).symm⟩
  · cases h
theorem isOnly_all {t : String} (h : ∀ s ∈ ["NoneType", "bool", "int", "str", "tuple", "list", "dict"], kitB s t = some (s == t)) : ∀ s b, isOnly t s = some b → kitB s t = some b := fun s b q => by
  obtain ⟨h1, h2⟩ := isOnly_mem q
  rw [h2]
  exact h s h1
theorem isi_bool : ∀ s b, isOnly "bool" s = some b → kitB s "bool" = some b := isOnly_all (by decide +kernel)
theorem isi_str : ∀ s b, isOnly "str" s = some b → kitB s "str" = some b := isOnly_all (by decide +kernel)
theorem isi_tuple : ∀ s b, isOnly "tuple" s = some b → kitB s "tuple" = some b := isOnly_all (by decide +kernel)
theorem isi_list : ∀ s b, isOnly "list" s = some b → kitB s "list" = some b := isOnly_all (by decide +kernel)
theorem isi_dict : ∀ s b, isOnly "dict" s = some b → kitB s "dict" = some b := isOnly_all (by decide +kernel)
theorem boot_ty_int : bootBuiltins "int" = some (.type "int") := by decide +kernel
theorem boot_ty_bool : bootBuiltins "bool" = some (.type "bool") := by decide +kernel
theorem boot_ty_str : bootBuiltins "str" = some (.type "str") := by decide +kernel
theorem boot_ty_tuple : bootBuiltins "tuple" = some (.type "tuple") := by decide +kernel
theorem boot_ty_list : bootBuiltins "list" = some (.type "list") := by decide +kernel
theorem boot_ty_dict : bootBuiltins "dict" = some (.type "dict") := by decide +kernel
theorem bo_int : bootBuiltins "int" = some (.type "int") := boot_ty_int
theorem bo_len : bootBuiltins "len" = some (.builtin "len") := by decide +kernel
theorem bo_abs : bootBuiltins "abs" = some (.builtin "abs") := by decide +kernel
theorem bo_all : bootBuiltins "all" = some (.builtin "all") := by decide +kernel
theorem bo_any : bootBuiltins "any" = some (.builtin "any") := by decide +kernel
theorem bo_min : bootBuiltins "min" = some (.builtin "min") := by decide +kernel
theorem bo_max : bootBuiltins "max" = some (.builtin "max") := by decide +kernel
theorem bo_sum : bootBuiltins "sum" = some (.builtin "sum") := by decide +kernel
theorem bo_tuple : bootBuiltins "tuple" = some (.type "tuple") := boot_ty_tuple
theorem bo_list : bootBuiltins "list" = some (.type "list") := boot_ty_list
abbrev stK (ca la : Addr) (k r : Int) : List (Key × V) := [(.inr kCells, .ref ca), (.inr kLefts, .ref la), (.inr kAt, .int k), (.inr kRoom, .int r)]
section
variable {ca la : Addr} {k r : Int}
theorem ne_ca : ¬ kCells = kAt := by decide +kernel
theorem ne_la : ¬ kLefts = kAt := by decide +kernel
theorem ne_cl : ¬ kCells = kLefts := by decide +kernel
theorem ne_ra : ¬ kRoom = kAt := by decide +kernel
theorem st_at : valV (stK ca la k r) (.inr kAt) = some (.int k) := by
  simp [valV, List.find?_cons, ne_ca, ne_la]
theorem st_cells : valV (stK ca la k r) (.inr kCells) = some (.ref ca) := by
  simp [valV, List.find?_cons]
theorem st_lefts : valV (stK ca la k r) (.inr kLefts) = some (.ref la) := by
  simp [valV, List.find?_cons, ne_cl]
theorem st_put {k' : Int} : putK (stK ca la k r) (.inr kAt) (.int k') = stK ca la k' r := by
  simp [putK, ne_ca, ne_la, ne_ra]
theorem DGet.st {H : Hp} {S : Addr} {x : Key} {v : V} (h : H S = some (.dK (stK ca la k r))) (e : valV (stK ca la k r) x = some v) : DGet H S (kV x) (some v) := by
  rw [← e]
  exact DGet.k h
end
@[irreducible] def manyOk (n : Int) : Bool := decide (0 < n) && decide (n.natAbs.log2 < 9000)
theorem manyOk_of {n : Int} (h : manyOk n = true) : 0 < n ∧ n.natAbs.log2 < 9000 := by
  unfold manyOk at h
  obtain ⟨h1, h2⟩ := Bool.and_eq_true_iff.mp h
  exact ⟨of_decide_eq_true h1, of_decide_eq_true h2⟩
def F__law_draw : List W → T W
  | [.stt, .int n] => if manyOk n then .ask n.toNat fun i => .ok (.int i) else .bad
  | _ => .bad
theorem stt_shape {K : PySem.W.Frag} {c : Cc} {H : Hp} {v : V} (r : Rep K c H .stt v) : v = .ref c.S := by
  cases r
  rfl
theorem dK_noC {xs : List (Key × V)} {p : Addr} (q : Str) : HO.dK xs ≠ LamX.CodeO p q := fun z => by
  unfold LamX.CodeO at z
  cases z
/-- what the state's step leaves: the place is one more, the lefts may have changed -/
theorem StOk.drawn {c : Cc} {e : Nat} {d : Dw} {H H' : Hp} {cells lefts' : List Int} {k r : Int} (s : StOk c d H) (st : Step c H H') (sm : ∀ b C dx fl, H b = some (.ins C dx fl) → H' b = some (.ins C dx fl)) (hk : 0 ≤ k) (hb : k + ((e + 1 : Nat) : Int) ≤ 2 ^ 60) (hne : c.ca ≠ c.la) (hz : lefts'.length = cells.length) (h0 : 0 < cells.length)
    (h1 : H' c.S = some (.dK [(.inr kCells, .ref c.ca), (.inr kLefts, .ref c.la), (.inr kAt, .int (k + 1)), (.inr kRoom, .int r)])) (h2 : H' c.ca = some (.lst (cells.map V.int))) (h3 : H' c.la = some (.lst (lefts'.map V.int))) (h4 : LamX.Tabs c.T H') : StOk c ⟨e, d.os⟩ H' :=
  ⟨⟨cells, lefts', k + 1, r, h1, h2, h3, hz, h0, by omega, by show k + 1 + (e : Int) ≤ 2 ^ 60; omega, hne, h4⟩, s.2.same s.2.ok rfl rfl sm fun ws vs r => r.step (.of st) s s.2.ok⟩
/-- ints that stand for a draw -/
theorem draw_all {K : PySem.W.Frag} {c : Cc} {d : Dw} {H : Hp} {Q : VK} {E' : Dw → Nat → List W → Prop} {n : Int} (h : (F__law_draw [.stt, .int n]).AllW (PQ K c H Q) E' d) :
    (0 < n ∧ n.natAbs.log2 < 9000) ∧ ∃ e, d.n = e + 1 ∧ ∀ ⦃c' : Cc⦄ (i : Int) (H' : Hp), 0 ≤ i → i < n → SG c c' H H' → StOk c' ⟨e, d.os⟩ H' → Q (.int i) H' := by
  obtain ⟨h1, h⟩ := T.AllW.ite h
  have hn := manyOk_of h1
  obtain ⟨e, he, h⟩ := h
  refine ⟨hn, e, he, fun c' i H' hi0 hi st so => ?_⟩
  have q := h i.toNat (by omega)
  have ei : ((i.toNat : Nat) : Int) = i := by omega
  have q : PQ K c H Q ⟨e, d.os⟩ (.int ((i.toNat : Nat) : Int)) := q
  rw [ei] at q
  exact q _ H' st so (.int i)
theorem F_draw_bad {ws : List W} (h : ∀ n, ws ≠ [.stt, .int n]) : F__law_draw ws = .bad := by
  unfold F__law_draw
  split
  · exact absurd rfl (h _)
  · rfl
end PF
namespace PF
open PySem PySem.Spec PyProof.Rows L2
section
variable {α β : Type}
@[simp] theorem T.bind_ok (a : α) (f : α → T β) : (T.ok a).bind f = f a := rfl
@[simp] theorem T.bind_bad (f : α → T β) : (T.bad : T α).bind f = .bad := rfl
@[simp] theorem T.bind_exc (c : Nat) (fs : List W) (f : α → T β) : (T.exc c fs : T α).bind f = .exc c fs := rfl
@[simp] theorem T.bind_ask (n : Nat) (k : Nat → T α) (f : α → T β) : (T.ask n k).bind f = .ask n fun i => (k i).bind f := rfl
@[simp] theorem T.bind_get (i : Nat) (k : Nat → List W → T α) (f : α → T β) : (T.get i k : T α).bind f = .get i fun c fs => (k c fs).bind f := rfl
@[simp] theorem T.bind_put (i : Nat) (fs : List W) (k : T α) (f : α → T β) : (T.put i fs k : T α).bind f = .put i fs (k.bind f) := rfl
@[simp] theorem T.bind_new (c : Nat) (fs : List W) (k : Nat → T α) (f : α → T β) : (T.new c fs k : T α).bind f = .new c fs fun i => (k i).bind f := rfl
theorem T.bind_assoc {γ : Type} (t : T α) (f : α → T β) (g : β → T γ) : (t.bind f).bind g = t.bind fun a => (f a).bind g := by
  induction t with
  | ok a => rfl
  | exc c fs => rfl
  | bad => rfl
  | ask n k ih =>
    simp only [T.bind_ask]
    congr 1
    funext i
    exact ih i
  | get i k ih =>
    simp only [T.bind_get]
    congr 1
    funext c fs
    exact ih c fs
  | put i fs k ih =>
    simp only [T.bind_put]
    congr 1
  | new c fs k ih =>
    simp only [T.bind_new]
    congr 1
    funext i
    exact ih i
end
@[simp] theorem gV_eq (i : Nat) (ρ : En) : gV i ρ = match ρ[i]? with
  | some (.val w) => .ok w
  | _ => .bad := rfl
section
variable (g g' : W → W → T W) (h : W → T W) (fa fb fc : En → T W) (fs : En → T (List W)) (gl : List W → T W) (ta tb : En → T Bool) (sa sb : En → T (Fl × En)) (ρ : En)
@[simp] theorem f2_eq : f2 g fa fb ρ = (fa ρ).bind fun x => (fb ρ).bind fun y => g x y := rfl
@[simp] theorem f1_eq : f1 h fa ρ = (fa ρ).bind h := rfl
@[simp] theorem fL_eq : fL fs gl ρ = (fs ρ).bind gl := rfl
@[simp] theorem fNil_eq : fNil ρ = .ok [] := rfl
@[simp] theorem fCons_eq : fCons fa fs ρ = (fa ρ).bind fun x => (fs ρ).bind fun xs => .ok (x :: xs) := rfl
@[simp] theorem fTru_eq : fTru fa ρ = (fa ρ).bind truW := rfl
@[simp] theorem fBl_eq : fBl fa ρ = (fa ρ).bind blW := rfl
@[simp] theorem fNot_eq : fNot ta ρ = (ta ρ).bind fun b => .ok !b := rfl
@[simp] theorem fAnd_eq : fAnd ta tb ρ = (ta ρ).bind fun b => if b then tb ρ else .ok false := rfl
@[simp] theorem fOr_eq : fOr ta tb ρ = (ta ρ).bind fun b => if b then .ok true else tb ρ := rfl
@[simp] theorem fAndV_eq : fAndV fa fb ρ = (fa ρ).bind fun x => match x with
  | .bl true => fb ρ
  | .bl false => .ok (.bl false)
  | _ => .bad := rfl
@[simp] theorem fOrV_eq : fOrV fa fb ρ = (fa ρ).bind fun x => match x with
  | .bl false => fb ρ
  | .bl true => .ok (.bl true)
  | _ => .bad := rfl
@[simp] theorem fNotV_eq : fNotV fa ρ = (fa ρ).bind fun x => match x with
  | .bl b => .ok (.bl !b)
  | _ => .bad := rfl
@[simp] theorem fIf_eq : fIf ta fa fb ρ = (ta ρ).bind fun b => if b then fa ρ else fb ρ := rfl
@[simp] theorem fYes_eq : fYes ρ = .ok true := rfl
@[simp] theorem sNil_eq : sNil ρ = .ok (.nx, ρ) := rfl
@[simp] theorem sSeq_eq : sSeq sa sb ρ = (sa ρ).bind fun x => match x with
  | (.nx, ρ') => sb ρ'
  | x => .ok x := rfl
@[simp] theorem sRet_eq : sRet fa ρ = (fa ρ).bind fun w => .ok (.rt w, ρ) := rfl
@[simp] theorem sRetN_eq : sRetN ρ = .ok (.rt .non, ρ) := rfl
@[simp] theorem sExpr_eq : sExpr fa ρ = (fa ρ).bind fun _ => .ok (.nx, ρ) := rfl
@[simp] theorem sSet_eq (i : Nat) : sSet i fa ρ = (fa ρ).bind fun w => .ok (.nx, ρ.set i (.val w)) := rfl
@[simp] theorem sIf_eq : sIf ta sa sb ρ = (ta ρ).bind fun b => if b then sa ρ else sb ρ := rfl
@[simp] theorem sNever_eq : sNever ρ = .bad := rfl
@[simp] theorem sPar_eq (i j : Nat) : sPar i j fs ρ = (fs ρ).bind fun xs => match xs with
  | [x, y] => .ok (.nx, (ρ.set i (.val x)).set j (.val y))
  | _ => .bad := rfl
@[simp] theorem sAsg_eq (G : W → En → Option En) : sAsg fa G ρ = (fa ρ).bind fun w => match G w ρ with
  | some ρ' => .ok (.nx, ρ')
  | none => .bad := rfl
@[simp] theorem goName_eq (i : Nat) (w : W) : goName i w ρ = some (ρ.set i (.val w)) := rfl
@[simp] theorem iL_eq (q : List W → T (List W)) : iL q fs ρ = (fs ρ).bind q := rfl
@[simp] theorem iOf_eq (q : W → T (List W)) : iOf q fa ρ = (fa ρ).bind q := rfl
end
@[simp] theorem addW_int (i j : Int) : addW (.int i) (.int j) = .ok (.int (i + j)) := rfl
@[simp] theorem subW_int (i j : Int) : subW (.int i) (.int j) = .ok (.int (i - j)) := rfl
@[simp] theorem mulW_int (i j : Int) : mulW (.int i) (.int j) = if mulOk i j then .ok (.int (i * j)) else .bad := rfl
@[simp] theorem fdivW_int (i j : Int) : fdivW (.int i) (.int j) = if divOk j then .ok (.int (i / j)) else .bad := rfl
@[simp] theorem modW_int (i j : Int) : modW (.int i) (.int j) = if decide (0 < j) then .ok (.int (i % j)) else .bad := rfl
@[simp] theorem ltW_int (i j : Int) : ltW (.int i) (.int j) = .ok (.bl (decide (i < j))) := rfl
@[simp] theorem leW_int (i j : Int) : leW (.int i) (.int j) = .ok (.bl (decide (i ≤ j))) := rfl
@[simp] theorem gtW_int (i j : Int) : gtW (.int i) (.int j) = .ok (.bl (decide (j < i))) := rfl
@[simp] theorem geW_int (i j : Int) : geW (.int i) (.int j) = .ok (.bl (decide (j ≤ i))) := rfl
@[simp] theorem intW_int (i : Int) : intW [.int i] = .ok (.int i) := rfl
@[simp] theorem intW_bl (b : Bool) : intW [.bl b] = .ok (.int (if b then 1 else 0)) := rfl
@[simp] theorem absW_int (i : Int) : absW [.int i] = .ok (.int (if i < 0 then -i else i)) := rfl
@[simp] theorem blW_bl (b : Bool) : blW (.bl b) = .ok b := rfl
@[simp] theorem truW_bl (b : Bool) : truW (.bl b) = .ok b := rfl
@[simp] theorem lenW_tup (ws : List W) : lenW [.tup ws] = .ok (.int ws.length) := rfl
@[simp] theorem lenW_lst (ws : List W) : lenW [.lst ws] = .ok (.int ws.length) := rfl
@[simp] theorem lenW_scr (n : Nat) : lenW [.scr n] = .ok (.int n) := rfl
theorem mulOk_of {i j : Int} {a b : Nat} (ha : i.natAbs < 2 ^ a) (hb : j.natAbs < 2 ^ b) (h0 : 0 < a) (h1 : 0 < b) (h : a + b ≤ 1000000) : mulOk i j = true := by
  unfold mulOk
  exact decide_eq_true (wide_mul ha hb h0 h1 h)
theorem divOk_of {j : Int} {b : Nat} (h : 0 < j) (hb : j.natAbs < 2 ^ b) (h0 : 0 < b) (h9 : b ≤ 9000) : divOk j = true := by
  unfold divOk
  obtain ⟨h1, h2⟩ := wide_div (i := 0) h hb h0 h9
  rw [decide_eq_true h1, decide_eq_true h2]
  rfl
theorem manyOk_is {n : Int} {b : Nat} (h : 0 < n) (hb : n.natAbs < 2 ^ b) (h0 : 0 < b) (h9 : b ≤ 9000) : manyOk n = true := by
  unfold manyOk
  obtain ⟨h1, h2⟩ := wide_div (i := 0) h hb h0 h9
  rw [decide_eq_true h1, decide_eq_true h2]
  rfl
theorem sizeOk_is {ws : List W} (h : ws.length ≤ 16777216) : sizeOk ws = true := by
  unfold sizeOk
  exact decide_eq_true h
theorem sz2_is {a b : Nat} (h : a + b ≤ 16777216) : sz2 a b = true := by
  unfold sz2
  exact decide_eq_true h
@[simp] theorem mkTup_eq (ws : List W) : mkTup ws = if sizeOk ws then .ok (.tup ws) else .bad := rfl
@[simp] theorem mkLst_eq (ws : List W) : mkLst ws = if sizeOk ws then .ok (.lst ws) else .bad := rfl
@[simp] theorem sizeOk_nil : sizeOk [] = true := sizeOk_is (by simp)
@[simp] theorem sizeOk_1 (a : W) : sizeOk [a] = true := sizeOk_is (by simp)
@[simp] theorem sizeOk_2 (a b : W) : sizeOk [a, b] = true := sizeOk_is (by simp)
@[simp] theorem sizeOk_3 (a b c : W) : sizeOk [a, b, c] = true := sizeOk_is (by simp)
@[simp] theorem sizeOk_4 (a b c d : W) : sizeOk [a, b, c, d] = true := sizeOk_is (by simp)
@[simp] theorem sizeOk_5 (a b c d e : W) : sizeOk [a, b, c, d, e] = true := sizeOk_is (by simp)
end PF
namespace PF
def wInt (i : Nat) (ρ : En) : Nat := match ρ[i]? with
  | some (.val (.int k)) => k.natAbs
  | _ => 0
end PF
namespace PF
open PySem PySem.Spec PyProof.Rows L2 He
abbrev AlF : Type := AlD × Bool
def obsF (n : Nat) (fa : List Fa) (fn : List DefD) (ex : PySem.W.Frag → Bool) (g : Addr → Option Obj) : AlF := (obsD fa fn (frG g (asD g n)), ex (frG g (asD g n)))
structure SaysF (fa : List Fa) (fn : List DefD) (ex : PySem.W.Frag → Bool) (K : PySem.W.Frag) : Prop where
  d : SaysD fa fn K
  more : ex K = true
def hookF (n : Nat) (fa : List Fa) (fn : List DefD) (ex : PySem.W.Frag → Bool) : PySem.W.Hook where
  α := AlF
  obs := fun s => obsF n fa fn ex s.heap.get?
  val := fun _ => (valD fn, true)
  says := fun _ h => ∃ K : PySem.W.Frag, K.In h ∧ SaysF fa fn ex K
  of := fun _ _ e => ⟨_, frG_in, congrArg (fun z : AlF => z.1) e, congrArg (fun z : AlF => z.2) e⟩
  keeps := fun _ _ _ ⟨K, hK, c⟩ k => ⟨K, PySem.W.Frag.In.keeps hK k, c⟩
theorem obsF_eq {n : Nat} {fa : List Fa} {fn : List DefD} {ex : PySem.W.Frag → Bool} {g : Addr → Option Obj} {s : Shared} (h : ∀ a, g a = s.heap.get? a) : obsF n fa fn ex g = (hookF n fa fn ex).obs s := by
  have e : g = s.heap.get? := funext h
  rw [e]
  rfl
/-- a fact by its place -/
theorem SaysF.fact {fa : List Fa} {fn : List DefD} {ex : PySem.W.Frag → Bool} {K : PySem.W.Frag} (c : SaysF fa fn ex K) (i : Nat) {f : Fa} (h : fa[i]? = some f := by rfl) : f.ok K = true := c.d.fact i h
/-- a module's name that stands for a tuple of ints and texts -/
def flatW : Dv → Option W
  | .non => some .non
  | .bl b => some (.bl b)
  | .int i => some (.int i)
  | .str x => some (.str x)
  | _ => none
theorem flatW_rep {K : PySem.W.Frag} {d : Dv} {w : W} (h : flatW d = some w) (c : Cc) (H : Hp) : Rep K c H w (d.v K) := by
  cases d <;> first | (cases h; done) | (cases h; constructor)
theorem flatL_rep {K : PySem.W.Frag} (c : Cc) (H : Hp) : ∀ {ds : List Dv} {ws : List W}, ds.mapM flatW = some ws → RepL K c H ws (ds.map (Dv.v K))
  | [], ws, h => by
    simp at h
    subst h
    exact .nil
  | d :: ds, ws, h => by
    rw [List.mapM_cons] at h
    cases e1 : flatW d with
    | none =>
      rw [e1] at h
      cases h
    | some w =>
      rw [e1] at h
      cases e2 : ds.mapM flatW with
      | none =>
        rw [e2] at h
        cases h
      | some us =>
        rw [e2] at h
        cases h
        exact .cons (flatW_rep e1 c H) (flatL_rep c H e2)
theorem cs_tup {K : PySem.W.Frag} {h : Heap} {mg : Str → Option Value} {x : Str} {ds : List Dv} {ws : List W} (X : K.In h) (G : h.Ns mainGlobals mg) (hg : (Fa.glo x).ok K = true) (ht : tupB K x ds = true) (hw : ds.mapM flatW = some ws) : CsIs K mg x (.tup ws) :=
  ⟨.ref (ga K x), _, glo_ok X G hg, rfl, fun c H => .tup (tupB_ok ht H) (flatL_rep c H hw)⟩
theorem cs_int {K : PySem.W.Frag} {h : Heap} {mg : Str → Option Value} {x : Str} {i : Int} (X : K.In h) (G : h.Ns mainGlobals mg) (hg : (Fa.int x i).ok K = true) : CsIs K mg x (.int i) := by
  obtain ⟨t, e⟩ := int_ok X G hg
  exact ⟨.int i, _, e, ⟨t, rfl⟩, fun c H => .int i⟩
theorem cs_str {K : PySem.W.Frag} {h : Heap} {mg : Str → Option Value} {x z : Str} (X : K.In h) (G : h.Ns mainGlobals mg) (hg : (Fa.str x z).ok K = true) : CsIs K mg x (.str z) := by
  obtain ⟨t, e⟩ := str_ok X G hg
  exact ⟨.str z, _, e, ⟨t, rfl⟩, fun c H => .str z⟩
end PF
namespace PF
open PySem PySem.Spec PyProof.Rows L2
def spBegin (K : PySem.W.Frag) : Sp := fun vs H Q _ => ∃ (a : Addr) (ns : List Int), vs = [.ref a] ∧ SqL K H a (ns.map V.int) ∧ ns.length ≤ 63 ∧ ∀ (S ca la : Addr) (H' : Hp) (cells lefts : List Int), Same H H' → H S = none → H ca = none → H la = none →
  H' S = some (.dK (stK ca la 0 0)) → H' ca = some (.lst (cells.map V.int)) → H' la = some (.lst (lefts.map V.int)) → lefts.length = cells.length → 0 < cells.length → ca ≠ la → Q (.ref S) H'
def spLaw (K : PySem.W.Frag) : Sp := fun vs H Q _ => ∃ (a : Addr) (ns : List Int), vs = [.ref a] ∧ SqL K H a (ns.map V.int) ∧ ns.length ≤ 63 ∧ LamX.Tabs (tabL K) H ∧ ∀ H', Q (.bl true) H'
section
variable {K : PySem.W.Frag}
theorem dp_ints {H : Hp} : ∀ ns : List Int, DpAll K H (ns.map V.int) (ns.map PyData.int)
  | [] => .nil
  | n :: ns => .cons (.int n) (dp_ints ns)
theorem lay_ints : ∀ ns : List Int, PyData.canLayAll0 (ns.map PyData.int) = true
  | [] => rfl
  | n :: ns => lay_ints ns
theorem dep_ints : ∀ ns : List Int, PyData.depthAll (ns.map PyData.int) ≤ 1
  | [] => by decide
  | n :: ns => by
    have h := dep_ints ns
    simp only [List.map_cons, PyData.depthAll, PyData.depth]
    omega
theorem shaped_ints (ns : List Int) : SeqAt.shaped (.list (ns.map PyData.int)) = true := by
  have h := dep_ints ns
  unfold SeqAt.shaped
  rw [Bool.and_eq_true]
  exact ⟨lay_ints ns, decide_eq_true (by simp only [PyData.depth]; omega)⟩
/-- the state is laid -/
theorem begin_ret {H H1 : Hp} {Q : VK} {nx : L2.St → Hp → Prop} {v0 : V} {l : Addr} {cells : List Int} (sm : Same H H1) (nl : H l = none) (hl : H1 l = some (.lst (cells.map V.int))) (h0 : 0 < cells.length) (hz : cells.length ≤ 1000)
    (q : ∀ (S ca la : Addr) (H' : Hp) (cells lefts : List Int), Same H H' → H S = none → H ca = none → H la = none → H' S = some (.dK (stK ca la 0 0)) → H' ca = some (.lst (cells.map V.int)) → H' la = some (.lst (lefts.map V.int)) → lefts.length = cells.length → 0 < cells.length → ca ≠ la → Q (.ref S) H') :
    tRet (tDisp [(tC (.str kCells), tVar 1), (tC (.str kLefts), tLc (iList K (tVar 1)) (gName 2) tYes (tIf (tTest (tOp (rI0 fun i j => .bl (decide (j ≤ i))) (tVar 2) (tOp (rI CPow fun i j => .int (i ^ j.toNat)) (tC (.int 10)) (tC (.int 18))))) (tVar 2) (tC (.int 0))) [2]), (tC (.str kAt), tC (.int 0)), (tC (.str kRoom), tC (.int 0))])
      { nx := nx, rt := Q } [some v0, some (.ref l), none] H1 := by
  intro p np
  have nlp : l ≠ p := ne_of_none hl np
  have hl1 : (upd H1 p (.dK [])) l = some (.lst (cells.map V.int)) := by rw [upd_ne nlp]; exact hl
  refine ⟨.ref l, rfl, .ref l, rfl, l, rfl, ⟨_, SqL.of hl1⟩, fun D nD => ?_⟩
  have npD : D ≠ p := fun z => by rw [z, upd_same] at nD; cases nD
  have nlD : l ≠ D := fun z => by rw [← z, hl1] at nD; cases nD
  have nD1 : H1 D = none := by rw [upd_ne npD] at nD; exact nD
  let lf : Int → Int := fun c => if (10 : Int) ^ (18 : Int).toNat ≤ c then c else 0
  refine lc_list (K := K) (a := l) (xs := cells.map V.int) (fun i H2 => (∀ b, b ≠ D → H2 b = (upd H1 p (.dK [])) b) ∧ H2 D = some (.lst (((cells.take i).map lf).map V.int))) ⟨fun b hb => upd_ne hb, upd_same⟩ (fun i H2 hi h => ?_) (fun i x H2 hx h => ?_) (fun H2 h => ?_)
  · exact SqL.of (by rw [h.1 l nlD]; exact hl1)
  · obtain ⟨o, hD⟩ := h
    rw [List.getElem?_map] at hx
    cases ec : cells[i]? with
    | none =>
      rw [ec] at hx
      cases hx
    | some c =>
      rw [ec] at hx
      cases hx
      have hi : i < cells.length := (List.getElem?_eq_some_iff.mp ec).1
      have et : cells.take (i + 1) = cells.take i ++ [c] := by rw [List.take_add_one, ec]; rfl
      refine ⟨rfl, iteT (B := True) ⟨.int c, rfl, 10, 18, rfl, rfl, ⟨by decide, by decide, by decide⟩, c, _, rfl, rfl, _, rfl, ?_⟩⟩
      have fin : ∀ y : Int, y = lf c → ∃ acc, H2 D = some (.lst acc) ∧ acc.length < sizeLine ∧ ((∀ b, b ≠ D → (upd H2 D (.lst (acc ++ [V.int y]))) b = (upd H1 p (.dK [])) b) ∧ (upd H2 D (.lst (acc ++ [V.int y]))) D = some (.lst (((cells.take (i + 1)).map lf).map V.int))) := fun y ey => by
        refine ⟨_, hD, ?_, fun b hb => by rw [upd_ne hb]; exact o b hb, ?_⟩
        · rw [List.length_map, List.length_map, List.length_take]
          exact Nat.lt_of_le_of_lt (Nat.min_le_right _ _) (small1000 hz)
        · rw [upd_same, et, List.map_append, List.map_append, ey]
          rfl
      by_cases hc : (10 : Int) ^ (18 : Int).toNat ≤ c
      · have e : decide ((10 : Int) ^ (18 : Int).toNat ≤ c) = true := decide_eq_true hc
        show if decide ((10 : Int) ^ (18 : Int).toNat ≤ c) = true then _ else _
        rw [e]
        refine iteT ⟨.int c, rfl, fin c ?_⟩
        show c = if (10 : Int) ^ (18 : Int).toNat ≤ c then c else 0
        rw [if_pos hc]
      · have e : decide ((10 : Int) ^ (18 : Int).toNat ≤ c) = false := decide_eq_false hc
        show if decide ((10 : Int) ^ (18 : Int).toNat ≤ c) = true then _ else _
        rw [e]
        refine iteF (fin 0 ?_)
        show (0 : Int) = if (10 : Int) ^ (18 : Int).toNat ≤ c then c else 0
        rw [if_neg hc]
  · obtain ⟨o, hD⟩ := h
    have hp : H2 p = some (.dK []) := by rw [o p (Ne.symm npD), upd_same]
    refine ⟨hp, [(.inr kCells, .ref l), (.inr kLefts, .ref D), (.inr kAt, .int 0), (.inr kRoom, .int 0)], rfl, by show 4 ≤ 15; decide, ?_⟩
    have em : mergeK [] [(Sum.inr kCells, V.ref l), (.inr kLefts, .ref D), (.inr kAt, .int 0), (.inr kRoom, .int 0)] = stK l D 0 0 := by
      simp [mergeK, putK, ne_ca, ne_la, ne_cl, show ¬ kCells = kRoom by decide +kernel, show ¬ kLefts = kRoom by decide +kernel, show ¬ kAt = kRoom by decide +kernel]
    rw [em]
    refine q p l D _ cells (cells.map lf) (fun b u hb => ?_) ?_ nl ?_ upd_same ?_ ?_ (List.length_map ..) h0 nlD
    · have h1 := sm b u hb
      have nb : b ≠ p := ne_of_none h1 np
      have nbD : b ≠ D := ne_of_none h1 nD1
      rw [upd_ne nb, o b nbD, upd_ne nb]
      exact h1
    · exact sm.free np
    · exact sm.free nD1
    · rw [upd_ne nlp, o l nlD]
      exact hl1
    · rw [upd_ne npD, hD, List.length_map, List.take_length]
theorem begin_read {H : Hp} {Q : VK} {nx : L2.St → Hp → Prop} {a : Addr} {ns : List Int} (hS : SqL K H a (ns.map V.int)) (hz : ns.length ≤ 63)
    (q : ∀ (S ca la : Addr) (H' : Hp) (cells lefts : List Int), Same H H' → H S = none → H ca = none → H la = none → H' S = some (.dK (stK ca la 0 0)) → H' ca = some (.lst (cells.map V.int)) → H' la = some (.lst (lefts.map V.int)) → lefts.length = cells.length → 0 < cells.length → ca ≠ la → Q (.ref S) H') :
    tSeq (tAsg (tIf (tTest (tOp (rNeD K) (tVar 0) (tLst tNil))) (tCB (fun xs H Q => ∃ p ys, xs = [.ref p] ∧ (SqL K H p ys ∨ SqT K H p ys) ∧ ∀ l, H l = none → Q (.ref l) (upd H l (.lst ys))) (tCons (tVar 0) tNil)) (tLst (tCons (tC (.int 0)) tNil))) (gName 1))
      (tRet (tDisp [(tC (.str kCells), tVar 1), (tC (.str kLefts), tLc (iList K (tVar 1)) (gName 2) tYes (tIf (tTest (tOp (rI0 fun i j => .bl (decide (j ≤ i))) (tVar 2) (tOp (rI CPow fun i j => .int (i ^ j.toNat)) (tC (.int 10)) (tC (.int 18))))) (tVar 2) (tC (.int 0))) [2]), (tC (.str kAt), tC (.int 0)), (tC (.str kRoom), tC (.int 0))]))
      { nx := nx, rt := Q } [some (.ref a), none, none] H := by
  refine ⟨.ref a, rfl, by decide, fun p np => ?_⟩
  have sm : Same H (upd H p (.lst [])) := fun b u e => by rw [upd_ne (ne_of_none e np)]; exact e
  have hS1 : SqL K (upd H p (.lst [])) a (ns.map V.int) := sm.seq hS
  refine ⟨.list (ns.map .int), .list [], .lst hS1 (dp_ints ns), .lst (SqL.of upd_same) .nil, shaped_ints ns, rfl, _, rfl, ?_⟩
  cases ns with
  | nil =>
    refine iteF ⟨by decide, fun l nl => ?_⟩
    exact begin_ret (cells := [0]) (fun b u e => by rw [upd_ne (ne_of_none (sm b u e) nl)]; exact sm b u e) (sm.free nl) upd_same (by decide) (by decide) q
  | cons n ns =>
    refine iteT ⟨.ref a, rfl, a, _, rfl, .inl hS1, fun l nl => ?_⟩
    exact begin_ret (cells := n :: ns) (fun b u e => by rw [upd_ne (ne_of_none (sm b u e) nl)]; exact sm b u e) (sm.free nl) upd_same (by simp) (Nat.le_trans hz (by decide)) q
end
/-- the law's frame when the state stands -/
def lawE (n m : Nat) : En := .val (.scr n) :: .val .stt :: List.replicate m .un
theorem law_env {K : PySem.W.Frag} {H H' : Hp} {a S ca la : Addr} {ns cells lefts : List Int} {m : Nat} (hS : SqL K H a (ns.map V.int)) (sm : Same H H') (nS : H S = none) (nca : H ca = none) (nla : H la = none)
    (h1 : H' S = some (.dK (stK ca la 0 0))) (h2 : H' ca = some (.lst (cells.map V.int))) (h3 : H' la = some (.lst (lefts.map V.int))) (hl : lefts.length = cells.length) (h0 : 0 < cells.length) (hne : ca ≠ la) (hT : LamX.Tabs (tabL K) H) :
    EnvOk K Γ ⟨S, ca, la, [S, ca, la], [], tabL K, Γ, K, []⟩ ⟨2 ^ 60, []⟩ (fun _ => 0) (lawE ns.length m) (some (.ref a) :: some (.ref S) :: List.replicate m none) H' where
  ok := ⟨by simp, by simp, by simp⟩
  st := ⟨⟨cells, lefts, 0, 0, h1, h2, h3, hl, h0, by decide, by decide, hne, hT.ext fun b o e => sm b o e⟩, ⟨by simp, by simp, by simp⟩, rfl, List.nodup_nil, (fun i a o h => by simp at h), fun _ => rfl⟩
  av := fun b hb => by
    simp only [List.mem_cons, List.not_mem_nil, or_false] at hb
    rcases hb with rfl | rfl | rfl
    · exact ⟨_, h1, .inr ⟨_, rfl⟩⟩
    · exact ⟨_, h2, .inl ⟨_, rfl⟩⟩
    · exact ⟨_, h3, .inl ⟨_, rfl⟩⟩
  len := by simp [lawE]
  val := fun i w h => by
    unfold lawE at h
    match i, h with
    | 0, h =>
      simp at h
      subst h
      refine ⟨.ref a, rfl, .scr ?_⟩
      rcases sqL_split hS with r | r
      · have na : ∀ b, H b = none → a ≠ b := fun b hb => by
          rcases r with r | ⟨o, r⟩
          · exact ne_of_none r hb
          · exact ne_of_none r hb
        refine .inl ⟨?_, ?_⟩
        · simp only [List.mem_cons, List.not_mem_nil, or_false, not_or]
          exact ⟨na S nS, na ca nca, na la nla⟩
        · rcases r with r | ⟨o, r⟩
          · exact .inl (sm _ _ r)
          · exact .inr ⟨o, sm _ _ r⟩
      · exact .inr r
    | 1, h =>
      simp at h
      subst h
      exact ⟨.ref S, rfl, .stt⟩
    | i + 2, h =>
      simp only [List.getElem?_cons_succ, List.getElem?_replicate] at h
      split at h <;> cases h
  m := ⟨fun b hb => (by cases hb), fun b hb => (by cases hb), fun b hb => (by cases hb)⟩
  own := fun i ws h => by
    unfold lawE at h
    match i, h with
    | 0, h => simp at h
    | 1, h => simp at h
    | i + 2, h =>
      simp only [List.getElem?_cons_succ, List.getElem?_replicate] at h
      split at h <;> cases h
  inj := fun i j ws us h _ => by
    unfold lawE at h
    match i, h with
    | 0, h => simp at h
    | 1, h => simp at h
    | i + 2, h =>
      simp only [List.getElem?_cons_succ, List.getElem?_replicate] at h
      split at h <;> cases h
  odc := fun i ws h => by
    unfold lawE at h
    match i, h with
    | 0, h => simp at h
    | 1, h => simp at h
    | i + 2, h =>
      simp only [List.getElem?_cons_succ, List.getElem?_replicate] at h
      split at h <;> cases h
  ido := fun i j ws us h _ => by
    unfold lawE at h
    match i, h with
    | 0, h => simp at h
    | 1, h => simp at h
    | i + 2, h =>
      simp only [List.getElem?_cons_succ, List.getElem?_replicate] at h
      split at h <;> cases h
  tT := rfl
  cC := rfl
  kK := rfl
/-- a law's run ends and gives True -/
def LawEnds (g : En → T (Fl × En)) (m : Nat) : Prop := ∀ n, n ≤ 63 → (g (lawE n m)).AllB (fun _ x => ∃ ρ, x = (.rt (.bl true), ρ)) (fun _ _ _ => False) (2 ^ 60)
/-- with objects -/
def LawEndsW (g : En → T (Fl × En)) (m : Nat) : Prop := ∀ n, n ≤ 63 → (g (lawE n m)).AllW (fun _ x => ∃ ρ, x = (.rt (.bl true), ρ)) (fun _ _ _ => False) ⟨2 ^ 60, []⟩
theorem LawEnds.w {g : En → T (Fl × En)} {m : Nat} (h : LawEnds g m) : LawEndsW g m := fun n hn => T.AllW.imp (fun _ _ x => x.2) (fun _ _ _ x => x.2) (T.allW_of (os := []) (h n hn))
theorem law_restW {K : PySem.W.Frag} {E : XK} {H H' : Hp} {a S ca la : Addr} {ns cells lefts : List Int} {m : Nat} {g : En → T (Fl × En)} {Q : VK} {nx : L2.St → Hp → Prop} (en : LawEndsW g m) (hn : ns.length ≤ 63) (q : ∀ H', Q (.bl true) H') (hS : SqL K H a (ns.map V.int)) (sm : Same H H') (nS : H S = none) (nca : H ca = none) (nla : H la = none)
    (h1 : H' S = some (.dK (stK ca la 0 0))) (h2 : H' ca = some (.lst (cells.map V.int))) (h3 : H' la = some (.lst (lefts.map V.int))) (hl : lefts.length = cells.length) (h0 : 0 < cells.length) (hne : ca ≠ la) (hT : LamX.Tabs (tabL K) H) :
    liftS K Γ E g { nx := nx, rt := Q } (some (.ref a) :: some (.ref S) :: List.replicate m none) H' := by
  refine ⟨_, _, _, _, law_env hS sm nS nca nla h1 h2 h3 hl h0 hne hT, T.AllW.imp (fun d x hx => ?_) (fun _ _ _ z => z.elim) (en ns.length hn)⟩
  obtain ⟨ρ, rfl⟩ := hx
  intro c' oa' σ' H2 fw e' v r
  cases r
  exact q H2
theorem law_rest {K : PySem.W.Frag} {E : XK} {H H' : Hp} {a S ca la : Addr} {ns cells lefts : List Int} {m : Nat} {g : En → T (Fl × En)} {Q : VK} {nx : L2.St → Hp → Prop} (en : LawEnds g m) (hn : ns.length ≤ 63) (q : ∀ H', Q (.bl true) H') (hS : SqL K H a (ns.map V.int)) (sm : Same H H') (nS : H S = none) (nca : H ca = none) (nla : H la = none)
    (h1 : H' S = some (.dK (stK ca la 0 0))) (h2 : H' ca = some (.lst (cells.map V.int))) (h3 : H' la = some (.lst (lefts.map V.int))) (hl : lefts.length = cells.length) (h0 : 0 < cells.length) (hne : ca ≠ la) (hT : LamX.Tabs (tabL K) H) :
    liftS K Γ E g { nx := nx, rt := Q } (some (.ref a) :: some (.ref S) :: List.replicate m none) H' := law_restW en.w hn q hS sm nS nca nla h1 h2 h3 hl h0 hne hT
/-- the law's end, what may be raised told by the world -/
theorem walk_w {l : PySem.W.OpenLaw} {n k : Nat} {q : Program} {loose : List Str} {XP : (Str → Option Value) → Heap → Prop} {YP : World → Heap → Prop} {d : DefRec} {CX : World → CXT} {x : Str}
    (hn : l.most = some n) (hz : n ≤ sizeLine) (hdf : d.params.defaults = []) (hr : Room k callerA)
    (F : ∀ (w : World) (mg : Str → Option Value) (fa : Addr) (h : Heap), YP w h → h.Ns mainGlobals mg → mg d.name = some (.ref fa) →
      ∃ (K : PySem.W.Frag) (fd : FuncData) (sp : Sp), K.In h ∧ (∀ (s : Shared) (u : Value), BindsTo s fd ⟨[u], []⟩ [(x, u)]) ∧
        (∀ (H : Hp) (a : Addr) (ns : List Int), ns.length ≤ n → Only H → SqL K H a (ns.map V.int) → sp [.ref a] H (fun v _ => v = .bl true) fun _ _ _ => False) ∧
        ∀ base : Heap, K.In base → base.Ns mainGlobals mg → FnOk l.prog w K mg base (CX w) k fa fd [x] sp)
    (hCX : ∀ (w : World) (H : Hp) (s : Shared) (e : Value) (s' : Shared), CX w [] H s (fun _ _ _ => False) e s' → False) :
    PySem.W.WalkO q loose XP YP l.row.toRowW d [] (fun f vs => PySem.call f vs) := by
  refine Att.attach_call hn hdf fun w' t₀ t₁ mg' mb' fa' o' pm' cd' dc a' vs' ns' G' Y' h1 h2 h3 h4 h5 h6 h7 h8 => ?_
  obtain ⟨K', fd', sp', kx, hb', hs', hF'⟩ := F w' mg' fa' _ Y' G'.T.g h4
  exact law_call kx G'.T.g G'.T.b G'.T.builtins G'.T.nolimit h8 h5 h6 (Nat.le_trans h7 hz) hr hF' hb' (fun H hO hS => hs' H a' ns' h7 hO hS) fun H e s' => hCX w' H t₁ e s'
theorem cx_none {P : Program} {w : World} {l : List PySem.Env} {H : Hp} {s : Shared} {e : Value} {s' : Shared} (h : L2.CX P w l H s (fun _ _ _ => False) e s') : False := by
  obtain ⟨_, _, _, _, _, _, _, _, _, _, _, _, z⟩ := h
  exact z
end PF
namespace PF
open PySem PySem.Spec PyProof.Rows L2
set_option maxHeartbeats 1000000 in
theorem meets_enum1 {v : Value} {o : Obj} {H : Heap → Prop} (B : Begins v o H) :
    Meets (Builtin.«enumerate.__new__» ⟨[.type "enumerate", v], []⟩) (fun _ R s => H s.heap ∧
      R (.ok (.ret (.ref (s.heap.push o).objs.size))) { s with heap := (s.heap.push o).push { cls := .type "enumerate", data := .fields #[.none, .bool false, .ref s.heap.objs.size, rawInt 0, .none, .none] } }) := .of_wp fun prog w A R s h => by
  obtain ⟨hp, g, d, tk, os⟩ := s
  obtain ⟨h1, h⟩ := h
  have hsub := sub_enumerate
  have q1 : ∀ {A' : Around} {E : Value → Shared → Prop} {Q : Value → Shared → Prop}, Q (.ref hp.objs.size) ⟨hp.push o, g, d, tk, os⟩ → wpAny (model prog w) A' (pyIter v) Q E ⟨hp, g, d, tk, os⟩ := fun q => B.iter prog w _ _ ⟨hp, g, d, tk, os⟩ _ h1 q
  wp_walk using q1
  refine wpAny_stack_any fun st => wpAny_pure ?_
  split
  · rename_i c _ _ _ _ _
    cases (c == Value.type "enumerate")
    · wp_walk using q1
      exact ⟨_, rfl, h⟩
    · wp_walk using q1
      exact ⟨_, rfl, h⟩
  · wp_walk using q1
    exact ⟨_, rfl, h⟩
theorem enum_begins1 {prog : Program} {w : World} {A : Around} {E : Value → Shared → Prop} {s : Shared} {v : Value} {o : Obj} {H : Heap → Prop} {Q : Value → Shared → Prop} (B : Begins v o H) (h1 : H s.heap)
    (h : ∀ h', IsEnum h' (s.heap.objs.size + 1) s.heap.objs.size 0 .none → h'.get? s.heap.objs.size = some o → h'.objs.size = s.heap.objs.size + 2 → (∀ b o, s.heap.get? b = some o → h'.get? b = some o) → Q (.ref (s.heap.objs.size + 1)) { s with heap := h' }) :
    wpAny (model prog w) A (call (.type "enumerate") [v]) Q E s := by
  refine callType_new F.called_enumerate (by decide) (F.typeCall_enumerate_1 _) (F.newCall_enumerate_1 _) (fun obj => F.args_object_init_2 obj _) F.entry_enumerate_new (meets_enum1 B) ⟨h1, ?_⟩
  have hz : (s.heap.push o).objs.size = s.heap.objs.size + 1 := Heap.size_push ..
  show _ ∧ _
  rw [hz]
  have he : IsEnum ((s.heap.push o).push { cls := .type "enumerate", data := .fields #[.none, .bool false, .ref s.heap.objs.size, rawInt 0, .none, .none] }) (s.heap.objs.size + 1) s.heap.objs.size 0 .none := by
    have := Heap.get?_push_size (s.heap.push o) (o := { cls := .type "enumerate", data := .fields #[.none, .bool false, .ref s.heap.objs.size, rawInt 0, .none, .none] }) rfl
    rw [hz] at this
    exact this
  exact ⟨⟨_, he, rfl⟩, h _ he (Heap.get?_push_of_some _ (Heap.get?_push_size _ B.free)) (by rw [Heap.size_push, hz]) fun b o x => Heap.get?_push_of_some _ (Heap.get?_push_of_some _ x)⟩
/-- the tuple at a (n items), each item in a new pair with its count from k -/
def ItNT (K : PySem.W.Frag) (a : Addr) (k : Int) (n : Nat) : It :=
  ⟨fun i H => i < n ∧ ∃ (xs : List V) (x : V), SqT K H a xs ∧ xs.length = n ∧ xs[i]? = some x,
    fun i H v H' => ∃ T x, v = .ref T ∧ H T = none ∧ H' = upd H T (.tup [.int (k + (i : Nat)), x]) ∧ ∀ xs, SqT K H a xs → xs[i]? = some x,
    fun i H => n ≤ i ∧ ∃ xs : List V, SqT K H a xs ∧ xs.length = n⟩
theorem turn_nT {P : Program} {w : World} {K : PySem.W.Frag} {elts : List Expr} {kk : Nat} {tpos : Pos} (a e it : Addr) (k : Int) (n : Nat) :
    Turn P w K (.Tuple elts kk tpos) (ItNT K a k n) [e, it] e (fun i h => (∃ old, IsEnum h e it (k + (i : Nat)) old) ∧ h.IsTupleIter it a i ∧ e ≠ it ∧ a ≠ it ∧ a ≠ e ∧ i ≤ n) where
  mem := by simp
  obj := fun i h st b hb => by
    obtain ⟨⟨old, he⟩, ⟨o, ho, hc, hd⟩, _⟩ := st
    have e' : b = e ∨ b = it := by simpa using hb
    rcases e' with z | z
    · rw [z]
      exact ⟨_, he, fun v q => nomatch q⟩
    · rw [z]
      exact ⟨o, ho, fun v q => by rw [hd] at q; cases q⟩
  keep := fun i h h' st k => let ⟨⟨old, he⟩, hi, hne⟩ := st; ⟨⟨old, k e (by simp) _ he⟩, hi.at fun o q => k it (by simp) o q, hne⟩
  item := by
    intro X hP hw hK hc i pins s σ H E I hf st hg
    subst hP hw hK
    obtain ⟨⟨old, he⟩, hit, hne, nai, nae, _⟩ := st
    obtain ⟨hin, xs, x, hq, hxn, hx⟩ := hg
    obtain ⟨its, rv, p, hz⟩ := I.tuple hq
    obtain ⟨u, hu, ru⟩ := rv.get hx
    have hil0 : i < its.length := (List.getElem?_eq_some_iff.mp hu).1
    have hel : e < s.heap.objs.size := Heap.lt_size he
    have hil : it < s.heap.objs.size := by obtain ⟨_, q, _⟩ := hit; exact Heap.lt_size q
    have D := Draws.tuple (prog := X.prog) (w := X.w) (A := X.A.in1) (I.ok.hd hc) it a nai its.toArray
    refine wpAny_pyNext_enum_itemC D he ⟨hit, p⟩ (by simpa using hil0) hne (by simp [hne, Ne.symm nae]) fun x' h' tk hP ho hst hT hsz hk => ?_
    have hxu : x' = u := by
      have : its[i]? = some x' := by simpa using hP
      rw [hu] at this
      exact (Option.some.inj this).symm
    subst hxu
    obtain ⟨hit', _⟩ := hst
    refine ⟨_, rfl, wpAny_letOwnedTupleGo_enum (s := { s with heap := h', toks := tk + 1 }) ho fun h'' he' sb => ?_⟩
    have hT2 : h''.get? s.heap.objs.size = some { cls := .type "tuple", data := .seq #[.int (k + (i : Nat)) tk, x'] } := (sb.2 _ (Nat.ne_of_gt hel)).trans hT
    have new : ObjOk X.prog X.w (upd H s.heap.objs.size (.tup [.int (k + (i : Nat)), x])) h'' s.heap.objs.size (.tup [.int (k + (i : Nat)), x]) := ⟨by show 2 ≤ sizeLine; decide, [.int (k + (i : Nat)) tk, x'], .cons ⟨_, rfl⟩ (.cons ru .nil), ⟨_, hT2, rfl, _, rfl⟩⟩
    have I1 : Inv X pins σ (upd H s.heap.objs.size (.tup [.int (k + (i : Nat)), x])) { s with heap := h'', toks := tk + 1 } := I.turnedNew (ch := [e, it]) (fun b ob hb q => (sb.2 b (fun z => hb (by simp [z]))).trans (hk b ob (fun z => hb (by simp [z])) (fun z => hb (by simp [z])) q)) hf (Nat.le_refl _) new
    refine ⟨.ref s.heap.objs.size, _, I1, rfl, ⟨_, x, rfl, I.hok.fresh (Nat.le_refl _), rfl, fun ys hy => by rw [I.tuple_inj hy hq]; exact hx⟩, ⟨⟨x', ?_⟩, hit'.at fun o q => (sb.2 it (Ne.symm hne)).trans q, hne, nai, nae, hin⟩, fun b hb => ?_⟩
    · have e1 : k + ((i + 1 : Nat) : Int) = k + (i : Int) + 1 := by omega
      rw [e1]
      exact he'
    · have hb' : b < s.heap.objs.size := by
        have e' : b = e ∨ b = it := by simpa using hb
        rcases e' with z | z
        · rw [z]; exact hel
        · rw [z]; exact hil
      rw [upd_ne (Nat.ne_of_lt hb')]
      exact (hf b hb).1
  done := by
    intro X hP hw hK hc i pins s σ H E I hf st hg
    subst hP hw hK
    obtain ⟨⟨old, he⟩, hit, hne, nai, nae, hin⟩ := st
    obtain ⟨hni, xs, hq, hx⟩ := hg
    obtain ⟨its, rv, p, hz⟩ := I.tuple hq
    obtain ⟨f0, f1, f2, f3, f4, f5⟩ := hf it (by simp)
    have hl := rv.length
    have D := Draws.tuple (prog := X.prog) (w := X.w) (A := X.A.in1) (I.ok.hd hc) it a nai its.toArray
    have en : its.toArray.size = i := by simp; omega
    exact wpAny_pyNext_enum_endD D he (by rw [en]; exact ⟨hit, p⟩) fun h' eb => ⟨rfl, I.turned (t' := s.toks) (fun b o hb q => eb b o hb q) f0 f1 f3 f4 f5⟩
  self := fun A i s Q E st h => let ⟨⟨_, he⟩, _⟩ := st; wpAny_pyIter_enum he h
def iEnT (K : PySem.W.Frag) (ta : TA) : TI := fun σ H R => ta σ H fun vs H1 => ∃ a xs k, (vs = [.ref a] ∧ k = 0 ∨ vs = [.ref a, .int k] ∧ -(2 ^ 63) ≤ k ∧ k < 2 ^ 63) ∧ SqT K H1 a xs ∧ R (ItNT K a k xs.length) H1
theorem en_fin_T {X : Cx} {tpos : Pos} {elts : List Expr} {kk : Nat} {pins : List (Addr × Obj)} {σ : St} {H1 : Hp} {s1 : Shared} {R : It → Hp → Prop} {a : Addr} {xs : List V} {k : Int} {h' : Heap} (I1 : Inv X pins σ H1 s1) (al : a < s1.heap.objs.size) (he : IsEnum h' (s1.heap.objs.size + 1) s1.heap.objs.size k .none)
    (hit : h'.get? s1.heap.objs.size = some { cls := .type "tuple_iterator", data := .fields #[.ref a, .int 0 0] }) (hk : ∀ b o, s1.heap.get? b = some o → h'.get? b = some o) (q : R (ItNT X.K a k xs.length) H1) :
    wpAny (model X.prog X.w) X.A (pyIter (.ref (s1.heap.objs.size + 1))) (PIE X pins σ (.Tuple elts kk tpos) R) X.xe { s1 with heap := h' } := by
  refine wpAny_pyIter_enum he ?_
  have I2 : Inv X pins σ H1 { s1 with heap := h' } := I1.kept (t' := s1.toks) hk
  refine ⟨s1.heap.objs.size + 1, [s1.heap.objs.size + 1, s1.heap.objs.size], _, _, H1, rfl, I2, turn_nT a (s1.heap.objs.size + 1) s1.heap.objs.size k xs.length, ⟨⟨.none, ?_⟩, ⟨_, hit, rfl, rfl⟩, Nat.succ_ne_self _, Nat.ne_of_lt al, Nat.ne_of_lt (Nat.lt_succ_of_lt al), Nat.zero_le _⟩, fun b hb => ?_, q⟩
  · have e0 : k + ((0 : Nat) : Int) = k := by simp
    rw [e0]
    exact he
  have e' : b = s1.heap.objs.size + 1 ∨ b = s1.heap.objs.size := by simpa using hb
  have hle : s1.heap.objs.size ≤ b := by
    rcases e' with z | z
    · rw [z]; exact Nat.le_add_right _ _
    · rw [z]; exact Nat.le_refl _
  exact I1.fpOk hle (I1.hok.fresh hle)
theorem pi_enT {X : Cx} {e : Expr} {ta : TA} {p pos tpos : Pos} {elts : List Expr} {kk : Nat} (hg : Gl X "enumerate") (hm : X.mg "enumerate" = none) (ha : PA X [e] ta) (hs : starEach [e] X.env = [(false, eval e X.env)] := by rfl) :
    PI X (.Tuple elts kk tpos) (.Call (.Name "enumerate" p) [e] [] pos) (iEnT X.K ta) := by
  refine ⟨fun pins s σ H R I h => ?_⟩
  refine Call_ (ld_blt I hg hm boot_enumerate (PyProof.Rows.callWith_type1 (thn (ha.run pos pins s σ H _ I h) fun us s1 ⟨vs, H1, I1, r1, q1⟩ => ?_) hs rfl))
  obtain ⟨a, xs, k, ex, hq, q⟩ := q1
  rcases ex with ⟨ex, rfl⟩ | ⟨ex, _, _⟩
  · subst ex
    cases r1 with
    | cons r rr =>
      cases rr
      cases r
      obtain ⟨its, rv, p', hz⟩ := I1.tuple hq
      have al : a < s1.heap.objs.size := by
        obtain ⟨o1, ho1, _⟩ := id p'
        exact Heap.lt_size ho1
      exact enum_begins1 (begins_tuple a its.toArray) p' fun h' he hit hsz hk => en_fin_T I1 al he hit hk q
  · subst ex
    cases r1 with
    | cons r rr =>
      cases rr with
      | cons r' rr =>
        cases rr
        cases r
        obtain ⟨tk, rfl⟩ := r'
        obtain ⟨its, rv, p', hz⟩ := I1.tuple hq
        have al : a < s1.heap.objs.size := by
          obtain ⟨o1, ho1, _⟩ := id p'
          exact Heap.lt_size ho1
        exact enum_begins (begins_tuple a its.toArray) p' (by assumption) (by assumption) fun h' he hit hsz hk => en_fin_T I1 al he hit hk q
theorem pi_enT2 {X : Cx} {e e2 : Expr} {ta : TA} {p pos tpos : Pos} {elts : List Expr} {kk : Nat} (hg : Gl X "enumerate") (hm : X.mg "enumerate" = none) (ha : PA X [e, e2] ta)
    (hs : starEach [e, e2] X.env = (false, eval e X.env) :: starEach [e2] X.env := by rfl) (hpl : (backTo pos (starEach [e2] X.env)).any (·.1) = false := by rfl) :
    PI X (.Tuple elts kk tpos) (.Call (.Name "enumerate" p) [e, e2] [] pos) (iEnT X.K ta) := by
  refine ⟨fun pins s σ H R I h => ?_⟩
  refine Call_ (ld_blt I hg hm boot_enumerate (PyProof.Rows.callWith_type1 (thn (ha.run pos pins s σ H _ I h) fun us s1 ⟨vs, H1, I1, r1, q1⟩ => ?_) hs hpl))
  obtain ⟨a, xs, k, ex, hq, q⟩ := q1
  rcases ex with ⟨ex, rfl⟩ | ⟨ex, _, _⟩
  · subst ex
    cases r1 with
    | cons r rr =>
      cases rr
      cases r
      obtain ⟨its, rv, p', hz⟩ := I1.tuple hq
      have al : a < s1.heap.objs.size := by
        obtain ⟨o1, ho1, _⟩ := id p'
        exact Heap.lt_size ho1
      exact enum_begins1 (begins_tuple a its.toArray) p' fun h' he hit hsz hk => en_fin_T I1 al he hit hk q
  · subst ex
    cases r1 with
    | cons r rr =>
      cases rr with
      | cons r' rr =>
        cases rr
        cases r
        obtain ⟨tk, rfl⟩ := r'
        obtain ⟨its, rv, p', hz⟩ := I1.tuple hq
        have al : a < s1.heap.objs.size := by
          obtain ⟨o1, ho1, _⟩ := id p'
          exact Heap.lt_size ho1
        exact enum_begins (begins_tuple a its.toArray) p' (by assumption) (by assumption) fun h' he hit hsz hk => en_fin_T I1 al he hit hk q
/-- the list at a (n items), each item in a new pair with its count from k -/
def ItNL (K : PySem.W.Frag) (a : Addr) (k : Int) (n : Nat) : It :=
  ⟨fun i H => i < n ∧ ∃ (xs : List V) (x : V), SqL K H a xs ∧ xs.length = n ∧ xs[i]? = some x,
    fun i H v H' => ∃ T x, v = .ref T ∧ H T = none ∧ H' = upd H T (.tup [.int (k + (i : Nat)), x]) ∧ ∀ xs, SqL K H a xs → xs[i]? = some x,
    fun i H => n ≤ i ∧ ∃ xs : List V, SqL K H a xs ∧ xs.length = n⟩
theorem turn_nL {P : Program} {w : World} {K : PySem.W.Frag} {elts : List Expr} {kk : Nat} {tpos : Pos} (a e it : Addr) (k : Int) (n : Nat) :
    Turn P w K (.Tuple elts kk tpos) (ItNL K a k n) [e, it] e (fun i h => (∃ old, IsEnum h e it (k + (i : Nat)) old) ∧ h.IsListIter it a i ∧ e ≠ it ∧ a ≠ it ∧ a ≠ e ∧ i ≤ n) where
  mem := by simp
  obj := fun i h st b hb => by
    obtain ⟨⟨old, he⟩, ⟨o, ho, hc, hd⟩, _⟩ := st
    have e' : b = e ∨ b = it := by simpa using hb
    rcases e' with z | z
    · rw [z]
      exact ⟨_, he, fun v q => nomatch q⟩
    · rw [z]
      exact ⟨o, ho, fun v q => by rw [hd] at q; cases q⟩
  keep := fun i h h' st k => let ⟨⟨old, he⟩, hi, hne⟩ := st; ⟨⟨old, k e (by simp) _ he⟩, hi.at fun o q => k it (by simp) o q, hne⟩
  item := by
    intro X hP hw hK hc i pins s σ H E I hf st hg
    subst hP hw hK
    obtain ⟨⟨old, he⟩, hit, hne, nai, nae, _⟩ := st
    obtain ⟨hin, xs, x, hq, hxn, hx⟩ := hg
    obtain ⟨its, rv, p, hz⟩ := I.list hq
    obtain ⟨u, hu, ru⟩ := rv.get hx
    have hil0 : i < its.length := (List.getElem?_eq_some_iff.mp hu).1
    have hel : e < s.heap.objs.size := Heap.lt_size he
    have hil : it < s.heap.objs.size := by obtain ⟨_, q, _⟩ := hit; exact Heap.lt_size q
    have D := Draws.list (prog := X.prog) (w := X.w) (A := X.A.in1) (I.ok.hd hc) it a nai its.toArray
    refine wpAny_pyNext_enum_itemC D he ⟨hit, p.isList⟩ (by simpa using hil0) hne (by simp [hne, Ne.symm nae]) fun x' h' tk hP ho hst hT hsz hk => ?_
    have hxu : x' = u := by
      have : its[i]? = some x' := by simpa using hP
      rw [hu] at this
      exact (Option.some.inj this).symm
    subst hxu
    obtain ⟨hit', _⟩ := hst
    refine ⟨_, rfl, wpAny_letOwnedTupleGo_enum (s := { s with heap := h', toks := tk + 1 }) ho fun h'' he' sb => ?_⟩
    have hT2 : h''.get? s.heap.objs.size = some { cls := .type "tuple", data := .seq #[.int (k + (i : Nat)) tk, x'] } := (sb.2 _ (Nat.ne_of_gt hel)).trans hT
    have new : ObjOk X.prog X.w (upd H s.heap.objs.size (.tup [.int (k + (i : Nat)), x])) h'' s.heap.objs.size (.tup [.int (k + (i : Nat)), x]) := ⟨by show 2 ≤ sizeLine; decide, [.int (k + (i : Nat)) tk, x'], .cons ⟨_, rfl⟩ (.cons ru .nil), ⟨_, hT2, rfl, _, rfl⟩⟩
    have I1 : Inv X pins σ (upd H s.heap.objs.size (.tup [.int (k + (i : Nat)), x])) { s with heap := h'', toks := tk + 1 } := I.turnedNew (ch := [e, it]) (fun b ob hb q => (sb.2 b (fun z => hb (by simp [z]))).trans (hk b ob (fun z => hb (by simp [z])) (fun z => hb (by simp [z])) q)) hf (Nat.le_refl _) new
    refine ⟨.ref s.heap.objs.size, _, I1, rfl, ⟨_, x, rfl, I.hok.fresh (Nat.le_refl _), rfl, fun ys hy => by rw [I.list_inj hy hq]; exact hx⟩, ⟨⟨x', ?_⟩, hit'.at fun o q => (sb.2 it (Ne.symm hne)).trans q, hne, nai, nae, hin⟩, fun b hb => ?_⟩
    · have e1 : k + ((i + 1 : Nat) : Int) = k + (i : Int) + 1 := by omega
      rw [e1]
      exact he'
    · have hb' : b < s.heap.objs.size := by
        have e' : b = e ∨ b = it := by simpa using hb
        rcases e' with z | z
        · rw [z]; exact hel
        · rw [z]; exact hil
      rw [upd_ne (Nat.ne_of_lt hb')]
      exact (hf b hb).1
  done := by
    intro X hP hw hK hc i pins s σ H E I hf st hg
    subst hP hw hK
    obtain ⟨⟨old, he⟩, hit, hne, nai, nae, hin⟩ := st
    obtain ⟨hni, xs, hq, hx⟩ := hg
    obtain ⟨its, rv, p, hz⟩ := I.list hq
    obtain ⟨f0, f1, f2, f3, f4, f5⟩ := hf it (by simp)
    have hl := rv.length
    have D := Draws.list (prog := X.prog) (w := X.w) (A := X.A.in1) (I.ok.hd hc) it a nai its.toArray
    have en : its.toArray.size = i := by simp; omega
    exact wpAny_pyNext_enum_endD D he (by rw [en]; exact ⟨hit, p.isList⟩) fun h' eb => ⟨rfl, I.turned (t' := s.toks) (fun b o hb q => eb b o hb q) f0 f1 f3 f4 f5⟩
  self := fun A i s Q E st h => let ⟨⟨_, he⟩, _⟩ := st; wpAny_pyIter_enum he h
def iEnL (K : PySem.W.Frag) (ta : TA) : TI := fun σ H R => ta σ H fun vs H1 => ∃ a xs k, (vs = [.ref a] ∧ k = 0 ∨ vs = [.ref a, .int k] ∧ -(2 ^ 63) ≤ k ∧ k < 2 ^ 63) ∧ SqL K H1 a xs ∧ R (ItNL K a k xs.length) H1
theorem en_fin_L {X : Cx} {tpos : Pos} {elts : List Expr} {kk : Nat} {pins : List (Addr × Obj)} {σ : St} {H1 : Hp} {s1 : Shared} {R : It → Hp → Prop} {a : Addr} {xs : List V} {k : Int} {h' : Heap} (I1 : Inv X pins σ H1 s1) (al : a < s1.heap.objs.size) (he : IsEnum h' (s1.heap.objs.size + 1) s1.heap.objs.size k .none)
    (hit : h'.get? s1.heap.objs.size = some { cls := .type "list_iterator", data := .fields #[.ref a, .int 0 0] }) (hk : ∀ b o, s1.heap.get? b = some o → h'.get? b = some o) (q : R (ItNL X.K a k xs.length) H1) :
    wpAny (model X.prog X.w) X.A (pyIter (.ref (s1.heap.objs.size + 1))) (PIE X pins σ (.Tuple elts kk tpos) R) X.xe { s1 with heap := h' } := by
  refine wpAny_pyIter_enum he ?_
  have I2 : Inv X pins σ H1 { s1 with heap := h' } := I1.kept (t' := s1.toks) hk
  refine ⟨s1.heap.objs.size + 1, [s1.heap.objs.size + 1, s1.heap.objs.size], _, _, H1, rfl, I2, turn_nL a (s1.heap.objs.size + 1) s1.heap.objs.size k xs.length, ⟨⟨.none, ?_⟩, ⟨_, hit, rfl, rfl⟩, Nat.succ_ne_self _, Nat.ne_of_lt al, Nat.ne_of_lt (Nat.lt_succ_of_lt al), Nat.zero_le _⟩, fun b hb => ?_, q⟩
  · have e0 : k + ((0 : Nat) : Int) = k := by simp
    rw [e0]
    exact he
  have e' : b = s1.heap.objs.size + 1 ∨ b = s1.heap.objs.size := by simpa using hb
  have hle : s1.heap.objs.size ≤ b := by
    rcases e' with z | z
    · rw [z]; exact Nat.le_add_right _ _
    · rw [z]; exact Nat.le_refl _
  exact I1.fpOk hle (I1.hok.fresh hle)
theorem pi_enL {X : Cx} {e : Expr} {ta : TA} {p pos tpos : Pos} {elts : List Expr} {kk : Nat} (hg : Gl X "enumerate") (hm : X.mg "enumerate" = none) (ha : PA X [e] ta) (hs : starEach [e] X.env = [(false, eval e X.env)] := by rfl) :
    PI X (.Tuple elts kk tpos) (.Call (.Name "enumerate" p) [e] [] pos) (iEnL X.K ta) := by
  refine ⟨fun pins s σ H R I h => ?_⟩
  refine Call_ (ld_blt I hg hm boot_enumerate (PyProof.Rows.callWith_type1 (thn (ha.run pos pins s σ H _ I h) fun us s1 ⟨vs, H1, I1, r1, q1⟩ => ?_) hs rfl))
  obtain ⟨a, xs, k, ex, hq, q⟩ := q1
  rcases ex with ⟨ex, rfl⟩ | ⟨ex, _, _⟩
  · subst ex
    cases r1 with
    | cons r rr =>
      cases rr
      cases r
      obtain ⟨its, rv, p', hz⟩ := I1.list hq
      have al : a < s1.heap.objs.size := by
        obtain ⟨o1, ho1, _⟩ := id p'.isList
        exact Heap.lt_size ho1
      exact enum_begins1 (begins_list a its.toArray) p'.isList fun h' he hit hsz hk => en_fin_L I1 al he hit hk q
  · subst ex
    cases r1 with
    | cons r rr =>
      cases rr with
      | cons r' rr =>
        cases rr
        cases r
        obtain ⟨tk, rfl⟩ := r'
        obtain ⟨its, rv, p', hz⟩ := I1.list hq
        have al : a < s1.heap.objs.size := by
          obtain ⟨o1, ho1, _⟩ := id p'.isList
          exact Heap.lt_size ho1
        exact enum_begins (begins_list a its.toArray) p'.isList (by assumption) (by assumption) fun h' he hit hsz hk => en_fin_L I1 al he hit hk q
theorem pi_enL2 {X : Cx} {e e2 : Expr} {ta : TA} {p pos tpos : Pos} {elts : List Expr} {kk : Nat} (hg : Gl X "enumerate") (hm : X.mg "enumerate" = none) (ha : PA X [e, e2] ta)
    (hs : starEach [e, e2] X.env = (false, eval e X.env) :: starEach [e2] X.env := by rfl) (hpl : (backTo pos (starEach [e2] X.env)).any (·.1) = false := by rfl) :
    PI X (.Tuple elts kk tpos) (.Call (.Name "enumerate" p) [e, e2] [] pos) (iEnL X.K ta) := by
  refine ⟨fun pins s σ H R I h => ?_⟩
  refine Call_ (ld_blt I hg hm boot_enumerate (PyProof.Rows.callWith_type1 (thn (ha.run pos pins s σ H _ I h) fun us s1 ⟨vs, H1, I1, r1, q1⟩ => ?_) hs hpl))
  obtain ⟨a, xs, k, ex, hq, q⟩ := q1
  rcases ex with ⟨ex, rfl⟩ | ⟨ex, _, _⟩
  · subst ex
    cases r1 with
    | cons r rr =>
      cases rr
      cases r
      obtain ⟨its, rv, p', hz⟩ := I1.list hq
      have al : a < s1.heap.objs.size := by
        obtain ⟨o1, ho1, _⟩ := id p'.isList
        exact Heap.lt_size ho1
      exact enum_begins1 (begins_list a its.toArray) p'.isList fun h' he hit hsz hk => en_fin_L I1 al he hit hk q
  · subst ex
    cases r1 with
    | cons r rr =>
      cases rr with
      | cons r' rr =>
        cases rr
        cases r
        obtain ⟨tk, rfl⟩ := r'
        obtain ⟨its, rv, p', hz⟩ := I1.list hq
        have al : a < s1.heap.objs.size := by
          obtain ⟨o1, ho1, _⟩ := id p'.isList
          exact Heap.lt_size ho1
        exact enum_begins (begins_list a its.toArray) p'.isList (by assumption) (by assumption) fun h' he hit hsz hk => en_fin_L I1 al he hit hk q
def enumF (k : Int) : List W → List W
  | [] => []
  | w :: ws => .tup [.int k, w] :: enumF (k + 1) ws
theorem enumF_get : ∀ (ws : List W) (k : Int) (i : Nat), (enumF k ws)[i]? = (ws[i]?).map fun w => .tup [.int (k + (i : Nat)), w]
  | [], k, i => by simp [enumF]
  | w :: ws, k, 0 => by simp [enumF]
  | w :: ws, k, i + 1 => by
    have e : k + 1 + (i : Int) = k + ((i + 1 : Nat) : Int) := by omega
    simp only [enumF, List.getElem?_cons_succ, enumF_get ws (k + 1) i, e]
theorem enumF_length : ∀ (ws : List W) (k : Int), (enumF k ws).length = ws.length
  | [], k => rfl
  | w :: ws, k => by simp [enumF, enumF_length ws (k + 1)]
def zipF : List W → List W → List W
  | w :: ws, u :: us => .tup [w, u] :: zipF ws us
  | _, _ => []
theorem zipF_get : ∀ (ws us : List W) (i : Nat) (x : W), (zipF ws us)[i]? = some x → ∃ w u, ws[i]? = some w ∧ us[i]? = some u ∧ x = .tup [w, u]
  | [], us, i, x, h => by simp [zipF] at h
  | w :: ws, [], i, x, h => by simp [zipF] at h
  | w :: ws, u :: us, 0, x, h => by
    simp [zipF] at h
    exact ⟨w, u, rfl, rfl, h.symm⟩
  | w :: ws, u :: us, i + 1, x, h => by
    simp only [zipF, List.getElem?_cons_succ] at h
    exact zipF_get ws us i x h
theorem zipF_length : ∀ (ws us : List W), (zipF ws us).length = min ws.length us.length
  | [], us => by simp [zipF]
  | w :: ws, [] => by simp [zipF]
  | w :: ws, u :: us => by simp [zipF, zipF_length ws us]
def enW : List W → T (List W)
  | [.tup ws] => .ok (enumF 0 ws)
  | [.lst ws] => .ok (enumF 0 ws)
  | [.tup ws, .int k] => if rngOk k then .ok (enumF k ws) else .bad
  | [.lst ws, .int k] => if rngOk k then .ok (enumF k ws) else .bad
  | _ => .bad
def isT : List W → Bool
  | .tup _ :: _ => true
  | _ => false
def enT (xs : List W) : T (List W) := if isT xs then enW xs else .bad
def enL (xs : List W) : T (List W) := if isT xs then .bad else enW xs
def zpW : List W → T (List W)
  | [.tup ws, .tup us] => .ok (zipF ws us)
  | [.lst ws, .lst us] => .ok (zipF ws us)
  | _ => .bad
section
variable {K : PySem.W.Frag} {c : Cc} {d : Dw} {H H1 : Hp}
theorem new_pair {c : Cc} {d : Dw} {H : Hp} {T : Addr} {a b : W} {x y : V} (wd : Wd c d H) (hT : H T = none) (ra : Rep K c H a x) (rb : Rep K c H b y) :
    SG c c H (upd H T (.tup [x, y])) ∧ StOk c d (upd H T (.tup [x, y])) ∧ Rep K c (upd H T (.tup [x, y])) (.tup [a, b]) (.ref T) :=
  ⟨.new hT, wd.st.new hT, .tup (SqT.of upd_same) (.cons (ra.step (.new hT) wd.st wd.ok) (.cons (rb.step (.new hT) wd.st wd.ok) .nil))⟩
theorem it_enT {a : Addr} {vs : List V} {ws : List W} (k : Int) (hq : SqT K H a vs) (rl : RepL K c H ws vs) : ItOk K c H (ItNT K a k vs.length) (enumF k ws) := fun c' H' d' i fw wd => by
  have hq' : SqT K H' a vs := fw.sq a vs hq
  refine ⟨fun w hw => ?_, fun hi => ?_⟩
  · rw [enumF_get] at hw
    cases hu : ws[i]? with
    | none =>
      rw [hu] at hw
      cases hw
    | some u =>
      rw [hu] at hw
      cases hw
      obtain ⟨v, hv, rv⟩ := rl.get hu
      refine ⟨⟨(List.getElem?_eq_some_iff.mp hv).1, vs, v, hq', rfl, hv⟩, fun x H2 y => ?_⟩
      obtain ⟨T, x', rfl, hT, rfl, y⟩ := y
      have ex := y vs hq'
      rw [hv] at ex
      cases ex
      exact new_pair wd hT (.int _) (fw.rep _ _ rv)
  · rw [enumF_length, rl.length] at hi
    exact ⟨hi, vs, hq', rfl⟩
theorem it_enL {a : Addr} {vs : List V} {ws : List W} (k : Int) (ok : CcOk c) (mo : MOk c H) (n : a ∉ c.A) (hq : H a = some (.lst vs)) (rl : RepL K c H ws vs) : ItOk K c H (ItNL K a k vs.length) (enumF k ws) := fun c' H' d' i fw wd => by
  have hq' : SqL K H' a vs := SqL.of (fw.step _ _ hq (ok.neS n) (ok.nela n) (fun z => n (mo.inA _ z)) nofun)
  refine ⟨fun w hw => ?_, fun hi => ?_⟩
  · rw [enumF_get] at hw
    cases hu : ws[i]? with
    | none =>
      rw [hu] at hw
      cases hw
    | some u =>
      rw [hu] at hw
      cases hw
      obtain ⟨v, hv, rv⟩ := rl.get hu
      refine ⟨⟨(List.getElem?_eq_some_iff.mp hv).1, vs, v, hq', rfl, hv⟩, fun x H2 y => ?_⟩
      obtain ⟨T, x', rfl, hT, rfl, y⟩ := y
      have ex := y vs hq'
      rw [hv] at ex
      cases ex
      exact new_pair wd hT (.int _) (fw.rep _ _ rv)
  · rw [enumF_length, rl.length] at hi
    exact ⟨hi, vs, hq', rfl⟩
theorem it_zpT {a b : Addr} {vs us : List V} {ws zs : List W} (hq : SqT K H a vs) (rl : RepL K c H ws vs) (hp : SqT K H b us) (rm : RepL K c H zs us) : ItOk K c H (RZ.ItzT K a b) (zipF ws zs) := fun c' H' d' i fw wd => by
  have hq' : SqT K H' a vs := fw.sq a vs hq
  have hp' : SqT K H' b us := fw.sq b us hp
  refine ⟨fun w hw => ?_, fun hi => ?_⟩
  · obtain ⟨w1, w2, h1, h2, rfl⟩ := zipF_get _ _ _ _ hw
    obtain ⟨v, hv, rv⟩ := rl.get h1
    obtain ⟨u, hu, ru⟩ := rm.get h2
    refine ⟨⟨vs, us, v, u, hq', hp', hv, hu⟩, fun x H2 y => ?_⟩
    obtain ⟨T, x', y', rfl, hT, rfl, y1, y2⟩ := y
    have ex := y1 vs hq'
    have ey := y2 us hp'
    rw [hv] at ex
    rw [hu] at ey
    cases ex
    cases ey
    exact new_pair wd hT (fw.rep _ _ rv) (fw.rep _ _ ru)
  · rw [zipF_length, rl.length, rm.length] at hi
    exact ⟨vs, us, hq', hp', by omega⟩
theorem it_zpL {a b : Addr} {vs us : List V} {ws zs : List W} (ok : CcOk c) (mo : MOk c H) (na : a ∉ c.A) (hq : H a = some (.lst vs)) (rl : RepL K c H ws vs) (nb : b ∉ c.A) (hp : H b = some (.lst us)) (rm : RepL K c H zs us) : ItOk K c H (Itz K a b) (zipF ws zs) := fun c' H' d' i fw wd => by
  have hq' : SqL K H' a vs := SqL.of (fw.step _ _ hq (ok.neS na) (ok.nela na) (fun z => na (mo.inA _ z)) nofun)
  have hp' : SqL K H' b us := SqL.of (fw.step _ _ hp (ok.neS nb) (ok.nela nb) (fun z => nb (mo.inA _ z)) nofun)
  refine ⟨fun w hw => ?_, fun hi => ?_⟩
  · obtain ⟨w1, w2, h1, h2, rfl⟩ := zipF_get _ _ _ _ hw
    obtain ⟨v, hv, rv⟩ := rl.get h1
    obtain ⟨u, hu, ru⟩ := rm.get h2
    refine ⟨⟨vs, us, v, u, hq', hp', hv, hu⟩, fun x H2 y => ?_⟩
    obtain ⟨T, x', y', rfl, hT, rfl, y1, y2⟩ := y
    have ex := y1 vs hq'
    have ey := y2 us hp'
    rw [hv] at ex
    rw [hu] at ey
    cases ex
    cases ey
    exact new_pair wd hT (fw.rep _ _ rv) (fw.rep _ _ ru)
  · rw [zipF_length, rl.length, rm.length] at hi
    exact ⟨vs, us, hq', hp', by omega⟩
end
section
variable {X : Cx} {E : WX} {e e2 : Expr} {fs : En → T (List W)} {p pos tpos : Pos} {elts : List Expr} {kk : Nat}
theorem enT_lift {ta : TA} (hl : ta = liftA X.K Γ E fs) : ∀ σ H R, liftI X.K Γ E (iL enT fs) σ H R → iEnT X.K ta σ H R := fun σ H R q => by
  subst hl
  obtain ⟨c, d, oa, ρ, e, q⟩ := q
  refine liftA_then (P := fun c H => PJ X.K c H R) e q (fun st p => p.later st) fun w v H1 d1 _ r1 e1 h1 => ?_
  cases r1 with
  | nil => exact h1.elim
  | cons r rr =>
    cases r with
    | tup hq rl =>
      cases rr with
      | nil => exact ⟨_, _, 0, .inl ⟨rfl, rfl⟩, hq, PJ.now e1.wd h1 (it_enT 0 hq rl)⟩
      | cons r2 rr =>
        cases rr with
        | cons _ _ => cases r2 <;> exact h1.elim
        | nil =>
          cases r2 with
          | int k =>
            obtain ⟨hb, h1⟩ := T.AllW.ite (show (if rngOk k then T.ok (enumF k _) else .bad).AllW _ _ _ from h1)
            exact ⟨_, _, k, .inr ⟨rfl, by have := rngOk_of hb; omega, by have := rngOk_of hb; omega⟩, hq, PJ.now e1.wd h1 (it_enT k hq rl)⟩
          | _ => exact h1.elim
    | _ => exact h1.elim
theorem enL_lift {ta : TA} (hl : ta = liftA X.K Γ E fs) : ∀ σ H R, liftI X.K Γ E (iL enL fs) σ H R → iEnL X.K ta σ H R := fun σ H R q => by
  subst hl
  obtain ⟨c, d, oa, ρ, e, q⟩ := q
  refine liftA_then (P := fun c H => PJ X.K c H R) e q (fun st p => p.later st) fun w v H1 d1 _ r1 e1 h1 => ?_
  cases r1 with
  | nil => exact h1.elim
  | cons r rr =>
    cases r with
    | lst n hq rl =>
      cases rr with
      | nil => exact ⟨_, _, 0, .inl ⟨rfl, rfl⟩, SqL.of hq, PJ.now e1.wd h1 (it_enL 0 e1.ok e1.m n hq rl)⟩
      | cons r2 rr =>
        cases rr with
        | cons _ _ => cases r2 <;> exact h1.elim
        | nil =>
          cases r2 with
          | int k =>
            obtain ⟨hb, h1⟩ := T.AllW.ite (show (if rngOk k then T.ok (enumF k _) else .bad).AllW _ _ _ from h1)
            exact ⟨_, _, k, .inr ⟨rfl, by have := rngOk_of hb; omega, by have := rngOk_of hb; omega⟩, SqL.of hq, PJ.now e1.wd h1 (it_enL k e1.ok e1.m n hq rl)⟩
          | _ => exact h1.elim
    | _ => exact h1.elim
theorem tri_enT (hg : Gl X "enumerate") (hm : X.mg "enumerate" = none) (ha : TrA Γ X E [e] fs) (hs : starEach [e] X.env = [(false, eval e X.env)] := by rfl) : TrI Γ X E (.Tuple elts kk tpos) (.Call (.Name "enumerate" p) [e] [] pos) (iL enT fs) := pi_imp (pi_enT hg hm ha hs) (enT_lift rfl)
theorem tri_enL (hg : Gl X "enumerate") (hm : X.mg "enumerate" = none) (ha : TrA Γ X E [e] fs) (hs : starEach [e] X.env = [(false, eval e X.env)] := by rfl) : TrI Γ X E (.Tuple elts kk tpos) (.Call (.Name "enumerate" p) [e] [] pos) (iL enL fs) := pi_imp (pi_enL hg hm ha hs) (enL_lift rfl)
theorem tri_enT2 (hg : Gl X "enumerate") (hm : X.mg "enumerate" = none) (ha : TrA Γ X E [e, e2] fs) (hs : starEach [e, e2] X.env = (false, eval e X.env) :: starEach [e2] X.env := by rfl) (hpl : (backTo pos (starEach [e2] X.env)).any (·.1) = false := by rfl) : TrI Γ X E (.Tuple elts kk tpos) (.Call (.Name "enumerate" p) [e, e2] [] pos) (iL enT fs) := pi_imp (pi_enT2 hg hm ha hs hpl) (enT_lift rfl)
theorem tri_enL2 (hg : Gl X "enumerate") (hm : X.mg "enumerate" = none) (ha : TrA Γ X E [e, e2] fs) (hs : starEach [e, e2] X.env = (false, eval e X.env) :: starEach [e2] X.env := by rfl) (hpl : (backTo pos (starEach [e2] X.env)).any (·.1) = false := by rfl) : TrI Γ X E (.Tuple elts kk tpos) (.Call (.Name "enumerate" p) [e, e2] [] pos) (iL enL fs) := pi_imp (pi_enL2 hg hm ha hs hpl) (enL_lift rfl)
theorem tri_zip (hg : Gl X "zip") (hm : X.mg "zip" = none) (ha : TrA Γ X E [e, e2] fs) (hs : starEach [e, e2] X.env = (false, eval e X.env) :: starEach [e2] X.env := by rfl) (hpl : (backTo pos (starEach [e2] X.env)).any (·.1) = false := by rfl) :
    TrI Γ X E (.Tuple elts kk tpos) (.Call (.Name "zip" p) [e, e2] [] pos) (iL zpW fs) := pi_imp (RZ.pi_zipA hg hm ha hs hpl) fun σ H R q => by
  obtain ⟨c, d, oa, ρ, e, q⟩ := q
  refine liftA_then (P := fun c H => PJ X.K c H R) e q (fun st p => p.later st) fun w v H1 d1 _ r1 e1 h1 => ?_
  cases r1 with
  | nil => exact h1.elim
  | cons r rr =>
    cases rr with
    | nil => cases r <;> exact h1.elim
    | cons r2 rr =>
      cases rr with
      | cons _ _ => cases r <;> cases r2 <;> exact h1.elim
      | nil =>
        cases r with
        | tup hq rl =>
          cases r2 with
          | tup hp rm => exact ⟨_, _, _, _, rfl, .inr ⟨hq, hp, PJ.now e1.wd h1 (it_zpT hq rl hp rm)⟩⟩
          | _ => exact h1.elim
        | lst n hq rl =>
          cases r2 with
          | lst n2 hp rm => exact ⟨_, _, _, _, rfl, .inl ⟨SqL.of hq, SqL.of hp, PJ.now e1.wd h1 (it_zpL e1.ok e1.m n hq rl n2 hp rm)⟩⟩
          | _ => exact h1.elim
        | _ => cases r2 <;> exact h1.elim
end
end PF
namespace PF
open PySem PySem.Spec PyProof.Rows L2
section
variable {X : Cx}
theorem callR_or {f : Value} {r r' : List V → Hp → VK → Prop} (h1 : CallR X f r) (h2 : CallR X f r') : CallR X f (fun vs H Q => r vs H Q ∨ r' vs H Q) := fun pins s σ H xs us Q I rv h => h.elim (h1 pins s σ H xs us Q I rv) (h2 pins s σ H xs us Q I rv)
theorem opR_or {f : Value → Value → Sem Value} {r r' : R2} (h1 : OpR X f r) (h2 : OpR X f r') : OpR X f (fun x y H Q => r x y H Q ∨ r' x y H Q) := fun pins s σ H x y v u Q I rx ry h => h.elim (h1 pins s σ H x y v u Q I rx ry) (h2 pins s σ H x y v u Q I rx ry)
def rSumT (K : PySem.W.Frag) : List V → Hp → VK → Prop := fun vs H Q => ∃ (a : Addr) (ns : List Int), vs = [V.ref a] ∧ SqT K H a (ns.map V.int) ∧ Q (.int ns.sum) H
theorem cr_sumT (hc : X.calm = true) : CallR X (.builtin "sum") (rSumT X.K) := by
  intro pins s σ H vs us Q I r h
  obtain ⟨a, ns, rfl, hs, q⟩ := h
  obtain ⟨its, rv, hl, _⟩ := I.tuple hs
  rw [Vals.ref1 r]
  have hi := rv.ints
  obtain ⟨xs, e⟩ := hi.allInts.items
  have hn : numsOf (intItems xs).toList = ns := by rw [← e]; exact hi.numsOf
  rw [nums_intItems] at hn
  rw [e] at hl
  refine PySem.W.ktm_sumG (I.ok.hd hc) hl fun h' tk t' hk => ⟨.int _, H, I.kept hk, ⟨_, rfl⟩, ?_⟩
  rw [preSum_eq, List.take_of_length_le (by simp), hn]
  exact q
theorem slR_or {r r' : V → Option Int → Option Int → Hp → VK → Prop} (h1 : L2.SlR X r) (h2 : L2.SlR X r') : L2.SlR X (fun x l u H Q => r x l u H Q ∨ r' x l u H Q) := fun pins s σ H x v vl vu lo hi sl Q I rx hs pl pu h => h.elim (h1 pins s σ H x v vl vu lo hi sl Q I rx hs pl pu) (h2 pins s σ H x v vl vu lo hi sl Q I rx hs pl pu)
end
theorem tuple_mul1 (l : Addr) (items : Array Value) (n : Nat) (dd : Option Addr) (sl : Array (Option Value)) (u : Tok) :
    Meets (Builtin.«tuple.__mul__» ⟨[.ref l, .int 1 u], []⟩) (fun _ R s => s.heap.get? l = some { cls := .type "tuple", dict := dd, data := .seq items n, slots := sl } ∧ R (.ok (.ret (Value.ref l))) s) :=
  .of_wp fun prog w A R s h => by
    obtain ⟨hp, g, d, tk, os⟩ := s
    obtain ⟨hl, h⟩ := h
    have f1 := AutoSeq1.idx_int
    wp_walk using wpAny_loadPart' hl
    exact ⟨_, rfl, h⟩
def rRep1 (K : PySem.W.Frag) : R2 := fun x y H Q => ∃ l xs, x = .ref l ∧ y = .int 1 ∧ SqT K H l xs ∧ Q (.ref l) H
theorem op_rep1 {X : Cx} : OpR X (binaryOp .Mult) (rRep1 X.K) := by
  intro pins s σ H x y v u Q I rx ry h
  obtain ⟨l, xs, rfl, rfl, hT, q⟩ := h
  cases rx
  obtain ⟨t, rfl⟩ := ry
  obtain ⟨its, r, ⟨⟨cls, dd, data, sl⟩, ho, hc, n, hd⟩, hs⟩ := I.tuple hT
  simp only at hc hd
  subst hc hd
  exact wpAny_binaryOp_repeat_ref (T := "tuple") (U := "int") (by decide) ⟨_, ho, rfl⟩ (fun s' => typeIs_int s' 1 t) noFill_tuple_mul F.fills_int_mul F.slot_int_rmul repeat_tuple F.slot_int_index.lookup
    (call_meets F.slot_int_rmul (typeIs_int s 1 t) F.entry_int_rmul (F.args_int_rmul_2 _ _) (int_rmul_tuple 1 t l its.toArray n dd sl)
      ⟨ho, rfl, ⟨_, ho, rfl⟩, call_meets F.slot_tuple_mul ⟨_, ho, rfl⟩ F.entry_tuple_mul (F.args_tuple_mul_2 _ _) (tuple_mul1 l its.toArray n dd sl t) ⟨ho, ⟨.ref l, H, I, rfl, q⟩⟩⟩)
def intsW : List W → Option (List Int)
  | [] => some []
  | .int b :: ws => (intsW ws).map (b :: ·)
  | _ => none
theorem intsW_map : ∀ {ws : List W} {ns : List Int}, intsW ws = some ns → ws = ns.map W.int
  | [], ns, h => by
    cases h
    rfl
  | w :: ws, ns, h => by
    cases w with
    | int b =>
      simp only [intsW] at h
      cases e : intsW ws with
      | none =>
        rw [e] at h
        cases h
      | some ms =>
        rw [e] at h
        cases h
        rw [intsW_map e]
        rfl
    | _ => cases h
@[simp] theorem intsW_of : ∀ (ns : List Int), intsW (ns.map W.int) = some ns
  | [] => rfl
  | n :: ns => by simp [intsW, intsW_of ns]
def sumW : List W → T W
  | [.lst ws] => match intsW ws with
    | some ns => .ok (.int ns.sum)
    | none => .bad
  | [.tup ws] => match intsW ws with
    | some ns => .ok (.int ns.sum)
    | none => .bad
  | _ => .bad
def greatest : List Int → Int
  | [] => 0
  | n :: ns => ns.foldl max n
def least : List Int → Int
  | [] => 0
  | n :: ns => ns.foldl min n
def maxW : List W → T W
  | [.int i, .int j] => .ok (.int (if j > i then j else i))
  | [.lst ws] => match intsW ws with
    | some (n :: ns) => .ok (.int (greatest (n :: ns)))
    | _ => .bad
  | _ => .bad
def minW : List W → T W
  | [.int i, .int j] => .ok (.int (if j < i then j else i))
  | [.lst ws] => match intsW ws with
    | some (n :: ns) => .ok (.int (least (n :: ns)))
    | _ => .bad
  | _ => .bad
theorem foldl_max_ge : ∀ (ns : List Int) (n : Int), n ≤ ns.foldl max n ∧ (∀ y ∈ ns, y ≤ ns.foldl max n) ∧ (ns.foldl max n = n ∨ ns.foldl max n ∈ ns)
  | [], n => ⟨Int.le_refl _, fun y h => (by cases h), .inl rfl⟩
  | m :: ns, n => by
    obtain ⟨h1, h2, h3⟩ := foldl_max_ge ns (max n m)
    rw [List.foldl_cons]
    refine ⟨by omega, fun y hy => ?_, ?_⟩
    · rcases List.mem_cons.mp hy with rfl | hy
      · omega
      · exact h2 y hy
    · rcases h3 with h3 | h3
      · rw [h3]
        by_cases h : n ≤ m
        · exact .inr (by rw [Int.max_eq_right h]; exact List.mem_cons_self ..)
        · exact .inl (Int.max_eq_left (by omega))
      · exact .inr (List.mem_cons_of_mem _ h3)
theorem foldl_min_le : ∀ (ns : List Int) (n : Int), ns.foldl min n ≤ n ∧ (∀ y ∈ ns, ns.foldl min n ≤ y) ∧ (ns.foldl min n = n ∨ ns.foldl min n ∈ ns)
  | [], n => ⟨Int.le_refl _, fun y h => (by cases h), .inl rfl⟩
  | m :: ns, n => by
    obtain ⟨h1, h2, h3⟩ := foldl_min_le ns (min n m)
    rw [List.foldl_cons]
    refine ⟨by omega, fun y hy => ?_, ?_⟩
    · rcases List.mem_cons.mp hy with rfl | hy
      · omega
      · exact h2 y hy
    · rcases h3 with h3 | h3
      · rw [h3]
        by_cases h : m ≤ n
        · exact .inr (by rw [Int.min_eq_right h]; exact List.mem_cons_self ..)
        · exact .inl (Int.min_eq_left (by omega))
      · exact .inr (List.mem_cons_of_mem _ h3)
theorem greatest_is {ns : List Int} {m : Int} (h0 : 0 < ns.length) (h1 : m ∈ ns) (h2 : ∀ y, y ∈ ns → y ≤ m) : greatest ns = m := by
  cases ns with
  | nil => cases h1
  | cons n ns =>
    obtain ⟨a, b, c⟩ := foldl_max_ge ns n
    show ns.foldl max n = m
    have x1 : ns.foldl max n ≤ m := by
      rcases c with c | c
      · rw [c]
        exact h2 n (List.mem_cons_self ..)
      · exact h2 _ (List.mem_cons_of_mem _ c)
    have x2 : m ≤ ns.foldl max n := by
      rcases List.mem_cons.mp h1 with rfl | h1
      · exact a
      · exact b m h1
    omega
theorem least_is {ns : List Int} {m : Int} (h0 : 0 < ns.length) (h1 : m ∈ ns) (h2 : ∀ y, y ∈ ns → m ≤ y) : least ns = m := by
  cases ns with
  | nil => cases h1
  | cons n ns =>
    obtain ⟨a, b, c⟩ := foldl_min_le ns n
    show ns.foldl min n = m
    have x1 : m ≤ ns.foldl min n := by
      rcases c with c | c
      · rw [c]
        exact h2 n (List.mem_cons_self ..)
      · exact h2 _ (List.mem_cons_of_mem _ c)
    have x2 : ns.foldl min n ≤ m := by
      rcases List.mem_cons.mp h1 with rfl | h1
      · exact a
      · exact b m h1
    omega
def tupOfW : List W → T W
  | [.lst ws] => .ok (.tup ws)
  | [.tup ws] => .ok (.tup ws)
  | _ => .bad
def lstOfW : List W → T W
  | [.lst ws] => .ok (.lst ws)
  | [.tup ws] => .ok (.lst ws)
  | _ => .bad
section
variable {K : PySem.W.Frag}
theorem sem_sum : SemL K (fun vs H Q => rSum K vs H Q ∨ rSumT K vs H Q) sumW := fun c d H x v Q E' wd rx q => by
  cases rx with
  | nil => exact q.elim
  | cons r rr =>
    cases rr with
    | cons _ _ => cases r <;> exact q.elim
    | nil =>
      cases r with
      | lst n h rl =>
        simp only [sumW] at q
        split at q
        · rename_i ns hi
          rw [intsW_map hi] at rl
          rw [rl.ints] at h
          exact .inl ⟨_, ns, rfl, SqL.of h, PQ.now wd q (.int _)⟩
        · exact q.elim
      | tup h rl =>
        simp only [sumW] at q
        split at q
        · rename_i ns hi
          rw [intsW_map hi] at rl
          rw [rl.ints] at h
          exact .inr ⟨_, ns, rfl, h, PQ.now wd q (.int _)⟩
        · exact q.elim
      | _ => exact q.elim
theorem sem_max : SemL K (fun vs H Q => (∃ i j, vs = [.int i, .int j] ∧ Q (.int (if j > i then j else i)) H) ∨ rMax K vs H Q) maxW := fun c d H x v Q E' wd rx q => by
  cases rx with
  | nil => exact q.elim
  | cons r rr =>
    cases rr with
    | cons r2 rr =>
      cases rr with
      | cons _ _ => cases r <;> cases r2 <;> exact q.elim
      | nil => cases r <;> cases r2 <;> first | exact q.elim | exact .inl ⟨_, _, rfl, PQ.now wd q (.int _)⟩
    | nil =>
      cases r with
      | lst n h rl =>
        simp only [maxW] at q
        split at q
        · rename_i m ns hi
          rw [intsW_map hi] at rl
          rw [rl.ints] at h
          refine .inr ⟨_, m :: ns, rfl, SqL.of h, Nat.succ_pos _, fun z h1 h2 => ?_⟩
          rw [← greatest_is (ns := m :: ns) (Nat.succ_pos _) h1 h2]
          exact PQ.now wd q (.int _)
        · exact q.elim
      | _ => exact q.elim
theorem sem_min : SemL K (fun vs H Q => (∃ i j, vs = [.int i, .int j] ∧ Q (.int (if j < i then j else i)) H) ∨ rMin K vs H Q) minW := fun c d H x v Q E' wd rx q => by
  cases rx with
  | nil => exact q.elim
  | cons r rr =>
    cases rr with
    | cons r2 rr =>
      cases rr with
      | cons _ _ => cases r <;> cases r2 <;> exact q.elim
      | nil => cases r <;> cases r2 <;> first | exact q.elim | exact .inl ⟨_, _, rfl, PQ.now wd q (.int _)⟩
    | nil =>
      cases r with
      | lst n h rl =>
        simp only [minW] at q
        split at q
        · rename_i m ns hi
          rw [intsW_map hi] at rl
          rw [rl.ints] at h
          refine .inr ⟨_, m :: ns, rfl, SqL.of h, Nat.succ_pos _, fun z h1 h2 => ?_⟩
          rw [← least_is (ns := m :: ns) (Nat.succ_pos _) h1 h2]
          exact PQ.now wd q (.int _)
        · exact q.elim
      | _ => exact q.elim
theorem sem_tupOf : SemL K (fun xs H Q => ∃ p ys, xs = [.ref p] ∧ ((SqL K H p ys ∧ ∀ l, H l = none → Q (.ref l) (upd H l (.tup ys))) ∨ (SqT K H p ys ∧ Q (.ref p) H))) tupOfW := fun c d H x v Q E' wd rx q => by
  cases rx with
  | nil => exact q.elim
  | cons r rr =>
    cases rr with
    | cons _ _ => cases r <;> exact q.elim
    | nil =>
      cases r with
      | lst n h rl => exact ⟨_, _, rfl, .inl ⟨SqL.of h, fun l hl => q _ _ (.new hl) (wd.st.new hl) (.tup (SqT.of upd_same) (rl.step (.new hl) wd.st wd.ok))⟩⟩
      | tup h rl => exact ⟨_, _, rfl, .inr ⟨h, PQ.now wd q (.tup h rl)⟩⟩
      | _ => exact q.elim
theorem sem_lstOf : SemL K (fun xs H Q => ∃ p ys, xs = [.ref p] ∧ (SqL K H p ys ∨ SqT K H p ys) ∧ ∀ l, H l = none → Q (.ref l) (upd H l (.lst ys))) lstOfW := fun c d H x v Q E' wd rx q => by
  cases rx with
  | nil => exact q.elim
  | cons r rr =>
    cases rr with
    | cons _ _ => cases r <;> exact q.elim
    | nil =>
      cases r with
      | lst n h rl => exact ⟨_, _, rfl, .inl (SqL.of h), fun l hl => q _ _ (.new hl) (wd.st.new hl) (.lst (wd.fresh hl) upd_same (rl.step (.new hl) wd.st wd.ok))⟩
      | tup h rl => exact ⟨_, _, rfl, .inr h, fun l hl => q _ _ (.new hl) (wd.st.new hl) (.lst (wd.fresh hl) upd_same (rl.step (.new hl) wd.st wd.ok))⟩
      | _ => exact q.elim
def cutW (ws : List W) (lo hi : Option Int) : List W := (ws.drop (HT.sIx ws.length 0 lo)).take (HT.sIx ws.length ws.length hi - HT.sIx ws.length 0 lo)
theorem RepL.cut {c : Cc} {H : Hp} {ws : List W} {vs : List V} (r : RepL K c H ws vs) (lo hi : Option Int) : RepL K c H (cutW ws lo hi) (cutV vs lo hi) := by
  unfold cutW cutV
  rw [r.length]
  exact (r.drop _).take _
def slW (x : W) (lo hi : Option Int) : T W := match x with
  | .tup ws => .ok (.tup (cutW ws lo hi))
  | .lst ws => .ok (.lst (cutW ws lo hi))
  | _ => .bad
def pInt : W → T Int
  | .int i => .ok i
  | _ => .bad
def fSl (fa : En → T W) (fl fh : En → T (Option Int)) : En → T W := fun ρ => (fa ρ).bind fun x => (fl ρ).bind fun l => (fh ρ).bind fun u => slW x l u
def pNo : En → T (Option Int) := fun _ => .ok none
def pSome (f : En → T W) : En → T (Option Int) := fun ρ => (f ρ).bind fun x => (pInt x).bind fun i => .ok (some i)
def PO1 (c : Cc) (H : Hp) (Q : Option Int → Hp → Prop) : Dw → Option Int → Prop := fun d o => ∀ ⦃c' : Cc⦄ H', SG c c' H H' → StOk c' d H' → Q o H'
theorem PO1.later {c c1 : Cc} {H H1 : Hp} {Q : Option Int → Hp → Prop} {d : Dw} {o : Option Int} (s : SG c c1 H H1) (h : PO1 c H Q d o) : PO1 c1 H1 Q d o := fun _ H' st so => h H' (s.trans st) so
def liftO (K : PySem.W.Frag) (Γ : Cl) (E : WX) (f : En → T (Option Int)) : TO := fun σ H Q => ∃ c d oa ρ, EnvOk K Γ c d oa ρ σ H ∧ (f ρ).AllW (PO1 c H Q) (PX K c H fun cls dx H' => E cls dx σ H') d
def TrO (Γ : Cl) (X : Cx) (E : WX) (e : Option Expr) (f : En → T (Option Int)) : Prop := PO X e (liftO X.K Γ E f)
theorem po_imp {X : Cx} {e : Option Expr} {t t' : TO} (h : PO X e t) (i : ∀ σ H Q, t' σ H Q → t σ H Q) : PO X e t' := ⟨fun pins s σ H Q I q => h.run pins s σ H Q I (i σ H Q q)⟩
theorem tro_no {X : Cx} {E : WX} : TrO Γ X E none pNo := po_imp po_none fun σ H Q q => by
  obtain ⟨c, d, oa, ρ, e, q⟩ := q
  exact q H (.refl _ H) e.st
theorem tro_some {X : Cx} {E : WX} {e : Expr} {f : En → T W} (h : TrE Γ X E e f) : TrO Γ X E (some e) (pSome f) := po_imp (po_some h) fun σ H Q q => by
  obtain ⟨c, d, oa, ρ, e, q⟩ := q
  refine lift_then (P := fun c H => PO1 c H Q) e q (fun st p => p.later st) fun w v H1 d1 _ r1 e1 h1 => ?_
  cases r1 with
  | int i => exact ⟨i, rfl, h1 H1 (.refl _ H1) e1.st⟩
  | _ => exact h1.elim
theorem liftO_then {E : WX} {c : Cc} {d : Dw} {oa : Nat → Addr} {ρ : En} {σ : L2.St} {H : Hp} {β : Type} {fo : En → T (Option Int)} {P : Cc → Hp → Dw → β → Prop} {G : Option Int → T β} {R : Option Int → Hp → Prop} (e : EnvOk K Γ c d oa ρ σ H) (h : ((fo ρ).bind G).AllW (P c H) (PX K c H fun cls dx H' => E cls dx σ H') d)
    (lt : ∀ {c1 H1 d a}, SG c c1 H H1 → P c H d a → P c1 H1 d a) (go : ∀ {c1 : Cc} b H1 d1, SG c c1 H H1 → EnvOk K Γ c1 d1 oa ρ σ H1 → (G b).AllW (P c1 H1) (PX K c1 H1 fun cls dx H' => E cls dx σ H') d1 → R b H1) : liftO K Γ E fo σ H R := by
  refine ⟨c, d, oa, ρ, e, T.AllW.imp (fun d1 w x => ?_) (fun _ _ _ x => x) (T.allW_bind.mp h)⟩
  intro _ H1 st so
  exact go w H1 d1 st (e.step st so) (T.AllW.imp (fun _ _ y => lt st y) (fun _ _ _ y => y.later st) x)
theorem cut_all {ws : List W} {lo hi : Option Int} {n : Nat} (hn : ws.length = n) (h : HT.sIx n 0 lo = 0 ∧ HT.sIx n n hi = n) : cutW ws lo hi = ws := by
  unfold cutW
  rw [hn, h.1, h.2]
  simp [← hn]
theorem tr_slice {X : Cx} {E : WX} {e : Expr} {lo hi : Option Expr} {fa : En → T W} {fl fh : En → T (Option Int)} {pos p2 : Pos} (ha : TrE Γ X E e fa) (hl : TrO Γ X E lo fl) (hh : TrO Γ X E hi fh) : TrE Γ X E (.Subscript e (.Slice lo hi none p2) pos) (fSl fa fl fh) :=
  pe_imp (pe_slice (slR_or sl_tupA sl_list) ha hl hh) fun σ H Q q => by
  obtain ⟨c, d, oa, ρ, e, q⟩ := q
  refine lift_then (P := fun c H => PQ X.K c H Q) e q (fun st p => p.later st) fun w v H1 d1 st1 r1 e1 h1 => ?_
  refine liftO_then (P := fun c H => PQ X.K c H Q) e1 h1 (fun st p => p.later st) fun l H2 d2 st2 e2 h2 => ?_
  refine liftO_then (P := fun c H => PQ X.K c H Q) e2 h2 (fun st p => p.later st) @fun c3 u H3 d3 st3 e3 h3 => ?_
  have r3 := (r1.step st2 e1.st e1.ok).step st3 e2.st e2.ok
  cases r3 with
  | tup hq rl =>
    refine .inl ⟨_, _, rfl, hq, fun z => ?_, fun z p hp => ?_⟩
    · rw [← rl.length] at z
      have h4 : PQ X.K c3 H3 Q d3 (.tup (cutW _ l u)) := h3
      rw [cut_all rfl z] at h4
      exact PQ.now e3.wd h4 (.tup hq rl)
    · exact h3 _ _ (.new hp) (e3.st.new hp) (.tup (SqT.of upd_same) ((rl.cut l u).step (.new hp) e3.st e3.ok))
  | lst n hq rl => exact .inr ⟨_, _, rfl, SqL.of hq, fun p hp => h3 _ _ (.new hp) (e3.st.new hp) (.lst (e3.wd.fresh hp) upd_same ((rl.cut l u).step (.new hp) e3.st e3.ok))⟩
  | _ => exact h3.elim
def manyW (k : Nat) (ws : List W) : List W := (List.replicate k ws).flatten
theorem RepL.many {c : Cc} {H : Hp} {ws : List W} {vs : List V} (r : RepL K c H ws vs) : ∀ (k : Nat), RepL K c H (manyW k ws) (List.replicate k vs).flatten
  | 0 => by
    unfold manyW
    simp only [List.replicate_zero, List.flatten_nil]
    exact .nil
  | k + 1 => by
    have := RepL.many r k
    unfold manyW at *
    rw [List.replicate_succ, List.replicate_succ, List.flatten_cons, List.flatten_cons]
    exact r.append this
@[irreducible] def tmulOk (n : Nat) (k : Int) : Bool := decide (0 < n ∧ n ≤ 1000 ∧ 2 ≤ k ∧ k ≤ 1000)
@[irreducible] def lmulOk (n : Nat) (k : Int) : Bool := rngOk k && decide (n * k.toNat ≤ 16777216)
def mulT : W → W → T W
  | .tup ws, .int k => if tmulOk ws.length k then .ok (.tup (manyW k.toNat ws)) else .bad
  | _, _ => .bad
def mul1 : W → W → T W
  | .tup ws, .int 1 => .ok (.tup ws)
  | _, _ => .bad
def mulL : W → W → T W
  | .lst ws, .int k => if lmulOk ws.length k then .ok (.lst (manyW k.toNat ws)) else .bad
  | _, _ => .bad
theorem sem_mulT : Sem2 K (rRepT K) mulT := fun c d H x y v u Q E' wd rx ry q => by
  cases rx with
  | tup hq rl =>
    cases ry with
    | int k =>
      obtain ⟨h, q⟩ := T.AllW.ite q
      unfold tmulOk at h
      obtain ⟨h0, h1, h2, h3⟩ := of_decide_eq_true h
      refine ⟨_, k, _, rfl, rfl, hq, fun z => ?_, h2, h3, by rw [← rl.length]; exact h1, fun p hp => q _ _ (.new hp) (wd.st.new hp) (.tup (SqT.of upd_same) ((rl.many _).step (.new hp) wd.st wd.ok))⟩
      rw [rl.length, z] at h0
      cases h0
    | _ => exact q.elim
  | _ => cases ry <;> exact q.elim
theorem sem_mul1 : Sem2 K (rRep1 K) mul1 := fun c d H x y v u Q E' wd rx ry q => by
  cases rx with
  | tup hq rl =>
    cases ry with
    | int k =>
      unfold mul1 at q
      split at q
      · rename_i e1 e2
        cases e1
        cases e2
        exact ⟨_, _, rfl, rfl, hq, PQ.now wd q (.tup hq rl)⟩
      · exact q.elim
    | _ => exact q.elim
  | _ => cases ry <;> exact q.elim
theorem sem_mulL : Sem2 K rRep mulL := fun c d H x y v u Q E' wd rx ry q => by
  cases rx with
  | lst n hq rl =>
    cases ry with
    | int k =>
      obtain ⟨h, q⟩ := T.AllW.ite q
      unfold lmulOk at h
      obtain ⟨h0, h2⟩ := Bool.and_eq_true_iff.mp h
      obtain ⟨h0, h1⟩ := rngOk_of h0
      have h2 := of_decide_eq_true h2
      exact ⟨_, k, _, rfl, rfl, hq, by omega, by omega, by rw [← rl.length, sizeLine_eq]; exact h2, fun p hp => q _ _ (.new hp) (wd.st.new hp) (.lst (wd.fresh hp) upd_same ((rl.many _).step (.new hp) wd.st wd.ok))⟩
    | _ => exact q.elim
  | _ => cases ry <;> exact q.elim
end
end PF
namespace PF
open PySem PySem.Spec PyProof.Rows L2
abbrev Cc.mine (c : Cc) (D : Addr) : Cc := { c with A := D :: c.A, M := D :: c.M }
abbrev Cc.less (c : Cc) (D : Addr) : Cc := { c with A := c.A.filter (fun b => decide (b ≠ D)), M := c.M.filter (fun b => decide (b ≠ D)) }
section
variable {K : PySem.W.Frag} {c : Cc} {d : Dw} {oa : Nat → Addr} {ρ : En} {σ : L2.St} {H H' : Hp} {D : Addr} {i : Nat}
theorem Rep.mine {w : W} {v : V} (h : Rep K (c.more D) H w v) : Rep K (c.mine D) H w v := Rep.weak (c := c.mine D) (c1 := c.more D) rfl rfl (fun _ h => h) h
theorem RepL.mine {w : List W} {v : List V} (h : RepL K (c.more D) H w v) : RepL K (c.mine D) H w v := RepL.weak (c := c.mine D) (c1 := c.more D) rfl rfl (fun _ h => h) h
theorem st_ne (so : StOk c d H) (n : H D = none) : D ∉ [c.S, c.ca, c.la] := by
  obtain ⟨⟨cells, lefts, k, r, h1, h2, h3, _⟩, _⟩ := so
  simp only [List.mem_cons, not_or, List.not_mem_nil, not_false_eq_true, and_true]
  exact ⟨Ne.symm (ne_of_none h1 n), Ne.symm (ne_of_none h2 n), Ne.symm (ne_of_none h3 n)⟩
theorem StOk.mine {o : HO} (s : StOk c d H) (n : H D = none) : StOk (c.mine D) d (L2.upd H D o) := (s.more n).weak rfl rfl rfl rfl rfl rfl rfl (fun _ h => h) ⟨List.mem_cons_of_mem _ s.2.ok.inS, List.mem_cons_of_mem _ s.2.ok.inla, List.mem_cons_of_mem _ s.2.ok.inca⟩
/-- a list of the frame's own is laid -/
theorem EnvOk.mine {xs : List V} (e : EnvOk K Γ c d oa ρ σ H) (n : H D = none) : EnvOk K Γ (c.mine D) d oa ρ σ (L2.upd H D (.lst xs)) where
  ok := ⟨List.mem_cons_of_mem _ e.ok.inS, List.mem_cons_of_mem _ e.ok.inla, List.mem_cons_of_mem _ e.ok.inca⟩
  st := e.st.mine n
  av := (e.more n).av
  len := e.len
  val := fun i w h => by
    obtain ⟨v, h1, h2⟩ := e.val i w h
    exact ⟨v, h1, (h2.more n (.new n) e.st e.ok).mine⟩
  m := ⟨fun b hb => by
      rcases List.mem_cons.mp hb with rfl | hb
      · exact List.mem_cons_self ..
      · exact List.mem_cons_of_mem _ (e.m.inA b hb), fun b hb => by
      rcases List.mem_cons.mp hb with rfl | hb
      · exact st_ne (c := c) e.st n
      · exact e.m.nst b hb, fun b hb => by
      rcases List.mem_cons.mp hb with rfl | hb
      · exact ⟨_, upd_same, .inl ⟨_, rfl⟩⟩
      · obtain ⟨ys, h, w⟩ := e.m.ls b hb
        exact ⟨ys, by rw [upd_ne (ne_of_none h n)]; exact h, w⟩⟩
  own := fun i ws h => by
    obtain ⟨h1, h3, vs, h4, h5⟩ := e.own i ws h
    exact ⟨List.mem_cons_of_mem _ h1, h3, vs, by rw [upd_ne (ne_of_none h4 n)]; exact h4, (h5.more n (.new n) e.st e.ok).mine⟩
  inj := e.inj
  odc := fun i ws h => by
    obtain ⟨h1, h3, vs, h4, h5⟩ := e.odc i ws h
    exact ⟨List.mem_cons_of_mem _ h1, h3, vs, by rw [upd_ne (ne_of_none h4 n)]; exact h4, h5.1, (h5.2.more n (.new n) e.st e.ok).mine⟩
  ido := e.ido
  tT := e.tT
  cC := e.cC
  kK := e.kK
theorem Fwd.mine {o : HO} (n : H D = none) (wd : Wd c d H) : Fwd K c H (c.mine D) (L2.upd H D o) where
  S := rfl
  ca := rfl
  la := rfl
  T := rfl
  C := rfl
  KK := rfl
  O := List.prefix_rfl
  sub := fun b h _ => List.mem_cons_of_mem _ h
  fr := fun b h => by
    rcases List.mem_cons.mp h with rfl | h
    · have h0 := st_ne wd.st n
      simp only [List.mem_cons, not_or] at h0
      exact .inr ⟨wd.fresh n, h0.1, h0.2.2.1, n⟩
    · exact .inl h
  step := fun b o h _ _ _ _ => by
    rw [upd_ne (ne_of_none h n)]
    exact h
  tbl := fun b ps h _ => ⟨#[], by rw [upd_ne (ne_of_none h n), h]; simp⟩
  rep := fun w v r => (r.more n (.new n) wd.st wd.ok).mine
  sq := fun a vs h => (Step.new (c := c) n).sqT wd.st h
  ins := fun b C dx fs h _ => ⟨fs, by rw [upd_ne (ne_of_none h n)]; exact h⟩
/-- a slot takes a list of the frame's own -/
theorem EnvOk.ownSet {ws : List W} {vs : List V} (e : EnvOk K Γ c d oa ρ σ H) (hm : D ∈ c.M) (hl : H D = some (.lst vs)) (rl : RepL K c H ws vs) (ho : ∀ (j : Nat) (us : List W), j ≠ i → ρ[j]? = some (.own us) → oa j ≠ D) :
    EnvOk K Γ c d (fun j => if j = i then D else oa j) (ρ.set i (.own ws)) (σ.set i (some (.ref D))) H where
  ok := e.ok
  st := e.st
  av := e.av
  m := e.m
  len := by rw [List.length_set, List.length_set]; exact e.len
  val := fun j x h => by
    rcases getElem?_set_or h with ⟨ej, ex⟩ | ⟨n, h'⟩
    · cases ex
    · obtain ⟨u, h1, h2⟩ := e.val j x h'
      exact ⟨u, by rw [List.getElem?_set_ne (Ne.symm n)]; exact h1, h2⟩
  own := fun j x h => by
    rcases getElem?_set_or h with ⟨ej, ex⟩ | ⟨n, h'⟩
    · cases ex
      subst ej
      have hj : j < σ.length := by
        by_cases hl : j < ρ.length
        · rw [← e.len]
          exact hl
        · rw [List.getElem?_eq_none (by simpa using hl)] at h
          cases h
      rw [if_pos rfl]
      exact ⟨hm, by rw [List.getElem?_set_self hj], vs, hl, rl⟩
    · obtain ⟨h1, h3, h4⟩ := e.own j x h'
      rw [if_neg n]
      exact ⟨h1, by rw [List.getElem?_set_ne (Ne.symm n)]; exact h3, h4⟩
  inj := fun a b x y h1 h2 he => by
    rcases getElem?_set_or h1 with ⟨ea, _⟩ | ⟨na, h1'⟩
    · rcases getElem?_set_or h2 with ⟨eb, _⟩ | ⟨nb, h2'⟩
      · rw [ea, eb]
      · rw [ea, if_pos rfl, if_neg nb] at he
        exact absurd he.symm (ho b y nb h2')
    · rcases getElem?_set_or h2 with ⟨eb, _⟩ | ⟨nb, h2'⟩
      · rw [eb, if_pos rfl, if_neg na] at he
        exact absurd he (ho a x na h1')
      · rw [if_neg na, if_neg nb] at he
        exact e.inj a b x y h1' h2' he
  odc := fun j x h => by
    rcases getElem?_set_or h with ⟨ej, ex⟩ | ⟨n, h'⟩
    · cases ex
    · obtain ⟨h1, h3, h4⟩ := e.odc j x h'
      rw [if_neg n]
      exact ⟨h1, by rw [List.getElem?_set_ne (Ne.symm n)]; exact h3, h4⟩
  ido := fun a b x y h1 h2 he => by
    rcases getElem?_set_or h1 with ⟨ea, ex⟩ | ⟨na, h1'⟩
    · cases ex
    · rcases getElem?_set_or h2 with ⟨eb, ex⟩ | ⟨nb, h2'⟩
      · cases ex
      · rw [if_neg na, if_neg nb] at he
        exact e.ido a b x y h1' h2' he
  tT := e.tT
  cC := e.cC
  kK := e.kK
theorem EnvOk.ownNe {a : Addr} (e : EnvOk K Γ c d oa ρ σ H) (n : H a = none) : ∀ (j : Nat) (us : List W), j ≠ i → ρ[j]? = some (.own us) → oa j ≠ a := fun j us _ h => by
  obtain ⟨_, _, zs, h4, _⟩ := e.own j us h
  exact ne_of_none h4 n
/-- one of them is changed -/
theorem EnvOk.ownUpd {ws us : List W} {ys : List V} (e : EnvOk K Γ c d oa ρ σ H) (h : ρ[i]? = some (.own ws)) (rl : RepL K c H us ys) :
    EnvOk K Γ c d oa (ρ.set i (.own us)) σ (L2.upd H (oa i) (.lst ys)) ∧ Fwd K c H c (L2.upd H (oa i) (.lst ys)) := by
  obtain ⟨h1, h3, vs, h4, h5⟩ := e.own i ws h
  have hA := e.m.inA _ h1
  have hn := e.m.nst _ h1
  have up : ∀ {w : W} {v : V}, Rep K c H w v → Rep K c (L2.upd H (oa i) (.lst ys)) w v := fun r => r.upd hA h4 (fun _ z => by cases z) (fun _ _ z => by cases z)
  have upl : ∀ {w : List W} {v : List V}, RepL K c H w v → RepL K c (L2.upd H (oa i) (.lst ys)) w v := fun r => r.upd hA h4 (fun _ z => by cases z) (fun _ _ z => by cases z)
  refine ⟨?_, rfl, rfl, rfl, rfl, rfl, rfl, List.prefix_rfl, fun b hb _ => hb, fun b hb => .inl hb, fun b o hb _ _ nm _ => ?_, fun b ps hb nm => ⟨#[], by rw [upd_ne (fun z => nm (by rw [z]; exact h1)), hb]; simp⟩, fun w v r => up r, fun a vs h => sqT_upd h4 (fun _ z => by cases z) (fun _ _ z => by cases z) h, fun b C dx fs hb _ => ⟨fs, by rw [upd_ne (ne_of hb h4 nofun)]; exact hb⟩⟩
  · exact {
      ok := e.ok
      st := e.st.upd hA hn h4
      av := fun b hb => by
        by_cases hb' : b = oa i
        · rw [hb']
          exact ⟨_, upd_same, .inl ⟨_, rfl⟩⟩
        · obtain ⟨o, h, w⟩ := e.av b hb
          exact ⟨o, by rw [upd_ne hb']; exact h, w⟩
      m := ⟨e.m.inA, e.m.nst, fun b hb => by
        by_cases hb' : b = oa i
        · rw [hb']
          exact ⟨_, upd_same, .inl ⟨_, rfl⟩⟩
        · obtain ⟨xs, h, w⟩ := e.m.ls b hb
          exact ⟨xs, by rw [upd_ne hb']; exact h, w⟩⟩
      len := by rw [List.length_set]; exact e.len
      val := fun j x hx => by
        rcases getElem?_set_or hx with ⟨ej, ex⟩ | ⟨n, h'⟩
        · cases ex
        · obtain ⟨u, g1, g2⟩ := e.val j x h'
          exact ⟨u, g1, up g2⟩
      own := fun j x hx => by
        rcases getElem?_set_or hx with ⟨ej, ex⟩ | ⟨n, h'⟩
        · cases ex
          subst ej
          exact ⟨h1, h3, ys, upd_same, upl rl⟩
        · obtain ⟨g1, g3, zs, g4, g5⟩ := e.own j x h'
          exact ⟨g1, g3, zs, by rw [upd_ne (fun z => n (e.inj j i x ws h' h z))]; exact g4, upl g5⟩
      inj := fun a b x y g1 g2 he => by
        have f : ∀ {a : Nat} {x : List W}, (ρ.set i (.own us))[a]? = some (.own x) → ∃ x', ρ[a]? = some (.own x') := fun g => by
          rcases getElem?_set_or g with ⟨ea, _⟩ | ⟨_, g'⟩
          · exact ⟨ws, by rw [ea]; exact h⟩
          · exact ⟨_, g'⟩
        obtain ⟨x', f1⟩ := f g1
        obtain ⟨y', f2⟩ := f g2
        exact e.inj a b x' y' f1 f2 he
      odc := fun j x hx => by
        rcases getElem?_set_or hx with ⟨ej, ex⟩ | ⟨n, h'⟩
        · cases ex
        · obtain ⟨g1, g3, zs, g4, g5⟩ := e.odc j x h'
          have ne : oa j ≠ oa i := fun z => by
            rw [z, h4] at g4
            cases g4
          exact ⟨g1, g3, zs, by rw [upd_ne ne]; exact g4, g5.1, upl g5.2⟩
      ido := fun a b x y g1 g2 he => by
        rcases getElem?_set_or g1 with ⟨_, ex⟩ | ⟨_, g1'⟩
        · cases ex
        · rcases getElem?_set_or g2 with ⟨_, ex⟩ | ⟨_, g2'⟩
          · cases ex
          · exact e.ido a b x y g1' g2' he
      tT := e.tT
      cC := e.cC
      kK := e.kK }
  · rw [upd_ne (fun z => nm (by rw [z]; exact h1))]
    exact hb
/-- one of them becomes plain data -/
theorem Fwd.less (m : MOk c H) (hm : D ∈ c.M) : Fwd K c H (c.less D) H where
  S := rfl
  ca := rfl
  la := rfl
  T := rfl
  C := rfl
  KK := rfl
  O := List.prefix_rfl
  sub := fun b h n => List.mem_filter.mpr ⟨h, decide_eq_true (fun z => n (by rw [z]; exact hm))⟩
  fr := fun b h => .inl (List.mem_filter.mp h).1
  step := fun b o h _ _ _ _ => h
  tbl := fun b ps h _ => ⟨#[], by rw [h]; simp⟩
  rep := fun w v r => Rep.weak (c := c.less D) (c1 := c) rfl rfl (fun b hb => (List.mem_filter.mp hb).1) r
  sq := fun a vs h => h
  ins := fun b C dx fs h _ => ⟨fs, h⟩
def frz (i : Nat) (ρ : En) : En := match ρ[i]? with
  | some (.own ws) => ρ.set i (.val (.lst ws))
  | some (.odc kvs) => ρ.set i (.val (.dct (kvs.map (·.1)) (kvs.map (·.2))))
  | _ => ρ
theorem EnvOk.frz (e : EnvOk K Γ c d oa ρ σ H) (i : Nat) : ∃ c', EnvOk K Γ c' d oa (frz i ρ) σ H ∧ Fwd K c H c' H ∧ c'.S = c.S ∧ c'.ca = c.ca ∧ c'.la = c.la ∧ c'.T = c.T ∧ c'.K = c.K ∧ c'.O = c.O := by
  unfold PF.frz
  split
  · rename_i ws h
    obtain ⟨h1, h3, vs, h4, h5⟩ := e.own i ws h
    have hn := e.m.nst _ h1
    simp only [List.mem_cons, not_or] at hn
    have wk : ∀ {w : W} {v : V}, Rep K c H w v → Rep K (c.less (oa i)) H w v := fun r => Rep.weak (c := c.less (oa i)) (c1 := c) rfl rfl (fun b hb => (List.mem_filter.mp hb).1) r
    have wkl : ∀ {w : List W} {v : List V}, RepL K c H w v → RepL K (c.less (oa i)) H w v := fun r => RepL.weak (c := c.less (oa i)) (c1 := c) rfl rfl (fun b hb => (List.mem_filter.mp hb).1) r
    refine ⟨c.less (oa i), ?_, Fwd.less e.m h1, rfl, rfl, rfl, rfl, rfl, rfl⟩
    exact {
      ok := ⟨List.mem_filter.mpr ⟨e.ok.inS, decide_eq_true (Ne.symm hn.1)⟩, List.mem_filter.mpr ⟨e.ok.inla, decide_eq_true (Ne.symm hn.2.2.1)⟩, List.mem_filter.mpr ⟨e.ok.inca, decide_eq_true (Ne.symm hn.2.1)⟩⟩
      st := e.st.weak rfl rfl rfl rfl rfl rfl rfl (fun b hb => (List.mem_filter.mp hb).1) ⟨List.mem_filter.mpr ⟨e.ok.inS, decide_eq_true (Ne.symm hn.1)⟩, List.mem_filter.mpr ⟨e.ok.inla, decide_eq_true (Ne.symm hn.2.2.1)⟩, List.mem_filter.mpr ⟨e.ok.inca, decide_eq_true (Ne.symm hn.2.1)⟩⟩
      av := fun b hb => e.av b (List.mem_filter.mp hb).1
      m := ⟨fun b hb => List.mem_filter.mpr ⟨e.m.inA b (List.mem_filter.mp hb).1, (List.mem_filter.mp hb).2⟩, fun b hb => e.m.nst b (List.mem_filter.mp hb).1, fun b hb => e.m.ls b (List.mem_filter.mp hb).1⟩
      len := by rw [List.length_set]; exact e.len
      val := fun j x hx => by
        rcases getElem?_set_or hx with ⟨ej, ex⟩ | ⟨n, h'⟩
        · cases ex
          subst ej
          exact ⟨_, h3, .lst (fun z => of_decide_eq_true (List.mem_filter.mp z).2 rfl) h4 (wkl h5)⟩
        · obtain ⟨u, g1, g2⟩ := e.val j x h'
          exact ⟨u, g1, wk g2⟩
      own := fun j x hx => by
        rcases getElem?_set_or hx with ⟨ej, ex⟩ | ⟨n, h'⟩
        · cases ex
        · obtain ⟨g1, g3, zs, g4, g5⟩ := e.own j x h'
          exact ⟨List.mem_filter.mpr ⟨g1, decide_eq_true fun z => n (e.inj j i x ws h' h z)⟩, g3, zs, g4, wkl g5⟩
      inj := fun a b x y g1 g2 he => by
        rcases getElem?_set_or g1 with ⟨_, ex⟩ | ⟨_, g1'⟩
        · cases ex
        · rcases getElem?_set_or g2 with ⟨_, ex⟩ | ⟨_, g2'⟩
          · cases ex
          · exact e.inj a b x y g1' g2' he
      odc := fun j x hx => by
        rcases getElem?_set_or hx with ⟨ej, ex⟩ | ⟨n, h'⟩
        · cases ex
        · obtain ⟨g1, g3, zs, g4, g5⟩ := e.odc j x h'
          exact ⟨List.mem_filter.mpr ⟨g1, decide_eq_true fun z => by
            rw [z, h4] at g4
            cases g4⟩, g3, zs, g4, g5.1, wkl g5.2⟩
      ido := fun a b x y g1 g2 he => by
        rcases getElem?_set_or g1 with ⟨_, ex⟩ | ⟨_, g1'⟩
        · cases ex
        · rcases getElem?_set_or g2 with ⟨_, ex⟩ | ⟨_, g2'⟩
          · cases ex
          · exact e.ido a b x y g1' g2' he
      tT := e.tT
      cC := e.cC
      kK := e.kK }
  · rename_i kvs h
    obtain ⟨h1, h3, vs, h4, h5⟩ := e.odc i kvs h
    have hn := e.m.nst _ h1
    simp only [List.mem_cons, not_or] at hn
    have wk : ∀ {w : W} {v : V}, Rep K c H w v → Rep K (c.less (oa i)) H w v := fun r => Rep.weak (c := c.less (oa i)) (c1 := c) rfl rfl (fun b hb => (List.mem_filter.mp hb).1) r
    have wkl : ∀ {w : List W} {v : List V}, RepL K c H w v → RepL K (c.less (oa i)) H w v := fun r => RepL.weak (c := c.less (oa i)) (c1 := c) rfl rfl (fun b hb => (List.mem_filter.mp hb).1) r
    refine ⟨c.less (oa i), ?_, Fwd.less e.m h1, rfl, rfl, rfl, rfl, rfl, rfl⟩
    exact {
      ok := ⟨List.mem_filter.mpr ⟨e.ok.inS, decide_eq_true (Ne.symm hn.1)⟩, List.mem_filter.mpr ⟨e.ok.inla, decide_eq_true (Ne.symm hn.2.2.1)⟩, List.mem_filter.mpr ⟨e.ok.inca, decide_eq_true (Ne.symm hn.2.1)⟩⟩
      st := e.st.weak rfl rfl rfl rfl rfl rfl rfl (fun b hb => (List.mem_filter.mp hb).1) ⟨List.mem_filter.mpr ⟨e.ok.inS, decide_eq_true (Ne.symm hn.1)⟩, List.mem_filter.mpr ⟨e.ok.inla, decide_eq_true (Ne.symm hn.2.2.1)⟩, List.mem_filter.mpr ⟨e.ok.inca, decide_eq_true (Ne.symm hn.2.1)⟩⟩
      av := fun b hb => e.av b (List.mem_filter.mp hb).1
      m := ⟨fun b hb => List.mem_filter.mpr ⟨e.m.inA b (List.mem_filter.mp hb).1, (List.mem_filter.mp hb).2⟩, fun b hb => e.m.nst b (List.mem_filter.mp hb).1, fun b hb => e.m.ls b (List.mem_filter.mp hb).1⟩
      len := by rw [List.length_set]; exact e.len
      val := fun j x hx => by
        rcases getElem?_set_or hx with ⟨ej, ex⟩ | ⟨n, h'⟩
        · cases ex
          subst ej
          refine ⟨_, h3, ?_⟩
          rw [h5.1]
          exact .dct (fun z => of_decide_eq_true (List.mem_filter.mp z).2 rfl) h4 (wkl h5.2)
        · obtain ⟨u, g1, g2⟩ := e.val j x h'
          exact ⟨u, g1, wk g2⟩
      own := fun j x hx => by
        rcases getElem?_set_or hx with ⟨ej, ex⟩ | ⟨n, h'⟩
        · cases ex
        · obtain ⟨g1, g3, zs, g4, g5⟩ := e.own j x h'
          exact ⟨List.mem_filter.mpr ⟨g1, decide_eq_true fun z => by
            rw [z, h4] at g4
            cases g4⟩, g3, zs, g4, wkl g5⟩
      inj := fun a b x y g1 g2 he => by
        rcases getElem?_set_or g1 with ⟨_, ex⟩ | ⟨_, g1'⟩
        · cases ex
        · rcases getElem?_set_or g2 with ⟨_, ex⟩ | ⟨_, g2'⟩
          · cases ex
          · exact e.inj a b x y g1' g2' he
      odc := fun j x hx => by
        rcases getElem?_set_or hx with ⟨ej, ex⟩ | ⟨n, h'⟩
        · cases ex
        · obtain ⟨g1, g3, zs, g4, g5⟩ := e.odc j x h'
          exact ⟨List.mem_filter.mpr ⟨g1, decide_eq_true fun z => n (e.ido j i x kvs h' h z)⟩, g3, zs, g4, g5.1, wkl g5.2⟩
      ido := fun a b x y g1 g2 he => by
        rcases getElem?_set_or g1 with ⟨_, ex⟩ | ⟨_, g1'⟩
        · cases ex
        · rcases getElem?_set_or g2 with ⟨_, ex⟩ | ⟨_, g2'⟩
          · cases ex
          · exact e.ido a b x y g1' g2' he
      tT := e.tT
      cC := e.cC
      kK := e.kK }
  · exact ⟨c, e, .refl, rfl, rfl, rfl, rfl, rfl, rfl⟩
end
def sOwn (i : Nat) (fs : En → T (List W)) : En → T (Fl × En) := fun ρ => (fs ρ).bind fun ws => if sizeOk ws then .ok (.nx, ρ.set i (.own ws)) else .bad
def seqW : W → T (List W)
  | .lst ws => .ok ws
  | .tup ws => .ok ws
  | _ => .bad
def sOwnOf (i : Nat) (f : En → T W) : En → T (Fl × En) := fun ρ => (f ρ).bind fun w => (seqW w).bind fun ws => .ok (.nx, ρ.set i (.own ws))
def sOwnPar (i j : Nat) (fs : En → T (List W)) : En → T (Fl × En) := fun ρ => (fs ρ).bind fun ws => match ws with
  | [w] => .ok (.nx, (ρ.set i (.own [])).set j (.val w))
  | _ => .bad
@[irreducible] def roomOk (ws : List W) : Bool := decide (ws.length < 16777216)
def sApp (i : Nat) (f : En → T (List W)) : En → T (Fl × En) := fun ρ => match ρ[i]? with
  | some (.own ws) => (f ρ).bind fun xs => match xs with
    | [w] => if roomOk ws then .ok (.nx, ρ.set i (.own (ws ++ [w]))) else .bad
    | _ => .bad
  | _ => .bad
def sExt (i : Nat) (f : En → T (List W)) : En → T (Fl × En) := fun ρ => match ρ[i]? with
  | some (.own ws) => (f ρ).bind fun xs => match xs with
    | [.lst us] => if sizeOk (ws ++ us) then .ok (.nx, ρ.set i (.own (ws ++ us))) else .bad
    | _ => .bad
  | _ => .bad
def onFrz {α : Type} (i : Nat) (g : En → T α) : En → T α := fun ρ => g (frz i ρ)
/-- .. where nothing may be raised -/
def onFrzN {α : Type} (i : Nat) (g : En → T α) : En → T α := fun ρ => noX (g (frz i ρ))
@[simp] theorem noX_ok {α : Type} (a : α) : noX (.ok a : T α) = .ok a := rfl
@[simp] theorem noX_bad {α : Type} : noX (.bad : T α) = .bad := rfl
@[simp] theorem noX_bind {α β : Type} (f : α → T β) (t : T α) : noX (t.bind f) = (noX t).bind fun a => noX (f a) := by
  induction t with
  | ok a => rfl
  | exc _ _ => rfl
  | bad => rfl
  | ask n k ih =>
    show T.ask n (fun i => noX ((k i).bind f)) = T.ask n fun i => (noX (k i)).bind fun a => noX (f a)
    congr 1
    funext i
    exact ih i
  | get i k ih =>
    show T.get i (fun c fs => noX ((k c fs).bind f)) = T.get i fun c fs => (noX (k c fs)).bind fun a => noX (f a)
    congr 1
    funext c fs
    exact ih c fs
  | put i fs k ih =>
    show T.put i fs (noX (k.bind f)) = T.put i fs ((noX k).bind fun a => noX (f a))
    rw [ih]
  | new c fs k ih =>
    show T.new c fs (fun i => noX ((k i).bind f)) = T.new c fs fun i => (noX (k i)).bind fun a => noX (f a)
    congr 1
    funext i
    exact ih i
section
variable {X : Cx} {E : XK} {st : Stmt} {e : Expr} {es : List Expr} {g : En → T (Fl × En)} {f : En → T W} {fs : En → T (List W)} {pos pos' p2 : Pos}
theorem tr_frz (i : Nat) (h : TrS Γ X E st g) : TrS Γ X E st (onFrz i g) := ps_imp h fun D σ H q => by
  obtain ⟨c, d, oa, ρ, e, q⟩ := q
  obtain ⟨c', e', fw, _⟩ := e.frz i
  exact ⟨c', d, oa, _, e', T.AllW.imp (fun _ _ y => y.later fw) (fun _ _ _ y => y.fwd fw) q⟩
theorem Step.as {c c' : Cc} {H H' : Hp} (hS : c'.S = c.S) (hl : c'.la = c.la) (st : Step c' H H') : Step c H H' := Step.to st hS hl
/-- back to a world with more lists of the frame's own, where no object is -/
theorem back_no {c c' c'' : Cc} {d : Dw} {H H' : Hp} (hS : c'.S = c.S) (hc : c'.ca = c.ca) (hl : c'.la = c.la) (hT : c'.T = c.T) (hK : c'.K = c.K) (hO : c'.O = c.O) (no : noObj c.K = true) (ok : CcOk c) (st : SG c' c'' H H') (so : StOk c'' d H') : SG c { c with O := c''.O } H H' ∧ StOk { c with O := c''.O } d H' := by
  have g := st.g
  refine ⟨⟨⟨rfl, rfl, rfl, rfl, rfl, rfl, rfl, rfl, by rw [← hO]; exact g.O⟩, Step.to st.st hS hl⟩, ?_⟩
  obtain ⟨⟨cells, lefts, k, r, h1, h2, h3, h4, h5, h6, h7, h8, h9⟩, ob⟩ := so
  rw [g.S, g.ca, g.la, hS, hc, hl] at h1
  rw [g.ca, hc] at h2
  rw [g.la, hl] at h3
  rw [g.ca, g.la, hc, hl] at h8
  rw [g.T, hT] at h9
  have e : d.os = [] := ob.no (by rw [g.KK, hK]; exact no)
  exact ⟨⟨cells, lefts, k, r, h1, h2, h3, h4, h5, h6, h7, h8, h9⟩, ⟨ok.inS, ok.inla, ok.inca⟩, ob.len, ob.nd, fun i a o _ q => by
    rw [e] at q
    simp at q, fun _ => e⟩
theorem trb_frz {E : WX} {t : En → T Bool} (i : Nat) (om : noObj X.K = true) (h : TrB Γ X E e t) : TrB Γ X E e (onFrzN i t) := pt_imp h fun σ H Q q => by
  obtain ⟨c, d, oa, ρ, e, q⟩ := q
  obtain ⟨c', e', fw, h1, h2, h3, h4, h5, h6⟩ := e.frz i
  refine ⟨c', d, oa, _, e', noX_all (T.AllW.imp (fun _ _ y => ?_) (fun _ _ _ y => y) q)⟩
  intro c'' H' st so
  obtain ⟨st', so'⟩ := back_no h1 h2 h3 h4 h5 h6 (by rw [e.kK]; exact om) e.ok st so
  exact y H' st' so'
def flat : W → T W
  | .non => .ok .non
  | .bl b => .ok (.bl b)
  | .int i => .ok (.int i)
  | .str x => .ok (.str x)
  | _ => .bad
theorem tre_frz {E : WX} (i : Nat) (om : noObj X.K = true) (h : TrE Γ X E e f) : TrE Γ X E e (fun ρ => (onFrzN i f ρ).bind flat) := pe_imp h fun σ H Q q => by
  obtain ⟨c, d, oa, ρ, e, q⟩ := q
  obtain ⟨c', e', fw, h1, h2, h3, h4, h5, h6⟩ := e.frz i
  refine ⟨c', d, oa, _, e', noX_all (T.AllW.imp (fun d1 w y => ?_) (fun _ _ _ y => y) (T.allW_bind.mp q))⟩
  intro c'' v H' st so r
  obtain ⟨st', so'⟩ := back_no h1 h2 h3 h4 h5 h6 (by rw [e.kK]; exact om) e.ok st so
  cases r with
  | non => exact y _ H' st' so' .non
  | bl b => exact y _ H' st' so' (.bl b)
  | int k => exact y _ H' st' so' (.int k)
  | str x => exact y _ H' st' so' (.str x)
  | _ => exact y.elim
theorem tr_own {i : Nat} {x : Str} (hN : X.N.Nodup) (hi : X.N[i]? = some x) (hx : L2.Loc X.env.scope x) (he : TrA Γ X (wOf E) es fs) (hs : swapsWith (.List es p2) (some (.Name x pos')) pos.line X.env = pure false := by rfl)
    (hf : X.fn x = true ∨ X.env.scope.names.lookup x = some .local := by first | exact .inl rfl | exact .inr rfl | assumption) : TrS Γ X E (.Assign [.Name x pos'] (.List es p2) pos) (sOwn i fs) := ps_imp (ps_set hN hi hx (pe_lst he) hs hf) fun D σ H q => by
  obtain ⟨c, d, oa, ρ, e, q⟩ := q
  refine liftA_thenS (P := fun c H => PSq X.K Γ c H D) e q (fun st p => p.later (.of st e.wd)) fun ws vs H1 d1 _ r1 e1 h1 => ?_
  obtain ⟨hz, h1⟩ := T.AllW.ite h1
  refine ⟨by rw [← r1.length]; exact sizeOk_of hz, fun p hp => ?_⟩
  exact h1 _ _ _ _ (Fwd.mine hp e1.wd) ((e1.mine hp).ownSet (List.mem_cons_self ..) upd_same ((r1.more hp (.new hp) e1.st e1.ok).mine) (EnvOk.ownNe e1 hp))
theorem tr_ownPar {i j : Nat} (ne : i ≠ j) (hp : PS X st (tPar i j (tCons (tLst tNil) (liftA X.K Γ (wOf E) fs)))) : TrS Γ X E st (sOwnPar i j fs) := ps_imp hp fun D σ H q => by
  obtain ⟨c, d, oa, ρ, e, q⟩ := q
  refine ⟨by rw [sizeLine_eq]; decide, fun p hp => ?_⟩
  have e0 := e.mine (xs := []) hp
  have q0 : (sOwnPar i j fs ρ).AllW (PSq X.K Γ (c.mine p) (L2.upd H p (.lst [])) D) (PXs X.K (c.mine p) (L2.upd H p (.lst [])) E) d := T.AllW.imp (fun _ _ y => y.later (Fwd.mine hp e.wd)) (fun _ _ _ y => y.fwd (Fwd.mine hp e.wd)) q
  refine liftA_thenS (P := fun c H => PSq X.K Γ c H D) e0 q0 (fun st p => p.later (.of st e0.wd)) fun ws vs H1 d1 st1 r1 e1 h1 => ?_
  cases r1 with
  | nil => exact h1.elim
  | cons r rr =>
    cases rr with
    | cons _ _ => exact h1.elim
    | nil =>
      have hq : H1 p = some (.lst []) := st1.st.keep p _ upd_same (fun z => by have := st_ne e.st hp; simp only [List.mem_cons, not_or] at this; exact this.1 z) (fun z => by have := st_ne e.st hp; simp only [List.mem_cons, not_or] at this; exact this.2.2.1 z) nofun
      refine ⟨_, _, rfl, h1 _ _ _ H1 .refl ((e1.ownSet (D := p) (i := i) (by rw [st1.g.M]; exact List.mem_cons_self ..) hq .nil (EnvOk.ownNe e hp)).set r)⟩
theorem tr_app {i : Nat} {apos cpos : Pos} (ho : PE X e (tVar i)) (ha : TrA Γ X (wOf E) [a] fs) (hb : attributeBase e "append" X.env (eval e X.env) = eval e X.env := by rfl)
    (h1 : (((backTo cpos (starEach [a] X.env)).all fun x => !x.1) && ((backToKw cpos (keywordEach [] X.env)).all fun x => x.1.isSome) && decide (([a].length + ([] : List Keyword).length + if ([] : List Keyword).isEmpty = true then 0 else 1) < 30)) = true := by rfl) (h2 : (apos.endLine == cpos.line) = true := by rfl)
    (h3 : starEach [a] X.env = (false, eval a X.env) :: starEach [] X.env := by rfl) (h4 : ((backTo cpos (starEach [] X.env)).any fun x => x.1) = false := by rfl)
    (hs : swapsWith (.Call (.Attribute e "append" apos) [a] [] cpos) none pos.line X.env = pure false := by rfl) :
    TrS Γ X E (.Expr (.Call (.Attribute e "append" apos) [a] [] cpos) pos) (sApp i fs) := ps_imp (ps_expr (pe_bm PySem.F.plainAttrs_list PySem.F.slot_list_append PySem.F.type_list_append mt_append ho ha hb h1 h2 h3 h4) hs) fun D σ H q => by
  obtain ⟨c, d, oa, ρ, e, q⟩ := q
  unfold sApp at q
  split at q
  · rename_i ws hw
    obtain ⟨m1, m2, vs, m3, m4⟩ := e.own i ws hw
    refine ⟨_, m2, .inl ⟨rfl, _, SqL.of m3⟩, liftA_thenS (P := fun c H => PSq X.K Γ c H D) e q (fun st p => p.later (.of st e.wd)) fun us zs H1 d1 st1 r1 e1 h1 => ?_⟩
    cases r1 with
    | nil => exact h1.elim
    | cons r rr =>
      cases rr with
      | cons _ _ => exact h1.elim
      | nil =>
        obtain ⟨hz, h1⟩ := T.AllW.ite h1
        obtain ⟨m1', m2', vs', m3', m4'⟩ := e1.own i ws hw
        obtain ⟨e2, fw2⟩ := e1.ownUpd hw (m4'.append (.cons r .nil))
        unfold roomOk at hz
        exact ⟨_, _, _, rfl, rfl, m3', by rw [← m4'.length, sizeLine_eq]; exact of_decide_eq_true hz, h1 _ _ _ _ fw2 e2⟩
  · exact q.elim
theorem tr_ext {i : Nat} {apos cpos : Pos} (ho : PE X e (tVar i)) (ha : TrA Γ X (wOf E) [a] fs) (hb : attributeBase e "extend" X.env (eval e X.env) = eval e X.env := by rfl)
    (h1 : (((backTo cpos (starEach [a] X.env)).all fun x => !x.1) && ((backToKw cpos (keywordEach [] X.env)).all fun x => x.1.isSome) && decide (([a].length + ([] : List Keyword).length + if ([] : List Keyword).isEmpty = true then 0 else 1) < 30)) = true := by rfl) (h2 : (apos.endLine == cpos.line) = true := by rfl)
    (h3 : starEach [a] X.env = (false, eval a X.env) :: starEach [] X.env := by rfl) (h4 : ((backTo cpos (starEach [] X.env)).any fun x => x.1) = false := by rfl)
    (hs : swapsWith (.Call (.Attribute e "extend" apos) [a] [] cpos) none pos.line X.env = pure false := by rfl) :
    TrS Γ X E (.Expr (.Call (.Attribute e "extend" apos) [a] [] cpos) pos) (sExt i fs) := ps_imp (ps_expr (pe_bm PySem.F.plainAttrs_list PySem.F.slot_list_extend PySem.F.type_list_extend mt_extend ho ha hb h1 h2 h3 h4) hs) fun D σ H q => by
  obtain ⟨c, d, oa, ρ, e, q⟩ := q
  unfold sExt at q
  split at q
  · rename_i ws hw
    obtain ⟨m1, m2, vs, m3, m4⟩ := e.own i ws hw
    refine ⟨_, m2, .inl ⟨rfl, _, SqL.of m3⟩, liftA_thenS (P := fun c H => PSq X.K Γ c H D) e q (fun st p => p.later (.of st e.wd)) fun us zs H1 d1 st1 r1 e1 h1 => ?_⟩
    cases r1 with
    | nil => exact h1.elim
    | cons r rr =>
      cases rr with
      | cons _ _ => cases r <;> exact h1.elim
      | nil =>
        cases r with
        | lst n hq rl =>
          obtain ⟨hz, h1⟩ := T.AllW.ite h1
          obtain ⟨m1', m2', vs', m3', m4'⟩ := e1.own i ws hw
          obtain ⟨e2, fw2⟩ := e1.ownUpd hw (m4'.append rl)
          have := sizeOk_of hz
          rw [List.length_append, m4'.length, rl.length] at this
          exact ⟨_, _, _, _, rfl, rfl, m3', hq, this, h1 _ _ _ _ fw2 e2⟩
        | _ => exact h1.elim
  · exact q.elim
end
section
variable {X : Cx} {E : WX} {a b cc : Expr} {fa fb fc : En → T W} {g g' : W → W → T W} {r r' : R2} {pos : Pos}
theorem chain_ok (hs : Sem2 X.K r g) (hs' : Sem2 X.K r' g') : ∀ σ H Q, liftE X.K Γ E (fCh g g' fa fb fc) σ H Q → tChain r r' (liftE X.K Γ E fa) (liftE X.K Γ E fb) (liftE X.K Γ E fc) σ H Q := fun σ H Q h => by
  obtain ⟨c, d, oa, ρ, e, h⟩ := h
  refine lift_then (P := fun c H => PQ X.K c H Q) e h (fun st p => p.later st) fun w v H1 d1 _ r1 e1 h1 => ?_
  refine lift_then (P := fun c H => PQ X.K c H Q) e1 h1 (fun st p => p.later st) fun w2 v2 H2 d2 st2 r2 e2 h2 => ?_
  refine hs _ d2 H2 w w2 v v2 _ _ e2.wd (r1.step st2 e1.st e1.ok) r2 (T.AllW.imp (fun d3 z hz => ?_) (fun _ _ _ y => y) (T.allW_bind.mp h2))
  intro _ vz H3 st3 so3 rz
  have e3 := e2.step st3 so3
  cases z with
  | bl k =>
    cases rz
    refine ⟨k, rfl, ?_⟩
    cases k with
    | false => exact iteF (PQ.now e3.wd (PQ.later st3 hz) (.bl false))
    | true =>
      refine iteT (lift_then (P := fun c H => PQ X.K c H Q) e3 (T.AllW.imp (fun _ _ y => y.later st3) (fun _ _ _ y => y.later st3) hz) (fun st p => p.later st) fun w4 v4 H4 d4 st4 r4 e4 h4 => ?_)
      exact hs' _ d4 H4 w2 w4 v2 v4 Q _ e4.wd ((r2.step st3 e2.st e2.ok).step st4 e3.st e3.ok) r4 h4
  | _ => exact hz.elim
theorem trb_chain {op op' : CmpOp} (ho : OpR X (compareOp op) r) (ho' : OpR X (compareOp op') r') (hs : Sem2 X.K r g) (hs' : Sem2 X.K r' g') (ha : TrE Γ X E a fa) (hb : TrE Γ X E b fb) (hc : TrE Γ X E cc fc)
    (hm : lastMarks [op, op'] [b, cc] = false := by with_unfolding_all rfl) : TrB Γ X E (.Compare a [op, op'] [b, cc] pos) (fBl (fCh g g' fa fb fc)) := trb_of (pt_chain ho ho' ha hb hc hm) (chain_ok hs hs')
end
def mulTA (x y : W) : T W := match y with
  | .int 1 => mul1 x (.int 1)
  | .int k => mulT x (.int k)
  | _ => .bad
theorem sem_mulTA {K : PySem.W.Frag} : Sem2 K (fun x y H Q => rRep1 K x y H Q ∨ rRepT K x y H Q) mulTA := sem_or1 sem_mul1 sem_mulT fun x y => by
  unfold mulTA
  split
  · exact .inl rfl
  · exact .inr rfl
  · rename_i h1 h2
    right
    cases x <;> cases y <;> first | rfl | exact absurd rfl (h2 _)
theorem op_mulTA {X : Cx} : OpR X (binaryOp .Mult) (fun x y H Q => rRep1 X.K x y H Q ∨ rRepT X.K x y H Q) := opR_or op_rep1 op_repT
section
variable {X : Cx} {E : XK} {elt tg iter : Expr} {ifs : List Expr} {scope : Scope} {own : List (Str × Nat)} {pos spos py : Pos} {fi : En → T (List W)} {ns : List Nat} {G : W → En → Option En} {tt : En → T Bool} {fe : En → T W}
theorem tr_setLc {i : Nat} {y : Str} (hc : X.calm = true) (hN : X.N.Nodup) (hy : X.N[i]? = some y) (hyl : X.env.scope.names.lookup y = some .local) (hsw : swapsWith (.ListComp elt [⟨tg, iter, ifs, 0⟩] scope pos) (some (.Name y py)) spos.line X.env = pure true)
    (hi : TrI Γ X (wOf E) tg iter fi) (ok : BlkOk X.N X.env.scope scope own) (hs : ∀ i ∈ ns, i ∈ own.map (·.2))
    (hg : ∀ (s : Shared) (H : Hp) (C : Addr) (cl : List (Str × Addr)) (fp : List Addr), TrG Γ (X.blk s H scope (compEnvC scope cl C X.env) fp) tg ns G) (ht : ∀ (s : Shared) (H : Hp) (C : Addr) (cl : List (Str × Addr)) (fp : List Addr), TrTs Γ (X.blk s H scope (compEnvC scope cl C X.env) fp) ifs tt)
    (he : ∀ (s : Shared) (H : Hp) (C : Addr) (cl : List (Str × Addr)) (fp : List Addr), TrE Γ (X.blk s H scope (compEnvC scope cl C X.env) fp) noW elt fe) (hf : ∀ x, foldedSetIterable iter X.env x = pure x := by intro _; rfl) :
    TrS Γ X E (.Assign [.Name y py] (.ListComp elt [⟨tg, iter, ifs, 0⟩] scope pos) spos) (sSet i (fComp (own.map (·.2)) fi G tt fe)) := ps_imp (ps_setLc (g := liftG X.K Γ ns G) (tt := liftB X.K Γ noW tt) (te := liftE X.K Γ noW fe) hc hN hy hyl hsw hi ok hg ht he hf) fun D σ H q => by
  obtain ⟨c, d, oa, ρ, e, q⟩ := q
  refine comp_ok (E := wOf E) hs σ H _ (lift_thenS (P := fun c H => PSq X.K Γ c H D) e q (fun st p => p.later (.of st e.wd)) fun w v H1 d1 _ r1 e1 h1 => ?_)
  exact h1 _ oa _ H1 .refl (e1.set r1)
end
@[simp] theorem sumW_lst (ns : List Int) : sumW [.lst (ns.map W.int)] = .ok (.int ns.sum) := by simp [sumW]
@[simp] theorem sumW_tup (ns : List Int) : sumW [.tup (ns.map W.int)] = .ok (.int ns.sum) := by simp [sumW]
@[simp] theorem tupOfW_lst (ws : List W) : tupOfW [.lst ws] = .ok (.tup ws) := rfl
@[simp] theorem tupOfW_tup (ws : List W) : tupOfW [.tup ws] = .ok (.tup ws) := rfl
@[simp] theorem lstOfW_lst (ws : List W) : lstOfW [.lst ws] = .ok (.lst ws) := rfl
@[simp] theorem lstOfW_tup (ws : List W) : lstOfW [.tup ws] = .ok (.lst ws) := rfl
@[simp] theorem max2_int (i j : Int) : maxW [.int i, .int j] = .ok (.int (if j > i then j else i)) := rfl
@[simp] theorem min2_int (i j : Int) : minW [.int i, .int j] = .ok (.int (if j < i then j else i)) := rfl
end PF
namespace PF
open PySem PySem.Spec PyProof.Rows L2
theorem ask_all {α : Type} {P : Nat → α → Prop} {E : Nat → Nat → List W → Prop} {n d : Nat} {k : Nat → T α} (h : 0 < d) (g : ∀ i, i < n → (k i).AllB P E (d - 1)) : (T.ask n k).AllB P E d := ⟨d - 1, by omega, g⟩
theorem draw_run {n : Int} {b : Nat} (h : 0 < n) (hb : n.natAbs < 2 ^ b) (h0 : 0 < b) (h9 : b ≤ 9000) : F__law_draw [.stt, .int n] = .ask n.toNat fun i => .ok (.int i) := by
  simp [F__law_draw, manyOk_is h hb h0 h9]
/-- a draw of n, n small -/
theorem draw_is {n : Int} (h : 0 < n) (hb : n < 2 ^ 60) : F__law_draw [.stt, .int n] = .ask n.toNat fun i => .ok (.int i) := draw_run (b := 60) h (by omega) (by decide) (by decide)
@[simp] theorem sFor_eq (fi : En → T (List W)) (G : W → En → Option En) (gb : En → T (Fl × En)) (ρ : En) : sFor fi G gb ρ = (fi ρ).bind fun ws => forL G gb ws ρ := rfl
theorem rng1_is {n : Int} (h0 : 0 ≤ n) (h1 : n ≤ 2 ^ 60) : rng1 [.int n] = .ok (intsFrom 0 n.toNat) := by
  unfold rng1
  exact if_pos (rngOk_is (by omega) h1)
theorem rng2_is {a b : Int} (h0 : -(2 ^ 60) ≤ a ∧ a ≤ 2 ^ 60) (h1 : -(2 ^ 60) ≤ b ∧ b ≤ 2 ^ 60) : rng2 [.int a, .int b] = .ok (intsFrom a (b - a).toNat) := by
  unfold rng2
  exact if_pos (by rw [rngOk_is h0.1 h0.2, rngOk_is h1.1 h1.2]; rfl)
theorem ints_len : ∀ (n : Nat) (lo : Int), (intsFrom lo n).length = n
  | 0, lo => rfl
  | n + 1, lo => by simp [intsFrom, ints_len n]
theorem forL_all {G : W → En → Option En} {gb : En → T (Fl × En)} {E : Nat → Nat → List W → Prop} (I : List W → Nat → En → Prop) (step : ∀ w ws d ρ, I (w :: ws) d ρ → ∃ ρ1, G w ρ = some ρ1 ∧ (gb ρ1).AllB (fun d x => ∃ ρ2, x = (.nx, ρ2) ∧ I ws d ρ2) E d) :
    ∀ (ws : List W) (d : Nat) (ρ : En), I ws d ρ → (forL G gb ws ρ).AllB (fun d x => ∃ ρ2, x = (.nx, ρ2) ∧ I [] d ρ2) E d
  | [], d, ρ, h => ⟨ρ, rfl, h⟩
  | w :: ws, d, ρ, h => by
    obtain ⟨ρ1, e, s⟩ := step w ws d ρ h
    unfold forL
    rw [e]
    refine T.allB_bind.mpr (T.AllB.imp (fun d1 x hx => ?_) (fun _ _ _ y => y) s)
    obtain ⟨ρ2, rfl, h2⟩ := hx
    exact forL_all I step ws d1 ρ2 h2
@[simp] theorem noX_ask {α : Type} (n : Nat) (k : Nat → T α) : noX (T.ask n k) = .ask n fun i => noX (k i) := rfl
/-- a comprehension whose turns say f -/
theorem compL_map {G : W → En → Option En} {tt : En → T Bool} {fe : En → T W} {ρ : En} {α : Type} (m f : α → W) : ∀ (as : List α), (∀ a ∈ as, ∃ ρ1, G (m a) ρ = some ρ1 ∧ tt ρ1 = .ok true ∧ fe ρ1 = .ok (f a)) → compL G tt fe ρ (as.map m) = .ok (as.map f)
  | [], _ => rfl
  | a :: as, h => by
    obtain ⟨ρ1, h1, h2, h3⟩ := h a (List.mem_cons_self ..)
    have ih := compL_map m f as fun b hb => h b (List.mem_cons_of_mem _ hb)
    simp only [List.map_cons, compL, h1, h2, h3, noX_ok, T.bind_ok, if_true, ih]
/-- one over enumerate -/
theorem compL_enum {G : W → En → Option En} {tt : En → T Bool} {fe : En → T W} {ρ : En} {α : Type} (m : α → W) (f : Int → α → W) : ∀ (as : List α) (k : Int), (∀ (i : Nat) a, as[i]? = some a → ∃ ρ1, G (.tup [.int (k + i), m a]) ρ = some ρ1 ∧ tt ρ1 = .ok true ∧ fe ρ1 = .ok (f (k + i) a)) → compL G tt fe ρ (enumF k (as.map m)) = .ok (as.mapIdx fun i a => f (k + i) a)
  | [], k, _ => rfl
  | a :: as, k, h => by
    obtain ⟨ρ1, h1, h2, h3⟩ := h 0 a rfl
    have ih := compL_enum m f as (k + 1) fun i b hb => by
      have := h (i + 1) b (by simpa using hb)
      have e : k + ((i + 1 : Nat) : Int) = k + 1 + (i : Int) := by omega
      rw [e] at this
      exact this
    have e1 : k + ((0 : Nat) : Int) = k := by simp
    simp only [e1] at h1 h3
    simp only [List.map_cons, enumF, compL, h1, h2, h3, noX_ok, T.bind_ok, if_true, ih, List.mapIdx_cons, e1]
    congr 2
    apply List.ext_getElem?
    intro i
    simp only [List.getElem?_mapIdx]
    have e : k + 1 + (i : Int) = k + ((i + 1 : Nat) : Int) := by omega
    rw [e]
@[simp] theorem blsW_of : ∀ (bs : List Bool), blsW (bs.map W.bl) = some bs
  | [] => rfl
  | b :: bs => by simp [blsW, blsW_of bs]
@[simp] theorem allW_of (bs : List Bool) : allW [.lst (bs.map W.bl)] = .ok (.bl (bs.all id)) := by simp [allW]
@[simp] theorem anyW_of (bs : List Bool) : anyW [.lst (bs.map W.bl)] = .ok (.bl (bs.any id)) := by simp [anyW]
def low (n : Nat) (w : W) : Prop := ∃ d, w.toD = some d ∧ d.canLay0 = true ∧ d.depth ≤ n
def lows (n : Nat) (ws : List W) : Prop := ∃ ds, toDs ws = some ds ∧ PyData.canLayAll0 ds = true ∧ PyData.depthAll ds ≤ n
theorem low_int (i : Int) : low 1 (.int i) := ⟨.int i, rfl, rfl, by simp [PyData.depth]⟩
theorem low_bl (i : Bool) : low 1 (.bl i) := ⟨.bool i, rfl, rfl, by simp [PyData.depth]⟩
theorem low_non : low 1 .non := ⟨.none, rfl, rfl, by simp [PyData.depth]⟩
theorem lows_of {n : Nat} : ∀ {ws : List W}, (∀ w ∈ ws, low n w) → lows n ws
  | [], _ => ⟨[], rfl, rfl, by simp [PyData.depthAll]⟩
  | w :: ws, h => by
    obtain ⟨d, h1, h2, h3⟩ := h w (List.mem_cons_self ..)
    obtain ⟨ds, g1, g2, g3⟩ := lows_of fun u hu => h u (List.mem_cons_of_mem _ hu)
    refine ⟨d :: ds, ?_, ?_, ?_⟩
    · simp [toDs, h1, g1]
    · simp only [PyData.canLayAll0, h2, g2, Bool.and_self]
    · simp only [PyData.depthAll]
      omega
theorem low_tup {n : Nat} {ws : List W} (h : ∀ w ∈ ws, low n w) : low (n + 1) (.tup ws) := by
  obtain ⟨ds, g1, g2, g3⟩ := lows_of h
  refine ⟨.tuple ds, by simp [W.toD, g1], by simp only [PyData.canLay0]; exact g2, by simp only [PyData.depth]; omega⟩
theorem low_lst {n : Nat} {ws : List W} (h : ∀ w ∈ ws, low n w) : low (n + 1) (.lst ws) := by
  obtain ⟨ds, g1, g2, g3⟩ := lows_of h
  refine ⟨.list ds, by simp [W.toD, g1], by simp only [PyData.canLay0]; exact g2, by simp only [PyData.depth]; omega⟩
theorem low_ints (ns : List Int) : low 2 (.tup (ns.map W.int)) := low_tup fun w hw => by
  obtain ⟨i, _, rfl⟩ := List.mem_map.mp hw
  exact low_int i
theorem low_intsL (ns : List Int) : low 2 (.lst (ns.map W.int)) := low_lst fun w hw => by
  obtain ⟨i, _, rfl⟩ := List.mem_map.mp hw
  exact low_int i
theorem eqO_same {n : Nat} {w : W} (h : low n w) (hn : n ≤ 64) : eqO w w = some true := by
  obtain ⟨d, h1, h2, h3⟩ := h
  have hs : SeqAt.shaped d = true := by
    unfold SeqAt.shaped
    rw [h2, decide_eq_true (by omega)]
    rfl
  unfold eqO
  rw [h1]
  simp only [hs, Bool.and_self, if_true]
  rw [PySem.SeqAt.eqv_refl d h2]
theorem eq_same {n : Nat} {w : W} (h : low n w) (hn : n ≤ 64) : eqW w w = .ok (.bl true) := by
  unfold eqW
  rw [eqO_same h hn]
theorem ne_same {n : Nat} {w : W} (h : low n w) (hn : n ≤ 64) : neW w w = .ok (.bl false) := by
  unfold neW
  rw [eqO_same h hn]
  rfl
@[simp] theorem eqO_int (i j : Int) : eqO (.int i) (.int j) = some (i == j) := rfl
@[simp] theorem eqW_int (i j : Int) : eqW (.int i) (.int j) = .ok (.bl (i == j)) := rfl
@[simp] theorem neW_int (i j : Int) : neW (.int i) (.int j) = .ok (.bl !(i == j)) := rfl
@[simp] theorem ne_ints (ns : List Int) : neW (.tup (ns.map W.int)) (.tup (ns.map W.int)) = .ok (.bl false) := ne_same (low_ints ns) (by decide)
@[simp] theorem eq_ints (ns : List Int) : eqW (.tup (ns.map W.int)) (.tup (ns.map W.int)) = .ok (.bl true) := eq_same (low_ints ns) (by decide)
@[simp] theorem ne_intsL (ns : List Int) : neW (.lst (ns.map W.int)) (.lst (ns.map W.int)) = .ok (.bl false) := ne_same (low_intsL ns) (by decide)
@[simp] theorem eq_intsL (ns : List Int) : eqW (.lst (ns.map W.int)) (.lst (ns.map W.int)) = .ok (.bl true) := eq_same (low_intsL ns) (by decide)
@[simp] theorem ne_non : neW .non .non = .ok (.bl false) := rfl
@[simp] theorem eq_non : eqW .non .non = .ok (.bl true) := rfl
end PF
namespace PF
open PySem PySem.Spec PyProof.Rows L2
structure FnG (P : Program) (w : World) (K : PySem.W.Frag) (mg : Str → Option Value) (base : Heap) (k : Nat) (f : Addr) (fd : FuncData) (ps : List Str) (sp : Sp) : Prop where
  len : ∀ vs H Q E, sp vs H Q E → vs.length = ps.length
  go : ∀ (A : Around) (o : List PySem.Env) (s : Shared) (H : Hp) (ar : Args) (us : List Value) (vs : List V) (Q : VK) (E : XK), A.guards = some [] → Room k A → Env0 P w K mg base A o s H → BindsTo s fd ar (ps.zip us) → Vals vs us → sp vs H Q E →
    codeAny (model P w) A (.call (.ref f) ar) (CR (L2.CX P w) o P w H s Q E) s
theorem FnG.of {P : Program} {w : World} {K : PySem.W.Frag} {mg : Str → Option Value} {base : Heap} {k : Nat} {f : Addr} {fd : FuncData} {ps : List Str} {sp : Sp} (F : FnOk P w K mg base (L2.CX P w) k f fd ps sp) : FnG P w K mg base k f fd ps sp :=
  ⟨F.len, fun A o s H ar us vs Q E _ hr e b r h => F.run A o s H ar us vs Q E hr e b r h⟩
section
variable {P : Program} {w : World} {K : PySem.W.Frag} {mg : Str → Option Value} {base : Heap} {x qual : Str} {params : Arguments} {body : List Stmt} {scope : Scope} {dvs : List V} {kws : List (Str × V)} {f : Addr} {fd : FuncData}
theorem gdef {N ps : List Str} {k : Nat} {sp : Sp} (F : FunD K x qual params body scope dvs kws f fd) (S : FnScope N ps scope) (len : ∀ vs H Q E, sp vs H Q E → vs.length = ps.length)
    (bd : ∀ (cdv : Value) (A : Around) (o : List PySem.Env) (s : Shared) (H : Hp) (vs : List V) (Q : VK) (E : XK), fd.code = cdv → A.guards = some [] → Room k (A.deeper (envOfC qual scope s.heap.objs.size f cdv)) → sp vs H Q E →
      ∃ t, PSs (cxOf (L2.CX P w) P w K mg base N qual scope f cdv A o s H E) body t ∧ t { nx := fun _ H' => Q .non H', rt := Q } (start N vs) H) : FnG P w K mg base (k + 1) f fd ps sp := by
  obtain ⟨oc, od, dV, kV, dc, pm, an, cdv, ct, osl, rfl, lk, hcd, _, _⟩ := F.ex
  refine ⟨len, fun A o s H ar us vs Q E hg hr e0 hb r q => ?_⟩
  have hlen := len _ _ _ _ q
  have kin : K.In s.heap := e0.mod.kin.keeps fun b u e => (e0.bs b u e).1
  have nol : s.heap.NoLimit := e0.mod.nolimit.keeps fun b u e => (e0.bs b u e).1
  have hk : ∀ y ∈ ps.zip us, scope.names.lookup y.1 = some .local ∨ (scope.names.lookup y.1 = some .cell ∧ ((cellsFrom (s.heap.objs.size + 1) scope.names []).lookup y.1).isSome = true) := fun y hy => by
    obtain ⟨n, v⟩ := y
    have hn := S.par n (List.of_mem_zip hy).1
    exact hn.imp id fun z => ⟨z, PySem.W.cellsFrom_some _ _ _ (.inl z)⟩
  refine codeAny_call_function hr.depth (kin _ _ lk) rfl S.co S.gen rfl (PySem.W.codeRec_of kin hcd) (hb _ _ _ _ (wpAny_newFunctionEnv_cells S.kind hk fun env he s1 z => ?_))
  subst he
  refine ⟨nol.keeps z.toInCall.keep, codeAny_func ?_⟩
  obtain ⟨t, ht, hq⟩ := bd cdv A o s H vs Q E rfl hg (hr.deeper _) q
  have J0 : Inv (cxOf (L2.CX P w) P w K mg base N qual scope f cdv A o s H E) [] (start N vs) H s1 := inv_start S hr.hd e0 hlen r z
  refine wpAny_mono (ht.run [] s1 (start N vs) H _ J0 hq) (fun fl s' hs => ?_) fun e s' hs => hs
  match fl, hs with
  | .ret u, ⟨v, σ', H', J, rv, q'⟩ => exact ⟨v, H', J.os, J.bare, J.base, J.hok, rv, q'⟩
  | .next, ⟨σ', H', J, q'⟩ => exact ⟨V.non, H', J.os, J.bare, J.base, J.hok, rfl, q'⟩
  | .brk, ⟨_, _, _, z⟩ => exact z.elim
  | .cont, ⟨_, _, _, z⟩ => exact z.elim
/-- THE RULE, where no guard stands around -/
theorem fn_trG {k : Nat} {N ps : List Str} {g : En → T (Fl × En)} (F : FunD K x qual params body scope [] [] f fd) (S : FnScope N ps scope)
    (hb : ∀ (Γ : Cl) (cdv : Value) (A : Around) (o : List PySem.Env) (s : Shared) (H : Hp) (E : XK), fd.code = cdv → A.guards = some [] → Room k (A.deeper (envOfC qual scope s.heap.objs.size f cdv)) → TrSs Γ (cxOf (L2.CX P w) P w K mg base N qual scope f cdv A o s H E) E body g) :
    FnG P w K mg base (k + 1) f fd ps (SpF K (defF N.length ps.length g)) := by
  refine gdef F S (SpF.len fun ws h => ?_) fun cdv A o s H vs Q E hcd hg hr h => ?_
  · unfold defF
    rw [if_neg]
    intro z
    exact h (eq_of_beq z)
  · obtain ⟨c, d, ws, hT, wd, r, h⟩ := h
    obtain ⟨_, h⟩ := T.AllW.ite h
    refine ⟨_, hb c.C cdv A o s H E hcd hg hr, ?_⟩
    refine ⟨c.bare, d, fun _ => 0, startE N.length ws, start_ok (c := c.bare) ⟨⟨wd.ok.inS, wd.ok.inla, wd.ok.inca⟩, wd.st.bare, wd.av⟩ hT rfl (RepL.weak (c := c.bare) (c1 := c) rfl rfl (fun _ h => h) r), T.AllW.imp (fun d1 x hx => ?_) (fun _ _ _ y => y.ofBare wd.ok) (T.allW_bind.mp h)⟩
    obtain ⟨fl, ρ'⟩ := x
    intro c' oa' σ' H' fw e'
    have so := e'.st.to fw wd.ok
    cases fl with
    | nx => exact hx _ H' fw.back so .non
    | rt w => exact fun v rv => hx v H' fw.back so (Rep.back fw rv)
    | bk => exact hx.elim
    | ct => exact hx.elim
end
/-- the module's name x is a def that does what the run F does -/
def FnGs (P : Program) (w : World) (K : PySem.W.Frag) (mg : Str → Option Value) (base : Heap) (k : Nat) (x : Str) (ps : List Str) (F : List W → T W) : Prop :=
  ∃ f fd, FnG P w K mg base k f fd ps (SpF K F) ∧ mg x = some (.ref f) ∧ PySem.W.keepIn K (.ref f) = true ∧ Binds K fd ps []
theorem FnIs.toG {P : Program} {w : World} {K : PySem.W.Frag} {mg : Str → Option Value} {base : Heap} {k : Nat} {x : Str} {ps : List Str} {F : List W → T W} (h : FnIs P w K mg base k x ps F) : FnGs P w K mg base k x ps F := by
  obtain ⟨f, fd, a, b, c, d⟩ := h
  exact ⟨f, fd, .of a, b, c, d⟩
section
variable {X : Cx} {E : WX} {e : Expr} {es : List Expr} {fs : En → T (List W)} {pos p : Pos} {F : List W → T W} {k : Nat} {f : Addr} {fd : FuncData} {ps : List Str} {x : Str} {sp : Sp}
theorem run_g {pins : List (Addr × Obj)} {σ : L2.St} {H : Hp} {s : Shared} {Q : VK} {us : List Value} {vs : List V} {E' : XK} (G : FnG X.prog X.w X.K X.mg X.base k f fd ps sp) (hg : X.A.guards = some []) (hr : Room k X.A) (hb : Binds X.K fd ps []) (hx : PassesAt (L2.CX X.prog X.w) X σ E')
    (I : Inv X pins σ H s) (r : Vals vs us) (h : sp vs H Q E') : wpAny (model X.prog X.w) X.A (call (.ref f) us) (EP X pins σ Q) X.xe s := by
  have hl : (us ++ []).length = ps.length := by rw [List.append_nil, ← r.length]; exact G.len _ _ _ _ h
  have bt := hb s us I.kIn hl
  rw [List.append_nil] at bt
  refine wpAny_call (codeAny_mono (G.go X.A X.stack s H ⟨us, []⟩ us vs Q E' hg hr I.env0 bt r h) fun r s' hq => ?_)
  match r, hq with
  | .error e, hq => exact hx pins H s e s' I hq
  | .ok (.ret u), hq => exact I.after hq
  | .ok .next, hq => exact False.elim hq
  | .ok .brk, hq => exact False.elim hq
  | .ok .cont, hq => exact False.elim hq
theorem pe_g {t : TA} {EE : L2.St → XK} (G : FnG X.prog X.w X.K X.mg X.base k f fd ps sp) (hgd : X.A.guards = some []) (hr : Room k X.A) (hg : Gl X x) (hm : X.mg x = some (.ref f)) (hk : PySem.W.keepIn X.K (.ref f) = true) (hb : Binds X.K fd ps []) (hx : ∀ σ, PassesAt (L2.CX X.prog X.w) X σ (EE σ))
    (ha : PA X (e :: es) t) (hdb : (x == ("__debug__" : Str)) = false := by decide) (he : starEach (e :: es) X.env = (false, eval e X.env) :: starEach es X.env := by rfl) (hpl : (backTo pos (starEach es X.env)).any (·.1) = false := by rfl) :
    PE X (.Call (.Name x p) (e :: es) [] pos) (fun σ H Q => t σ H fun vs H1 => sp vs H1 Q (EE σ)) := by
  constructor
  intro pins s σ H Q I h
  refine wpAny_Call_Name_kw (ld_glob I hg hm (PySem.W.callWith_K (h₀ := X.base) I.ok.mod.kin hk (thn (ha.run pos pins s σ H _ I h) fun us s1 z => ?_) he hpl) hdb)
  obtain ⟨vs, H1, I1, r, q⟩ := z
  exact ⟨I1.kIn, run_g G hgd hr hb (hx σ) I1 r q⟩
theorem tr_callG (h : FnGs X.prog X.w X.K X.mg X.base k x ps F) (hgd : X.A.guards = some []) (hr : Room k X.A) (tk : Takes X E) (hg : Gl X x) (ha : TrA Γ X E (e :: es) fs)
    (hdb : (x == ("__debug__" : Str)) = false := by decide) (he : starEach (e :: es) X.env = (false, eval e X.env) :: starEach es X.env := by rfl) (hpl : (backTo pos (starEach es X.env)).any (·.1) = false := by rfl) :
    TrE Γ X E (.Call (.Name x p) (e :: es) [] pos) (fL fs F) := by
  obtain ⟨f, fd, G, hm, hk, hb⟩ := h
  refine pe_imp (pe_g (EE := fun σ => WE E σ) G hgd hr hg hm hk hb (fun σ => passAt tk σ) ha hdb he hpl) fun σ H Q h => ?_
  obtain ⟨c, d, oa, ρ, e, h⟩ := h
  exact liftA_then (P := fun c H => PQ X.K c H Q) e h (fun st p => p.later st) fun w v H1 d1 _ r1 e1 h1 => ⟨_, d1, w, ⟨e1.tT, e1.kK⟩, e1.wd, r1, h1⟩
/-- f() -/
theorem tr_callG0 (h : FnGs X.prog X.w X.K X.mg X.base k x ps F) (hgd : X.A.guards = some []) (hr : Room k X.A) (tk : Takes X E) (hg : Gl X x)
    (hdb : (x == ("__debug__" : Str)) = false := by decide) : TrE Γ X E (.Call (.Name x p) [] [] pos) (fun _ => F []) := by
  obtain ⟨f, fd, G, hm, hk, hb⟩ := h
  constructor
  intro pins s σ H Q I h
  obtain ⟨c, d, oa, ρ, e, h⟩ := h
  refine wpAny_Call_Name_kw (ld_glob I hg hm (PySem.W.callWith_K0 I.kIn hk (run_g (us := []) (vs := []) G hgd hr hb (passAt tk σ) I .nil ⟨c, d, [], ⟨e.tT, e.kK⟩, e.wd, .nil, h⟩)) hdb)
end
theorem end_call {P : Program} {w : World} {K : PySem.W.Frag} {mg mb : Str → Option Value} {k : Nat} {fa a : Addr} {fd : FuncData} {x : Str} {sp : Sp} {s₁ : Shared} {vs : List Value} {ns : List Int}
    (KX : K.In s₁.heap) (hns : s₁.heap.Ns mainGlobals mg) (hb : s₁.heap.Ns builtinsNs mb) (hbb : ∀ x : Str, x ≠ "__name__" → mb x = bootBuiltins x) (hlim : s₁.heap.NoLimit) (hg : s₁.gens = #[])
    (ha : s₁.heap.get? a = some { cls := .type "list", data := .seq vs.toArray }) (hi : IntsAre vs ns) (hl : ns.length ≤ sizeLine) (hr : Room k callerA)
    (F : ∀ base : Heap, K.In base → base.Ns mainGlobals mg → FnG P w K mg base k fa fd [x] sp) (hbind : ∀ (s : Shared) (u : Value), BindsTo s fd ⟨[u], []⟩ [(x, u)])
    (hsp : ∀ H : Hp, Only H → SqL K H a (ns.map V.int) → sp [.ref a] H (fun v _ => v = .bl true) fun _ _ _ => False)
    (hCX : ∀ H e s', L2.CX P w [] H s₁ (fun _ _ _ => False) e s' → False) :
    codeAny (model P w) callerA (.call (.ref fa) ⟨[.ref a], []⟩) (fun r s' => r = .ok (.ret (.bool true)) ∧ OldK s₁.heap s'.heap ∧ s'.os = s₁.os ∧ AllBare s'.gens) s₁ := by
  have core : ∀ H : Hp, Only H → SqL K H a (ns.map V.int) → HOk P w H s₁.heap → (∀ b, H b ≠ none → b = a) → (H a ≠ none → K.lookup a = none) →
      codeAny (model P w) callerA (.call (.ref fa) ⟨[.ref a], []⟩) (fun r s' => r = .ok (.ret (.bool true)) ∧ OldK s₁.heap s'.heap ∧ s'.os = s₁.os ∧ AllBare s'.gens) s₁ := fun H hO hS hok hA hK => by
    have only : ∀ {b : Addr}, (b = a → False) → H b = none := fun {b} n => by
      cases z : H b with
      | none => rfl
      | some u => exact (n (hA b (by rw [z]; exact nofun))).elim
    have dict : ∀ {b : Addr} {u : Obj} {es : Array DictEntry} {ep : Nat}, s₁.heap.get? b = some u → u.data = .dict es ep → H b = none := fun {b u es ep} e dd => only fun z => by
      rw [z, ha] at e
      cases e
      cases (show Data.seq vs.toArray _ = Data.dict es ep from dd)
    have nsK : ∀ {b : Addr} {m : Str → Option Value}, s₁.heap.Ns b m → (hidT s₁.heap H).Ns b m := fun {b m} z => by
      obtain ⟨u, es, ep, e, dd, r⟩ := z
      exact ⟨u, es, ep, hidT_get e (dict e dd), dd, r⟩
    have kb : K.In (hidT s₁.heap H) := fun b u e => hidT_get (KX b u e) (by
      cases z : H b with
      | none => rfl
      | some v =>
        have q : b = a := hA b (by rw [z]; exact nofun)
        rw [q] at e z
        rw [hK (by rw [z]; exact nofun)] at e
        cases e)
    have hM : Mod K mg (hidT s₁.heap H) := ⟨kb, nsK hns, ⟨mb, nsK hb, hbb⟩, by
      obtain ⟨mc, h1, h2⟩ := hlim
      exact ⟨mc, nsK h1, h2⟩⟩
    have e0 : Env0 P w K mg (hidT s₁.heap H) callerA [] s₁ H := ⟨rfl, hM, fun b u e => of_hidT e, Nat.le_of_eq (hidT_size _ _), trivial, fun b hb => (by cases hb), hok, .of_eq hg⟩
    refine codeAny_mono ((F _ kb (nsK hns)).go callerA [] s₁ H ⟨[.ref a], []⟩ [.ref a] [.ref a] _ _ rfl hr e0 (hbind s₁ (.ref a)) (.cons rfl .nil) (hsp H hO hS)) fun r s' h => ?_
    match r, h with
    | .error e, h => exact (hCX H e s' h).elim
    | .ok .next, h => exact False.elim h
    | .ok .brk, h => exact False.elim h
    | .ok .cont, h => exact False.elim h
    | .ok (.ret u), h =>
      obtain ⟨v, H', os, bare, un, hok', rv, q⟩ := h
      have q : v = .bl true := q
      rw [q] at rv
      have rv : u = Value.bool true := rv
      rw [rv]
      refine ⟨rfl, OldK.of_keep fun b u e => ?_, os, bare⟩
      rcases hO b with z | ⟨ob, xs, z⟩
      · exact un.keep b u e z (fun z => (by cases z)) (fun z => (by cases z))
      · have z1 := (hok b _ z).1
        have z2 := (hok' b _ (un.frzs b ob _ z)).1
        rw [e] at z1
        cases z1
        exact z2
  have rv := vals_ints hi
  cases hk : K.lookup a with
  | some o =>
    have e := KX a o hk
    rw [ha] at e
    cases e
    exact core (fun _ => none) (fun _ => .inl rfl) (.inr ⟨_, vs.toArray, _, hk, rfl, rfl, rfl, by rw [List.size_toArray, hi.length]; exact hl, by simpa using rv⟩) (fun b u z => by cases z) (fun b z => (z rfl).elim) fun z => (z rfl).elim
  | none =>
    have at_ : ∀ b, b = a ∨ b ≠ a := fun b => Decidable.em _
    refine core (fun b => if b = a then some (.frz { cls := .type "list", data := .seq vs.toArray } (.lst (ns.map V.int))) else none) (fun b => ?_) (.inl (.inr ⟨{ cls := .type "list", data := .seq vs.toArray }, if_pos rfl⟩)) (fun b u z => ?_) (fun b z => ?_) fun _ => hk
    · rcases at_ b with q | q
      · exact .inr ⟨_, _, if_pos q⟩
      · exact .inl (if_neg q)
    · rcases at_ b with q | q
      · have z := (if_pos q).symm.trans z
        cases z
        rw [q]
        exact ⟨ha, by rw [List.length_map]; exact hl, vs, _, rv, ha⟩
      · have z := (if_neg q).symm.trans z
        cases z
    · rcases at_ b with q | q
      · exact q
      · exact absurd (if_neg q) z
theorem walk_g {l : PySem.W.OpenLaw} {n k : Nat} {q : Program} {loose : List Str} {XP : (Str → Option Value) → Heap → Prop} {YP : World → Heap → Prop} {d : DefRec} {x : Str}
    (hn : l.most = some n) (hz : n ≤ sizeLine) (hdf : d.params.defaults = []) (hr : Room k callerA)
    (F : ∀ (w : World) (mg : Str → Option Value) (fa : Addr) (h : Heap), YP w h → h.Ns mainGlobals mg → mg d.name = some (.ref fa) →
      ∃ (K : PySem.W.Frag) (fd : FuncData) (sp : Sp), K.In h ∧ (∀ (s : Shared) (u : Value), BindsTo s fd ⟨[u], []⟩ [(x, u)]) ∧
        (∀ (H : Hp) (a : Addr) (ns : List Int), ns.length ≤ n → Only H → SqL K H a (ns.map V.int) → sp [.ref a] H (fun v _ => v = .bl true) fun _ _ _ => False) ∧
        ∀ base : Heap, K.In base → base.Ns mainGlobals mg → FnG l.prog w K mg base k fa fd [x] sp) :
    PySem.W.WalkO q loose XP YP l.row.toRowW d [] (fun f vs => PySem.call f vs) := by
  refine Att.attach_call hn hdf fun w' t₀ t₁ mg' mb' fa' o' pm' cd' dc a' vs' ns' G' Y' h1 h2 h3 h4 h5 h6 h7 h8 => ?_
  obtain ⟨K', fd', sp', kx, hb', hs', hF'⟩ := F w' mg' fa' _ Y' G'.T.g h4
  exact end_call kx G'.T.g G'.T.b G'.T.builtins G'.T.nolimit h8 h5 h6 (Nat.le_trans h7 hz) hr hF' hb' (fun H hO hS => hs' H a' ns' h7 hO hS) fun H e s' h => cx_none h
end PF
namespace PF
open PySem PySem.Spec PyProof.Rows L2
def rRepr (K : PySem.W.Frag) : List V → Hp → VK → Prop := fun vs H Q => ∃ (v : V) (d : PyData), vs = [v] ∧ Dp K H v d ∧ d.showable = true ∧ d.hasDict = false ∧ d.depth ≤ 60 ∧ d.shown.length ≤ sizeLine ∧ Q (.str d.shown) H
theorem cr_repr {X : Cx} (hgd : X.A.guards = some []) (hu : X.A.units + 64 < cLine) : CallR X (.builtin "repr") (rRepr X.K) := by
  intro pins s σ H vs us Q I r h
  obtain ⟨v, d, rfl, hd, h1, h2, h3, h4, q⟩ := h
  obtain ⟨u, rfl, ru⟩ := vals1 r
  cases hd with
  | non =>
    cases ru
    refine PySem.P.repr_of_none ⟨.str _, H, I.tok _, ⟨_, rfl⟩, ?_⟩
    simpa [PyData.shown] using q
  | bl b =>
    cases ru
    refine PySem.P.repr_of_bool ⟨.str _, H, I.tok _, ⟨_, rfl⟩, ?_⟩
    simpa [PyData.shown] using q
  | int i =>
    obtain ⟨t, rfl⟩ := ru
    refine PySem.P.repr_of_int (by simpa [PyData.showable] using h1) ⟨.str _, H, I.tok _, ⟨_, rfl⟩, ?_⟩
    simpa [PyData.shown] using q
  | str x =>
    obtain ⟨t, rfl⟩ := ru
    refine PySem.P.repr_of_str ⟨.str _, H, I.tok _, ⟨_, rfl⟩, ?_⟩ (by simpa [PyData.shown] using h4)
    simpa [PyData.shown] using q
  | lst hs ha =>
    cases ru
    obtain ⟨as, rd⟩ := Dp.reads I _ _ _ (Dp.lst hs ha) rfl
    exact repr_of_reads' rd h1 (PyData.noDict_hsm h2) hgd (by omega) (fun _ _ e => e) (fun h' u tk hk => ⟨.str _, H, I.kept hk, ⟨_, rfl⟩, q⟩) h4
  | tup hs ha =>
    cases ru
    obtain ⟨as, rd⟩ := Dp.reads I _ _ _ (Dp.tup hs ha) rfl
    exact repr_of_reads' rd h1 (PyData.noDict_hsm h2) hgd (by omega) (fun _ _ e => e) (fun h' u tk hk => ⟨.str _, H, I.kept hk, ⟨_, rfl⟩, q⟩) h4
@[irreducible] def reprOk (d : PyData) : Bool := d.showable && !d.hasDict && decide (d.depth ≤ 60) && decide (d.shown.length ≤ 16777216)
def reprW : List W → T W
  | [w] => match w.toD with
    | some d => if reprOk d then .ok (.str d.shown) else .bad
    | none => .bad
  | _ => .bad
theorem sem_repr {K : PySem.W.Frag} : SemL K (rRepr K) reprW := fun c d H x v Q E' wd rx q => by
  cases rx with
  | nil => exact q.elim
  | cons r rr =>
    cases rr with
    | cons _ _ => exact q.elim
    | nil =>
      simp only [reprW] at q
      split at q
      · rename_i e he
        obtain ⟨hz, q⟩ := T.AllW.ite q
        unfold reprOk at hz
        simp only [Bool.and_eq_true, decide_eq_true_eq, Bool.not_eq_true'] at hz
        exact ⟨_, e, rfl, r.dp he, hz.1.1.1, hz.1.1.2, hz.1.2, by rw [sizeLine_eq]; exact hz.2, PQ.now wd q (.str _)⟩
      · exact q.elim
theorem bo_repr : bootBuiltins "repr" = some (.builtin "repr") := by decide +kernel
def eqS (x y : W) : T W := match x, y with
  | .str a, .str b => .ok (.bl (decide (a = b)))
  | _, _ => eqW x y
def neS (x y : W) : T W := match x, y with
  | .str a, .str b => .ok (.bl (!decide (a = b)))
  | _, _ => neW x y
theorem dec_str {a b : Str} : decide (V.str a = V.str b) = decide (a = b) := by
  by_cases h : a = b <;> simp [h]
theorem sem_eqS {K : PySem.W.Frag} : Sem2 K (fun x y H Q => rEq x y H Q ∨ rEqD K x y H Q) eqS := fun c d H x y v u Q E' wd rx ry q => by
  unfold eqS at q
  split at q
  · cases rx
    cases ry
    exact .inl ⟨rfl, by rw [dec_str]; exact PQ.now wd q (.bl _)⟩
  · exact .inr (sem_eq c d H x y v u Q E' wd rx ry q)
theorem sem_neS {K : PySem.W.Frag} : Sem2 K (fun x y H Q => rNe x y H Q ∨ rNeD K x y H Q) neS := fun c d H x y v u Q E' wd rx ry q => by
  unfold neS at q
  split at q
  · cases rx
    cases ry
    exact .inl ⟨rfl, by rw [dec_str]; exact PQ.now wd q (.bl _)⟩
  · exact .inr (sem_ne c d H x y v u Q E' wd rx ry q)
theorem op_eqS {X : Cx} (hu : X.A.units + 64 < cLine) : OpR X (compareOp .Eq) (fun x y H Q => rEq x y H Q ∨ rEqD X.K x y H Q) := opR_or op_eq (op_eqD hu)
theorem op_neS {X : Cx} (hu : X.A.units + 64 < cLine) : OpR X (compareOp .NotEq) (fun x y H Q => rNe x y H Q ∨ rNeD X.K x y H Q) := opR_or op_ne (op_neD hu)
@[simp] theorem eqS_str (s : Str) : eqS (.str s) (.str s) = .ok (.bl true) := by simp [eqS]
@[simp] theorem neS_str (s : Str) : neS (.str s) (.str s) = .ok (.bl false) := by simp [neS]
@[simp] theorem eqS_int (i j : Int) : eqS (.int i) (.int j) = .ok (.bl (i == j)) := rfl
@[simp] theorem neS_int (i j : Int) : neS (.int i) (.int j) = .ok (.bl !(i == j)) := rfl
@[simp] theorem eqS_tup (ws : List W) (y : W) : eqS (.tup ws) y = eqW (.tup ws) y := by cases y <;> rfl
@[simp] theorem neS_tup (ws : List W) (y : W) : neS (.tup ws) y = neW (.tup ws) y := by cases y <;> rfl
@[simp] theorem eqS_lst (ws : List W) (y : W) : eqS (.lst ws) y = eqW (.lst ws) y := by cases y <;> rfl
@[simp] theorem neS_lst (ws : List W) (y : W) : neS (.lst ws) y = neW (.lst ws) y := by cases y <;> rfl
@[simp] theorem eqS_non (y : W) : eqS .non y = eqW .non y := by cases y <;> rfl
@[simp] theorem neS_non (y : W) : neS .non y = neW .non y := by cases y <;> rfl
@[simp] theorem eqS_bl (b : Bool) (y : W) : eqS (.bl b) y = eqW (.bl b) y := by cases y <;> rfl
@[simp] theorem neS_bl (b : Bool) (y : W) : neS (.bl b) y = neW (.bl b) y := by cases y <;> rfl
def fStar (fa : En → T W) (fs : En → T (List W)) : En → T (List W) := fun ρ => (fa ρ).bind fun x => (seqW x).bind fun xs => (fs ρ).bind fun ys => .ok (xs ++ ys)
section
variable {X : Cx} {E : WX} {e : Expr} {es : List Expr} {fa : En → T W} {fs : En → T (List W)} {pos p : Pos}
theorem tra_star (ha : TrE Γ X E e fa) (hr : TrA Γ X E es fs) (hs : starEach (.Starred e p :: es) X.env = (true, eval e X.env) :: starEach es X.env := by rfl) : TrA Γ X E (.Starred e p :: es) (fStar fa fs) := pa_imp (StX.pa_star ha hr hs) fun σ H Q h => by
  obtain ⟨c, d, oa, ρ, e, h⟩ := h
  refine lift_then (P := fun c H => PQL X.K c H Q) e h (fun st p => p.later st) @fun c1 w v H1 d1 _ r1 e1 h1 => ?_
  have fin : ∀ {ws : List W} {vs : List V}, RepL X.K c1 H1 ws vs → ((fs ρ).bind fun ys => T.ok (ws ++ ys)).AllW (PQL X.K c1 H1 Q) (PX X.K c1 H1 fun cls dx H' => E cls dx σ H') d1 → liftA X.K Γ E fs σ H1 fun ys H2 => Q (vs ++ ys) H2 := fun rl h => by
    refine liftA_then (P := fun c H => PQL X.K c H Q) e1 h (fun st p => p.later st) fun w2 v2 H2 d2 st2 r2 e2 h2 => ?_
    exact h2 _ H2 (.refl _ H2) e2.st ((rl.step st2 e1.st e1.ok).append r2)
  cases r1 with
  | tup hq rl => exact ⟨_, _, rfl, .inl hq, fin rl h1⟩
  | lst n hq rl => exact ⟨_, _, rfl, .inr (SqL.of hq), fin rl h1⟩
  | _ => exact h1.elim
end
theorem RepL.erase {K : PySem.W.Frag} {c : Cc} {H : Hp} : ∀ {ws : List W} {vs : List V} (n : Nat), RepL K c H ws vs → RepL K c H (ws.eraseIdx n) (vs.eraseIdx n)
  | _, _, _, .nil => .nil
  | _, _, 0, .cons _ r => r
  | _, _, n + 1, .cons h r => .cons h (RepL.erase n r)
theorem RepL.dropLast {K : PySem.W.Frag} {c : Cc} {H : Hp} {ws : List W} {vs : List V} (r : RepL K c H ws vs) : RepL K c H ws.dropLast vs.dropLast := by
  rw [List.dropLast_eq_take, List.dropLast_eq_take, r.length]
  exact r.take _
/-- pop(i), i a place from 0 on -/
def popW (ws : List W) (xs : List W) : Option (W × List W) := match xs with
  | [.int i] => if 0 ≤ i ∧ i.toNat < ws.length ∧ ws.length ≤ 16777216 then match ws[i.toNat]? with
      | some w => some (w, ws.eraseIdx i.toNat)
      | none => none
    else none
  | _ => none
theorem seqIx_at {i : Int} {n : Nat} (h : 0 ≤ i) (h2 : i.toNat < n) : seqIndex? i n = some i.toNat := by
  unfold seqIndex?
  simp only []
  have e1 : ¬ i < 0 := by omega
  simp [e1]
  omega
def sPop (i : Nat) (fs : En → T (List W)) (G : W → En → Option En) : En → T (Fl × En) := fun ρ => match ρ[i]? with
  | some (.own ws) => (fs ρ).bind fun xs => match popW ws xs with
    | some (w, us) => match G w (ρ.set i (.own us)) with
      | some ρ' => .ok (.nx, ρ')
      | none => .bad
    | none => .bad
  | _ => .bad
section
variable {X : Cx} {E : XK} {e a tg : Expr} {G : W → En → Option En} {ns : List Nat} {fs : En → T (List W)} {pos : Pos}
theorem tr_popAt {i : Nat} {apos cpos : Pos} (ho : PE X e (tVar i)) (ha : TrA Γ X (wOf E) [a] fs) (hg : TrG Γ X tg ns G) (hb : attributeBase e "pop" X.env (eval e X.env) = eval e X.env := by rfl)
    (h1 : (((backTo cpos (starEach [a] X.env)).all fun x => !x.1) && ((backToKw cpos (keywordEach [] X.env)).all fun x => x.1.isSome) && decide (([a].length + ([] : List Keyword).length + if ([] : List Keyword).isEmpty = true then 0 else 1) < 30)) = true := by rfl) (h2 : (apos.endLine == cpos.line) = true := by rfl)
    (h3 : starEach [a] X.env = (false, eval a X.env) :: starEach [] X.env := by rfl) (h4 : ((backTo cpos (starEach [] X.env)).any fun x => x.1) = false := by rfl)
    (hs : swapsWithSole [tg] (.Call (.Attribute e "pop" apos) [a] [] cpos) pos.line X.env = pure false := by rfl) (hw : swappedStores [tg] (.Call (.Attribute e "pop" apos) [a] [] cpos) X.env = pure none := by rfl)
    (ht : (assignEach [tg] X.env).map (·.2) = [assign tg X.env] := by rfl) :
    TrS Γ X E (.Assign [tg] (.Call (.Attribute e "pop" apos) [a] [] cpos) pos) (sPop i fs G) := ps_imp (ps_asg (pe_bm PySem.F.plainAttrs_list PySem.F.slot_list_pop PySem.F.type_list_pop mt_popAt ho ha hb h1 h2 h3 h4) hg hs hw ht) fun D σ H q => by
  obtain ⟨c, d, oa, ρ, e, q⟩ := q
  unfold sPop at q
  split at q
  · rename_i ws hw
    obtain ⟨m1, m2, vs, m3, m4⟩ := e.own i ws hw
    refine ⟨_, m2, .inl ⟨rfl, _, SqL.of m3⟩, liftA_thenS (P := fun c H => PSq X.K Γ c H D) e q (fun st p => p.later (.of st e.wd)) fun us zs H1 d1 st1 r1 e1 h1 => ?_⟩
    cases r1 with
    | nil => exact h1.elim
    | cons r rr =>
      cases rr with
      | cons _ _ => cases r <;> exact h1.elim
      | nil =>
        cases r with
        | int k =>
          obtain ⟨m1', m2', vs', m3', m4'⟩ := e1.own i ws hw
          simp only [popW] at h1
          split at h1
          · rename_i w us hp
            split at hp
            · rename_i hk
              split at hp
              · rename_i y hy
                simp only [Option.some.injEq, Prod.mk.injEq] at hp
                obtain ⟨rfl, rfl⟩ := hp
                obtain ⟨v, hv, rv⟩ := m4'.get hy
                obtain ⟨e2, fw2⟩ := e1.ownUpd hw (m4'.erase k.toNat)
                split at h1
                · rename_i ρ' hG
                  refine ⟨_, _, k, k.toNat, v, rfl, rfl, m3', by omega, by omega, ?_, hv, _, d1, oa, _, y, ρ', e2, fw2.rep _ _ rv, hG, fun σ' _ e' => h1 _ oa σ' _ fw2 e'⟩
                  exact seqIx_at hk.1 (by rw [← m4'.length]; exact hk.2.1)
                · exact h1.elim
              · cases hp
            · cases hp
          · exact h1.elim
        | _ => exact h1.elim
  · exact q.elim
def sPop0 (i : Nat) (G : W → En → Option En) : En → T (Fl × En) := fun ρ => match ρ[i]? with
  | some (.own ws) => match ws[ws.length - 1]? with
    | some w => match G w (ρ.set i (.own ws.dropLast)) with
      | some ρ' => .ok (.nx, ρ')
      | none => .bad
    | none => .bad
  | _ => .bad
theorem tr_pop0 {i : Nat} {apos cpos : Pos} (ho : PE X e (tVar i)) (hg : TrG Γ X tg ns G) (hb : attributeBase e "pop" X.env (eval e X.env) = eval e X.env := by rfl) (h2 : (apos.endLine == cpos.line) = true := by rfl)
    (hs : swapsWithSole [tg] (.Call (.Attribute e "pop" apos) [] [] cpos) pos.line X.env = pure false := by rfl) (hw : swappedStores [tg] (.Call (.Attribute e "pop" apos) [] [] cpos) X.env = pure none := by rfl)
    (ht : (assignEach [tg] X.env).map (·.2) = [assign tg X.env] := by rfl) :
    TrS Γ X E (.Assign [tg] (.Call (.Attribute e "pop" apos) [] [] cpos) pos) (sPop0 i G) := ps_imp (ps_asg (pe_bm0 PySem.F.plainAttrs_list PySem.F.slot_list_pop PySem.F.type_list_pop mt_pop ho hb h2) hg hs hw ht) fun D σ H q => by
  obtain ⟨c, d, oa, ρ, e, q⟩ := q
  unfold sPop0 at q
  split at q
  · rename_i ws hw
    obtain ⟨m1, m2, vs, m3, m4⟩ := e.own i ws hw
    split at q
    · rename_i y hy
      split at q
      · rename_i ρ' hG
        obtain ⟨v, hv, rv⟩ := m4.get hy
        obtain ⟨e2, fw2⟩ := e.ownUpd hw m4.dropLast
        refine ⟨_, m2, .inl ⟨rfl, _, SqL.of m3⟩, _, _, v, rfl, rfl, m3, by rw [← m4.length]; exact hv, c, d, oa, _, y, ρ', e2, fw2.rep _ _ rv, hG, fun σ' _ e' => q _ oa σ' _ fw2 e'⟩
      · exact q.elim
    · exact q.elim
  · exact q.elim
end
section
variable {X : Cx} {E : XK} {e : Expr} {f : En → T W} {pos pos' p p2 : Pos}
theorem tr_ownOf {i : Nat} {x : Str} (hN : X.N.Nodup) (hi : X.N[i]? = some x) (hx : L2.Loc X.env.scope x) (hg : Gl X "list") (hm : X.mg "list" = none) (he : TrE Γ X (wOf E) e f)
    (hs : swapsWith (.Call (.Name "list" p) [e] [] p2) (some (.Name x pos')) pos.line X.env = pure false := by rfl) (hst : starEach [e] X.env = (false, eval e X.env) :: starEach [] X.env := by rfl) (hpl : (backTo p2 (starEach [] X.env)).any (·.1) = false := by rfl)
    (hf : X.fn x = true ∨ X.env.scope.names.lookup x = some .local := by first | exact .inl rfl | exact .inr rfl | assumption) : TrS Γ X E (.Assign [.Name x pos'] (.Call (.Name "list" p) [e] [] p2) pos) (sOwnOf i f) :=
  ps_imp (ps_set hN hi hx (pe_callTy call_list_of hg hm bo_list (pa_cons he pa_nil hst) (by decide) (by decide) hst hpl) hs hf) fun D σ H q => by
  obtain ⟨c, d, oa, ρ, e, q⟩ := q
  refine lift_thenS (P := fun c H => PSq X.K Γ c H D) e q (fun st p => p.later (.of st e.wd)) @fun c1 w v H1 d1 _ r1 e1 h1 => ?_
  have fin : ∀ {ws : List W} {vs : List V} {p : Addr}, RepL X.K c1 H1 ws vs → H1 p = none → (T.ok (Fl.nx, ρ.set i (.own ws)) : T (Fl × En)).AllW (PSq X.K Γ c1 H1 D) (PXs X.K c1 H1 E) d1 → D.nx (σ.set i (some (.ref p))) (L2.upd H1 p (.lst vs)) := fun r hp h =>
    h _ _ _ _ (Fwd.mine hp e1.wd) ((e1.mine hp).ownSet (List.mem_cons_self ..) upd_same ((r.more hp (.new hp) e1.st e1.ok).mine) (EnvOk.ownNe e1 hp))
  cases r1 with
  | tup hq rl => exact ⟨_, _, rfl, .inr hq, fun p hp => fin rl hp h1⟩
  | lst n hq rl => exact ⟨_, _, rfl, .inl (SqL.of hq), fun p hp => fin rl hp h1⟩
  | _ => exact h1.elim
end
end PF
namespace PF
open PySem PySem.Spec PyProof.Rows L2
def sOwnParOf (i j : Nat) (f : En → T W) (fs : En → T (List W)) : En → T (Fl × En) := fun ρ => (f ρ).bind fun w => (seqW w).bind fun ws => (fs ρ).bind fun us => match us with
  | [u] => .ok (.nx, (ρ.set i (.own ws)).set j (.val u))
  | _ => .bad
theorem tr_ownParOf {X : Cx} {E : XK} {st : Stmt} {f : En → T W} {fs : En → T (List W)} {i j : Nat} (ne : i ≠ j) (hp : PS X st (tPar i j (tCons (tCB (fun xs H Q => ∃ p ys, xs = [.ref p] ∧ (SqL X.K H p ys ∨ SqT X.K H p ys) ∧ ∀ l, H l = none → Q (.ref l) (L2.upd H l (.lst ys))) (tCons (liftE X.K Γ (wOf E) f) tNil)) (liftA X.K Γ (wOf E) fs)))) : TrS Γ X E st (sOwnParOf i j f fs) := ps_imp hp fun D σ H q => by
  obtain ⟨c, d, oa, ρ, e, q⟩ := q
  refine lift_thenS (P := fun c H => PSq X.K Γ c H D) e q (fun st p => p.later (.of st e.wd)) @fun c0 w v H0 d0 _ r0 e00 h0 => ?_
  have fin : ∀ {ws : List W} {vs : List V} {p : Addr}, RepL X.K c0 H0 ws vs → H0 p = none → ((fs ρ).bind fun us => match us with
      | [u] => .ok (.nx, (ρ.set i (.own ws)).set j (.val u))
      | _ => .bad : T (Fl × En)).AllW (PSq X.K Γ c0 H0 D) (PXs X.K c0 H0 E) d0 → liftA X.K Γ (wOf E) fs σ (L2.upd H0 p (.lst vs)) fun ys H1 => ∃ v w, V.ref p :: ys = [v, w] ∧ D.nx ((σ.set i (some v)).set j (some w)) H1 := fun {ws vs p} r hp h => by
    have e0 := e00.mine (xs := vs) hp
    have q0 := T.AllW.imp (fun _ _ y => PSq.later (Fwd.mine (o := .lst vs) hp e00.wd) y) (fun _ _ _ y => y.fwd (Fwd.mine (o := .lst vs) hp e00.wd)) h
    refine liftA_thenS (P := fun c H => PSq X.K Γ c H D) e0 q0 (fun st p => p.later (.of st e0.wd)) fun us zs H1 d1 st1 r1 e1 h1 => ?_
    cases r1 with
    | nil => exact h1.elim
    | cons r' rr =>
      cases rr with
      | cons _ _ => exact h1.elim
      | nil =>
        have n1 := st_ne e00.st hp
        simp only [List.mem_cons, not_or] at n1
        have hq : H1 p = some (.lst vs) := st1.st.keep p _ upd_same n1.1 n1.2.2.1 nofun
        exact ⟨_, _, rfl, h1 _ _ _ H1 .refl ((e1.ownSet (D := p) (i := i) (by rw [st1.g.M]; exact List.mem_cons_self ..) hq (((r.more hp (.new hp) e00.st e00.ok).mine).step st1 e0.st e0.ok) (EnvOk.ownNe e00 hp)).set r')⟩
  cases r0 with
  | tup hq rl => exact ⟨_, _, rfl, .inr hq, fun p hp => fin rl hp h0⟩
  | lst n hq rl => exact ⟨_, _, rfl, .inl (SqL.of hq), fun p hp => fin rl hp h0⟩
  | _ => exact h0.elim
end PF
namespace PF
open PySem PySem.Spec PyProof.Rows L2
def wLen (i : Nat) (ρ : En) : Nat := match ρ[i]? with
  | some (.own ws) => ws.length
  | some (.val (.lst ws)) => ws.length
  | some (.val (.tup ws)) => ws.length
  | _ => 0
def wGap (i j : Nat) (ρ : En) : Nat := match ρ[i]?, ρ[j]? with
  | some (.val (.int a)), some (.val (.int b)) => (b - a).toNat
  | _, _ => 0
def T.chk {α : Type} (p : α → Bool) : T α → Nat → Bool
  | .ok a, _ => p a
  | .exc _ _, _ => false
  | .bad, _ => false
  | .ask _ _, 0 => false
  | .ask n k, e + 1 => (List.range n).all fun i => T.chk p (k i) e
  | _, _ => false
theorem T.chk_all {α : Type} {p : α → Bool} {E : Nat → Nat → List W → Prop} : ∀ {t : T α} {d : Nat}, t.chk p d = true → t.AllB (fun _ a => p a = true) E d
  | .ok a, d, h => h
  | .exc _ _, d, h => by cases h
  | .bad, d, h => by cases h
  | .ask n k, 0, h => by cases h
  | .get _ _, d, h => by cases h
  | .put _ _ _, d, h => by cases h
  | .new _ _ _, d, h => by cases h
  | .ask n k, d + 1, h => by
    have h : ((List.range n).all fun i => T.chk p (k i) d) = true := h
    refine ⟨d, rfl, fun i hi => T.chk_all ?_⟩
    exact List.all_eq_true.mp h i (List.mem_range.mpr hi)
theorem T.AllB.more {α : Type} {P : Nat → α → Prop} {E : Nat → Nat → List W → Prop} : ∀ {t : T α} {d e : Nat}, t.AllB (fun _ a => P 0 a) (fun _ c fs => E 0 c fs) d → d ≤ e → t.AllB (fun _ a => P 0 a) (fun _ c fs => E 0 c fs) e
  | .ok a, d, e, h, _ => h
  | .exc _ _, d, e, h, _ => h
  | .bad, d, e, h, _ => h
  | .ask n k, d, e, h, l => by
    obtain ⟨d', rfl, h⟩ := h
    exact ⟨e - 1, by omega, fun i hi => T.AllB.more (h i hi) (by omega)⟩
def yes : Fl × En → Bool
  | (.rt (.bl true), _) => true
  | _ => false
theorem yes_is {x : Fl × En} (h : yes x = true) : ∃ ρ, x = (.rt (.bl true), ρ) := by
  obtain ⟨fl, ρ⟩ := x
  match fl, h with
  | .rt (.bl true), _ => exact ⟨ρ, rfl⟩
/-- the written end of a law -/
theorem law_tail {t : T (Fl × En)} {d k : Nat} (h : t.chk yes k = true) (hk : k ≤ d) : t.AllB (fun _ x => ∃ ρ, x = (.rt (.bl true), ρ)) (fun _ _ _ => False) d := by
  have h1 : t.AllB (fun _ a => yes a = true) (fun _ _ _ => False) k := T.chk_all h
  have h2 := T.AllB.more (P := fun _ a => yes a = true) (E := fun _ _ _ => False) h1 hk
  exact T.AllB.imp (fun _ x hx => yes_is hx) (fun _ _ _ z => z) h2
theorem compL_filter {G : W → En → Option En} {tt : En → T Bool} {fe : En → T W} {ρ : En} {α : Type} (m f : α → W) (t : α → Bool) : ∀ (as : List α), (∀ a ∈ as, ∃ ρ1, G (m a) ρ = some ρ1 ∧ tt ρ1 = .ok (t a) ∧ (t a = true → fe ρ1 = .ok (f a))) → compL G tt fe ρ (as.map m) = .ok ((as.filter t).map f)
  | [], _ => rfl
  | a :: as, h => by
    obtain ⟨ρ1, h1, h2, h3⟩ := h a (List.mem_cons_self ..)
    have ih := compL_filter m f t as fun b hb => h b (List.mem_cons_of_mem _ hb)
    cases ht : t a with
    | true => simp only [List.map_cons, compL, h1, h2, h3 ht, ht, noX_ok, T.bind_ok, if_true, ih, List.filter_cons]
    | false => simp only [List.map_cons, compL, h1, h2, ht, noX_ok, T.bind_ok, if_false, Bool.false_eq_true, ih, List.filter_cons]
inductive All2 {α : Type} (R : α → W → Prop) : List α → List W → Prop
  | nil : All2 R [] []
  | cons {a : α} {w : W} {as : List α} {ws : List W} : R a w → All2 R as ws → All2 R (a :: as) (w :: ws)
/-- a comprehension with draws -/
theorem compL_draw {G : W → En → Option En} {tt : En → T Bool} {fe : En → T W} {ρ : En} {α : Type} {R : α → W → Prop} {E : Nat → Nat → List W → Prop} (c : Nat) (m : α → W) : ∀ (as : List α) {P : Nat → List W → Prop} {d : Nat},
    (∀ a ∈ as, ∃ ρ1, G (m a) ρ = some ρ1 ∧ tt ρ1 = .ok true ∧ ∀ (Q : Nat → W → Prop) (d : Nat), c ≤ d → (∀ w d', R a w → d ≤ d' + c → Q d' w) → (noX (fe ρ1)).AllB Q E d) → c * as.length ≤ d → (∀ ws d', All2 R as ws → d ≤ d' + c * as.length → P d' ws) → (compL G tt fe ρ (as.map m)).AllB P E d
  | [], P, d, _, _, h => h [] d .nil (by omega)
  | a :: as, P, d, h, hd, hP => by
    obtain ⟨ρ1, h1, h2, h3⟩ := h a (List.mem_cons_self ..)
    rw [List.length_cons, Nat.mul_add, Nat.mul_one] at hd hP
    simp only [List.map_cons, compL, h1, h2, noX_ok, T.bind_ok, if_true]
    refine T.allB_bind.mpr (h3 _ d (by omega) fun w d' hw hd' => T.allB_bind.mpr ?_)
    exact compL_draw c m as (fun b hb => h b (List.mem_cons_of_mem _ hb)) (by omega) fun ws d'' hws hd'' => hP (w :: ws) d'' (.cons hw hws) (by omega)
theorem fComp_eq (vs : List Nat) (fi : En → T (List W)) (G : W → En → Option En) (tt : En → T Bool) (fe : En → T W) (ρ : En) : fComp vs fi G tt fe ρ = (fi ρ).bind fun ws => if sizeOk ws then (compL G tt fe (wipeE ρ vs) ws).bind fun xs => .ok (.lst xs) else .bad := rfl
theorem fCh_eq (g g' : W → W → T W) (fa fb fc : En → T W) (ρ : En) : fCh g g' fa fb fc ρ = (fa ρ).bind fun x => (fb ρ).bind fun y => (g x y).bind fun z => match z with
  | .bl true => (fc ρ).bind fun w => g' y w
  | .bl false => .ok (.bl false)
  | _ => .bad := rfl
theorem fSl_eq (fa : En → T W) (fl fh : En → T (Option Int)) (ρ : En) : fSl fa fl fh ρ = (fa ρ).bind fun x => (fl ρ).bind fun l => (fh ρ).bind fun u => slW x l u := rfl
theorem pNo_eq (ρ : En) : pNo ρ = .ok none := rfl
theorem pSome_eq (f : En → T W) (ρ : En) : pSome f ρ = (f ρ).bind fun x => (pInt x).bind fun i => .ok (some i) := rfl
theorem fStar_eq (fa : En → T W) (fs : En → T (List W)) (ρ : En) : fStar fa fs ρ = (fa ρ).bind fun x => (seqW x).bind fun xs => (fs ρ).bind fun ys => .ok (xs ++ ys) := rfl
theorem defF_eq (n np : Nat) (g : En → T (Fl × En)) (ws : List W) (h : (ws.length == np) = true) : defF n np g ws = (g (startE n ws)).bind endOf := by
  unfold defF
  rw [if_pos h]
theorem whileL_all {t : En → T Bool} {gb : En → T (Fl × En)} {E : Nat → Nat → List W → Prop} {Z : Nat → En → Prop} (I : Nat → Nat → En → Prop)
    (step : ∀ m d ρ, I m d ρ → (t ρ).AllB (fun d b => if b then ∃ m', m = m' + 1 ∧ (gb ρ).AllB (fun d x => ∃ ρ2, x = (.nx, ρ2) ∧ I m' d ρ2) E d else Z d ρ) E d) :
    ∀ (m n d : Nat) (ρ : En), m < n → I m d ρ → (whileL t gb n ρ).AllB (fun d x => ∃ ρ2, x = (.nx, ρ2) ∧ Z d ρ2) E d
  | m, 0, d, ρ, h, _ => by omega
  | m, n + 1, d, ρ, h, hi => by
    unfold whileL
    refine T.allB_bind.mpr (T.AllB.imp (fun d1 b hb => ?_) (fun _ _ _ y => y) (step m d ρ hi))
    cases b with
    | false => exact ⟨ρ, rfl, hb⟩
    | true =>
      obtain ⟨m', rfl, hb⟩ := hb
      refine T.allB_bind.mpr (T.AllB.imp (fun d2 x hx => ?_) (fun _ _ _ y => y) hb)
      obtain ⟨ρ2, rfl, h2⟩ := hx
      exact whileL_all I step m' n d2 ρ2 (by omega) h2
theorem toDs_ints : ∀ ns : List Int, toDs (ns.map W.int) = some (ns.map PyData.int)
  | [] => rfl
  | n :: ns => by simp [toDs, toDs_ints ns, W.toD]
theorem shaped_intsT (ns : List Int) : SeqAt.shaped (.tuple (ns.map PyData.int)) = true := by
  have h := dep_ints ns
  unfold SeqAt.shaped
  rw [Bool.and_eq_true]
  exact ⟨lay_ints ns, decide_eq_true (by simp only [PyData.depth]; omega)⟩
theorem eqO_intsT (xs ys : List Int) : eqO (.tup (xs.map W.int)) (.tup (ys.map W.int)) = some (decide (xs = ys)) := by
  unfold eqO
  simp only [W.toD, toDs_ints, Option.map_some, shaped_intsT, Bool.and_self, if_true]
  simp only [PyData.eqv, PySem.W.ked_eqvAll]
theorem eqO_intsL (xs ys : List Int) : eqO (.lst (xs.map W.int)) (.lst (ys.map W.int)) = some (decide (xs = ys)) := by
  unfold eqO
  simp only [W.toD, toDs_ints, Option.map_some, shaped_ints, Bool.and_self, if_true]
  simp only [PyData.eqv, PySem.W.ked_eqvAll]
theorem eqW_intsT (xs ys : List Int) : eqW (.tup (xs.map W.int)) (.tup (ys.map W.int)) = .ok (.bl (decide (xs = ys))) := by
  unfold eqW
  rw [eqO_intsT]
theorem neW_intsT (xs ys : List Int) : neW (.tup (xs.map W.int)) (.tup (ys.map W.int)) = .ok (.bl (!decide (xs = ys))) := by
  unfold neW
  rw [eqO_intsT]
theorem eqW_intsL (xs ys : List Int) : eqW (.lst (xs.map W.int)) (.lst (ys.map W.int)) = .ok (.bl (decide (xs = ys))) := by
  unfold eqW
  rw [eqO_intsL]
theorem neW_intsL (xs ys : List Int) : neW (.lst (xs.map W.int)) (.lst (ys.map W.int)) = .ok (.bl (!decide (xs = ys))) := by
  unfold neW
  rw [eqO_intsL]
theorem eqW_none {α : Type} (as : List α) : eqW (.lst (as.map fun _ => W.int 1)) (.lst []) = .ok (.bl as.isEmpty) := by
  have e : (as.map fun _ => W.int 1) = (as.map fun _ => (1 : Int)).map W.int := by rw [List.map_map]; rfl
  rw [e, show (W.lst [] : W) = .lst (([] : List Int).map W.int) from rfl, eqW_intsL]
  cases as <;> simp
theorem neW_none {α : Type} (as : List α) : neW (.lst (as.map fun _ => W.int 1)) (.lst []) = .ok (.bl (!as.isEmpty)) := by
  have e : (as.map fun _ => W.int 1) = (as.map fun _ => (1 : Int)).map W.int := by rw [List.map_map]; rfl
  rw [e, show (W.lst [] : W) = .lst (([] : List Int).map W.int) from rfl, neW_intsL]
  cases as <;> simp
theorem greatest_ge {ns : List Int} {x : Int} (h : x ∈ ns) : x ≤ greatest ns := by
  cases ns with
  | nil => cases h
  | cons n ns =>
    obtain ⟨a, b, _⟩ := foldl_max_ge ns n
    rcases List.mem_cons.mp h with rfl | h
    · exact a
    · exact b x h
theorem greatest_mem {n : Int} {ns : List Int} : greatest (n :: ns) ∈ n :: ns := by
  obtain ⟨_, _, c⟩ := foldl_max_ge ns n
  rcases c with c | c
  · exact List.mem_cons.mpr (.inl c)
  · exact List.mem_cons.mpr (.inr c)
theorem all2_ints {R : Nat → Int → Prop} : ∀ {as : List Nat} {ws : List W}, All2 (fun a w => ∃ x, w = W.int x ∧ R a x) as ws → as.Nodup → ∃ f : Nat → Int, ws = as.map (fun i => W.int (f i)) ∧ ∀ a ∈ as, R a (f a)
  | _, _, .nil, _ => ⟨fun _ => 0, rfl, fun a h => by cases h⟩
  | _, _, .cons (a := a) (as := as) h r, nd => by
    obtain ⟨x, rfl, hx⟩ := h
    obtain ⟨f, e, hf⟩ := all2_ints r (List.nodup_cons.mp nd).2
    have na := (List.nodup_cons.mp nd).1
    refine ⟨fun i => if i = a then x else f i, ?_, fun b hb => ?_⟩
    · rw [List.map_cons, e]
      simp only [if_true]
      congr 1
      refine List.map_congr_left fun i hi => ?_
      have : i ≠ a := fun z => na (z ▸ hi)
      simp [this]
    · rcases List.mem_cons.mp hb with rfl | hb
      · simpa using hx
      · have : b ≠ a := fun z => na (z ▸ hb)
        simp [this]
        exact hf b hb
/-- drawn ints, one for each of 0, 1, .. -/
theorem compL_ints {G : W → En → Option En} {tt : En → T Bool} {fe : En → T W} {ρ : En} {E : Nat → Nat → List W → Prop} {P : Nat → List W → Prop} {n d : Nat} {m : Nat → W} (R : Nat → Int → Prop) (c : Nat)
    (h : ∀ a, a < n → ∃ ρ1, G (m a) ρ = some ρ1 ∧ tt ρ1 = .ok true ∧ ∀ (Q : Nat → W → Prop) (d : Nat), c ≤ d → (∀ x d', R a x → d ≤ d' + c → Q d' (.int x)) → (noX (fe ρ1)).AllB Q E d) (hd : c * n ≤ d)
    (hP : ∀ (f : Nat → Int) d', (∀ a, a < n → R a (f a)) → d ≤ d' + c * n → P d' ((List.range n).map fun i => W.int (f i))) : (compL G tt fe ρ ((List.range n).map m)).AllB P E d := by
  refine compL_draw (R := fun a w => ∃ x, w = W.int x ∧ R a x) c m (List.range n) (fun a ha => ?_) (by rw [List.length_range]; exact hd) fun ws d' hw hd' => ?_
  · obtain ⟨ρ1, h1, h2, h3⟩ := h a (List.mem_range.mp ha)
    exact ⟨ρ1, h1, h2, fun Q d hd hQ => h3 Q d hd fun x d' hx hd' => hQ _ d' ⟨x, rfl, hx⟩ hd'⟩
  · obtain ⟨f, e, hf⟩ := all2_ints hw List.nodup_range
    rw [e]
    rw [List.length_range] at hd'
    exact hP f d' (fun a ha => hf a (List.mem_range.mpr ha)) hd'
def Sh (n k : Nat) (w : W) : Prop := ∃ d, w.toD = some d ∧ d.showable = true ∧ d.hasDict = false ∧ d.depth ≤ k ∧ d.shown.length ≤ n ∧ d.canLay0 = true
def Shs (n k : Nat) (ws : List W) : Prop := ∃ ds, toDs ws = some ds ∧ PyData.showableAll ds = true ∧ PyData.hasDictAll ds = false ∧ PyData.depthAll ds ≤ k ∧ (∀ t ∈ PyData.shownAll ds, t.length ≤ n) ∧ (PyData.shownAll ds).length = ws.length ∧ PyData.canLayAll0 ds = true
theorem Sh.mono {n k n' k' : Nat} {w : W} (h : Sh n k w) (hn : n ≤ n') (hk : k ≤ k') : Sh n' k' w := by
  obtain ⟨d, h1, h2, h3, h4, h5, h6⟩ := h
  exact ⟨d, h1, h2, h3, by omega, by omega, h6⟩
theorem sh_int {i : Int} (h : i.natAbs < 2 ^ 400) : Sh 402 1 (.int i) := by
  have hl : i.natAbs.log2 < 400 := by
    by_cases h0 : i.natAbs = 0
    · rw [h0]; decide
    · exact (Nat.log2_lt h0).mpr h
  refine ⟨.int i, rfl, by simp [PyData.showable]; omega, by simp [PyData.hasDict], by simp [PyData.depth], ?_, rfl⟩
  have := int_text_length_le (a := i) (k := 400) (by decide) hl
  show (Str.ofString (toString i)).length ≤ 402
  rw [PySem.ofString_length]
  omega
theorem sh_bl (b : Bool) : Sh 402 1 (.bl b) := ⟨.bool b, rfl, by simp [PyData.showable], by simp [PyData.hasDict], by simp [PyData.depth], by cases b <;> decide +kernel, rfl⟩
theorem sh_non : Sh 402 1 .non := ⟨.none, rfl, by simp [PyData.showable], by simp [PyData.hasDict], by simp [PyData.depth], by decide +kernel, rfl⟩
theorem shs_of {n k : Nat} : ∀ {ws : List W}, (∀ w ∈ ws, Sh n k w) → Shs n k ws
  | [], _ => ⟨[], rfl, by simp [PyData.showableAll], by simp [PyData.hasDictAll], by simp [PyData.depthAll], fun t ht => (by simp [PyData.shownAll] at ht), by simp [PyData.shownAll], rfl⟩
  | w :: ws, h => by
    obtain ⟨d, a1, a2, a3, a4, a5, a6⟩ := h w (List.mem_cons_self ..)
    obtain ⟨ds, b1, b2, b3, b4, b5, b6, b7⟩ := shs_of fun u hu => h u (List.mem_cons_of_mem _ hu)
    refine ⟨d :: ds, by simp [toDs, a1, b1], by simp [PyData.showableAll, a2, b2], by simp [PyData.hasDictAll, a3, b3], by simp only [PyData.depthAll]; omega, fun t ht => ?_, by simp [PyData.shownAll, b6], by simp only [PyData.canLayAll0, a6, b7, Bool.and_self]⟩
    simp only [PyData.shownAll, List.mem_cons] at ht
    rcases ht with rfl | ht
    · exact a5
    · exact b5 t ht
theorem piled_le {n : Nat} : ∀ {ts : List Str}, (∀ t ∈ ts, t.length ≤ n) → piled ts ≤ (n + 2) * ts.length
  | [], _ => by simp [piled_nil]
  | t :: ts, h => by
    have h1 := h t (List.mem_cons_self ..)
    have h2 := piled_le (n := n) fun u hu => h u (List.mem_cons_of_mem _ hu)
    rw [piled_cons, List.length_cons, Nat.mul_add]
    omega
theorem listText_le (ts : List Str) : (listText ts).length ≤ piled ts + 2 := by
  unfold listText
  rw [strLen_append]
  have e1 : ((("]" : String) : Str)).length = 1 := rfl
  have e2 : ((("[" : String) : Str)).length = 1 := rfl
  cases ts with
  | nil =>
    show (("[" : String) : Str).length + _ ≤ _
    rw [e1, e2]
    omega
  | cons t ts =>
    have e : textFrom 0 "[" (t :: ts) = textFrom 1 ((("[" : String) : Str) ++ (("" : String) : Str) ++ t) ts := rfl
    have e3 : ((("" : String) : Str)).length = 0 := rfl
    rw [e, textFrom_length_pos _ _ _ (by decide), strLen_append, strLen_append, e1, e2, e3, piled_cons]
    omega
theorem tupleText_le (ts : List Str) : (tupleText ts).length ≤ piled ts + 3 := by
  unfold tupleText
  rw [strLen_append, strLen_append]
  have e1 : ((("(" : String) : Str)).length = 1 := rfl
  have e3 : (((if ts.length == 1 then ",)" else ")" : String) : Str)).length ≤ 2 := by split <;> decide
  cases ts with
  | nil =>
    have : (Str.join ", " []).length = 0 := rfl
    rw [e1, this]
    omega
  | cons t ts =>
    have := join_length_add (t :: ts) (by simp)
    rw [e1]
    omega
theorem sh_tup {n k : Nat} {ws : List W} (h : ∀ w ∈ ws, Sh n k w) : Sh ((n + 2) * ws.length + 4) (k + 1) (.tup ws) := by
  obtain ⟨ds, b1, b2, b3, b4, b5, b6, b7⟩ := shs_of h
  refine ⟨.tuple ds, by simp [W.toD, b1], by simp only [PyData.showable]; exact b2, by simp only [PyData.hasDict]; exact b3, by simp only [PyData.depth]; omega, ?_, by simp only [PyData.canLay0]; exact b7⟩
  simp only [PyData.shown]
  have h1 := tupleText_le (PyData.shownAll ds)
  have h2 := piled_le b5
  rw [b6] at h2
  omega
theorem sh_lst {n k : Nat} {ws : List W} (h : ∀ w ∈ ws, Sh n k w) : Sh ((n + 2) * ws.length + 4) (k + 1) (.lst ws) := by
  obtain ⟨ds, b1, b2, b3, b4, b5, b6, b7⟩ := shs_of h
  refine ⟨.list ds, by simp [W.toD, b1], by simp only [PyData.showable]; exact b2, by simp only [PyData.hasDict]; exact b3, by simp only [PyData.depth]; omega, ?_, by simp only [PyData.canLay0]; exact b7⟩
  simp only [PyData.shown]
  have h1 := listText_le (PyData.shownAll ds)
  have h2 := piled_le b5
  rw [b6] at h2
  omega
theorem repr_is {n k : Nat} {w : W} (h : Sh n k w) (hn : n ≤ 16777216) (hk : k ≤ 60) : ∃ s, reprW [w] = .ok (.str s) := by
  obtain ⟨d, h1, h2, h3, h4, h5, h6⟩ := h
  refine ⟨d.shown, ?_⟩
  have : reprOk d = true := by
    unfold reprOk
    rw [h2, h3, decide_eq_true (by omega), decide_eq_true (by omega)]
    rfl
  simp only [reprW, h1, this, if_true]
theorem sh_ints {ns : List Int} {N : Nat} (hl : ns.length ≤ N) (h : ∀ x ∈ ns, -(2 ^ 399) < x ∧ x < 2 ^ 399) : Sh (404 * N + 4) 2 (.tup (ns.map W.int)) := by
  refine (sh_tup (n := 402) (k := 1) fun w hw => ?_).mono ?_ (by omega)
  · obtain ⟨i, hi, rfl⟩ := List.mem_map.mp hw
    have := h i hi
    exact sh_int (by omega)
  · rw [List.length_map]
    have := Nat.mul_le_mul_left 404 hl
    omega
theorem Sh.low {n k : Nat} {w : W} (h : Sh n k w) : low k w := by
  obtain ⟨d, h1, h2, h3, h4, h5, h6⟩ := h
  exact ⟨d, h1, h6, h4⟩
end PF
namespace PF
open PySem PySem.Spec PyProof.Rows L2
def rInT (K : PySem.W.Frag) (neg : Bool) : R2 := fun x y H Q => ∃ d ds, Dp K H x d ∧ Dp K H y (.tuple ds) ∧ SeqAt.shaped d = true ∧ SeqAt.shaped (.tuple ds) = true ∧ Q (.bl (if neg then !ds.any fun z => PyData.eqv z d else ds.any fun z => PyData.eqv z d)) H
theorem op_inT {X : Cx} (hu : X.A.units + 65 < cLine) : OpR X (compareOp .In) (rInT X.K false) := by
  intro pins s σ H x y v u Q I rx ry h
  obtain ⟨d, ds, hd, he, sd, se, q⟩ := h
  obtain ⟨as, ra⟩ := Dp.reads I d x v hd rx
  obtain ⟨bs, rb⟩ := Dp.reads I (.tuple ds) y u he ry
  exact SeqAt.in_tuple_reads rb ra (SeqAt.canLay_of_shaped se) (SeqAt.canLay_of_shaped sd) (room_in_shaped sd hu) ⟨.bl _, H, I, rfl, q⟩
theorem op_ninT {X : Cx} (hu : X.A.units + 65 < cLine) : OpR X (compareOp .NotIn) (rInT X.K true) := by
  intro pins s σ H x y v u Q I rx ry h
  obtain ⟨d, ds, hd, he, sd, se, q⟩ := h
  obtain ⟨as, ra⟩ := Dp.reads I d x v hd rx
  obtain ⟨bs, rb⟩ := Dp.reads I (.tuple ds) y u he ry
  exact SeqAt.notIn_tuple_reads rb ra (SeqAt.canLay_of_shaped se) (SeqAt.canLay_of_shaped sd) (room_in_shaped sd hu) ⟨.bl _, H, I, rfl, q⟩
def seqD : PyData → Option (List PyData)
  | .list ds => some ds
  | .tuple ds => some ds
  | _ => none
/-- whether x is among y's things -/
def inO (x y : W) : Option Bool := match x.toD, y.toD with
  | some d, some e => match seqD e with
    | some ds => if SeqAt.shaped d && SeqAt.shaped e then some (ds.any fun z => PyData.eqv z d) else none
    | none => none
  | _, _ => none
def inW (x y : W) : T W := match inO x y with
  | some b => .ok (.bl b)
  | none => .bad
def ninW (x y : W) : T W := match inO x y with
  | some b => .ok (.bl !b)
  | none => .bad
theorem inO_some {x y : W} {b : Bool} (h : inO x y = some b) : ∃ d e ds, x.toD = some d ∧ y.toD = some e ∧ seqD e = some ds ∧ SeqAt.shaped d = true ∧ SeqAt.shaped e = true ∧ (ds.any fun z => PyData.eqv z d) = b := by
  unfold inO at h
  split at h
  · rename_i d e h1 h2
    split at h
    · rename_i ds h3
      split at h
      · rename_i hc
        obtain ⟨c1, c2⟩ := Bool.and_eq_true_iff.mp hc
        exact ⟨d, e, ds, h1, h2, h3, c1, c2, Option.some.inj h⟩
      · cases h
    · cases h
  · cases h
theorem seqD_is {e : PyData} {ds : List PyData} (h : seqD e = some ds) : e = .list ds ∨ e = .tuple ds := by
  cases e <;> first | cases h | skip
  · exact .inl rfl
  · exact .inr rfl
theorem sem_in {K : PySem.W.Frag} : Sem2 K (fun x y H Q => rInD K x y H Q ∨ rInT K false x y H Q) inW := fun c d H x y v u Q E' wd rx ry q => by
  unfold inW at q
  split at q
  · rename_i b hb
    obtain ⟨d1, e1, ds, h1, h2, h3, s1, s2, eb⟩ := inO_some hb
    have q := PQ.now wd q (.bl _)
    rw [← eb] at q
    rcases seqD_is h3 with rfl | rfl
    · exact .inl ⟨d1, ds, rx.dp h1, ry.dp h2, s1, s2, q⟩
    · exact .inr ⟨d1, ds, rx.dp h1, ry.dp h2, s1, s2, q⟩
  · exact q.elim
theorem sem_nin {K : PySem.W.Frag} : Sem2 K (fun x y H Q => rNotInD K x y H Q ∨ rInT K true x y H Q) ninW := fun c d H x y v u Q E' wd rx ry q => by
  unfold ninW at q
  split at q
  · rename_i b hb
    obtain ⟨d1, e1, ds, h1, h2, h3, s1, s2, eb⟩ := inO_some hb
    have q := PQ.now wd q (.bl _)
    rw [← eb] at q
    rcases seqD_is h3 with rfl | rfl
    · exact .inl ⟨d1, ds, rx.dp h1, ry.dp h2, s1, s2, q⟩
    · exact .inr ⟨d1, ds, rx.dp h1, ry.dp h2, s1, s2, q⟩
  · exact q.elim
theorem Room.units65 {k : Nat} {A : Around} (r : Room k A) : A.units + 65 < cLine := by
  have := r.un
  omega
theorem op_inW {X : Cx} (hu : X.A.units + 65 < cLine) : OpR X (compareOp .In) (fun x y H Q => rInD X.K x y H Q ∨ rInT X.K false x y H Q) := opR_or (op_inD hu) (op_inT hu)
theorem op_ninW {X : Cx} (hu : X.A.units + 65 < cLine) : OpR X (compareOp .NotIn) (fun x y H Q => rNotInD X.K x y H Q ∨ rInT X.K true x y H Q) := opR_or (op_notInD hu) (op_ninT hu)
def sPar3 (i j l : Nat) (fs : En → T (List W)) : En → T (Fl × En) := fun ρ => (fs ρ).bind fun xs => match xs with
  | [x, y, z] => .ok (.nx, ((ρ.set i (.val x)).set j (.val y)).set l (.val z))
  | _ => .bad
theorem tr_par3 {X : Cx} {E : XK} {st : Stmt} {fs : En → T (List W)} {i j l : Nat} (hp : PS X st (tPar3 i j l (liftA X.K Γ (wOf E) fs))) : TrS Γ X E st (sPar3 i j l fs) := ps_imp hp fun D σ H q => by
  obtain ⟨c, d, oa, ρ, e, q⟩ := q
  refine liftA_thenS (P := fun c H => PSq X.K Γ c H D) e q (fun st p => p.later (.of st e.wd)) fun w v H1 d1 _ r1 e1 h1 => ?_
  cases r1 with
  | nil => exact h1.elim
  | cons r1 r2 =>
    cases r2 with
    | nil => exact h1.elim
    | cons r2 r3 =>
      cases r3 with
      | nil => exact h1.elim
      | cons r3 r4 =>
        cases r4 with
        | nil => exact ⟨_, _, _, rfl, h1 _ oa _ H1 .refl (((e1.set r1).set r2).set r3)⟩
        | cons _ _ => exact h1.elim
@[simp] theorem sPar3_eq (i j l : Nat) (fs : En → T (List W)) (ρ : En) : sPar3 i j l fs ρ = (fs ρ).bind fun xs => match xs with
  | [x, y, z] => .ok (.nx, ((ρ.set i (.val x)).set j (.val y)).set l (.val z))
  | _ => .bad := rfl
end PF
namespace PF
open PySem PySem.Spec PyProof.Rows L2
/-- a loop that goes on, or returns w at the first thing of which t holds -/
theorem forL_any {G : W → En → Option En} {gb : En → T (Fl × En)} {α : Type} {I : En → Prop} (m : α → W) (t : α → Bool) (w : W) : ∀ (as : List α), (∀ a ∈ as, ∀ ρ, I ρ → ∃ ρ1, G (m a) ρ = some ρ1 ∧ (t a = true → ∃ ρ2, gb ρ1 = .ok (.rt w, ρ2)) ∧ (t a = false → ∃ ρ2, gb ρ1 = .ok (.nx, ρ2) ∧ I ρ2)) →
    ∀ ρ, I ρ → (as.any t = true → ∃ ρ2, forL G gb (as.map m) ρ = .ok (.rt w, ρ2)) ∧ (as.any t = false → ∃ ρ2, forL G gb (as.map m) ρ = .ok (.nx, ρ2) ∧ I ρ2)
  | [], _, ρ, h => ⟨fun z => (by cases z), fun _ => ⟨ρ, rfl, h⟩⟩
  | a :: as, step, ρ, h => by
    obtain ⟨ρ1, g, s1, s2⟩ := step a (List.mem_cons_self ..) ρ h
    cases ht : t a with
    | true =>
      obtain ⟨ρ2, e⟩ := s1 ht
      refine ⟨fun _ => ⟨ρ2, ?_⟩, fun z => ?_⟩
      · simp only [List.map_cons, forL, g, e, T.bind_ok]
      · simp [ht] at z
    | false =>
      obtain ⟨ρ2, e, h2⟩ := s2 ht
      have ih := forL_any m t w as (fun b hb => step b (List.mem_cons_of_mem _ hb)) ρ2 h2
      simp only [List.any_cons, ht, Bool.false_or]
      refine ⟨fun z => ?_, fun z => ?_⟩
      · obtain ⟨ρ3, e3⟩ := ih.1 z
        exact ⟨ρ3, by simp only [List.map_cons, forL, g, e, T.bind_ok, e3]⟩
      · obtain ⟨ρ3, e3, h3⟩ := ih.2 z
        exact ⟨ρ3, by simp only [List.map_cons, forL, g, e, T.bind_ok, e3], h3⟩
end PF
namespace PF
open PySem PySem.Spec PyProof.Rows L2
def lexI : List Int → List Int → Bool
  | [], [] => false
  | [], _ :: _ => true
  | _ :: _, [] => false
  | x :: xs, y :: ys => if x = y then lexI xs ys else decide (x < y)
theorem lexI_asym : ∀ {x y : List Int}, lexI x y = true → lexI y x = false
  | [], [], h => by cases h
  | [], _ :: _, _ => rfl
  | _ :: _, [], h => by cases h
  | x :: xs, y :: ys, h => by
    unfold lexI at h ⊢
    by_cases e : x = y
    · rw [if_pos e] at h
      rw [if_pos e.symm]
      exact lexI_asym h
    · rw [if_neg e] at h
      rw [if_neg (Ne.symm e)]
      have := of_decide_eq_true h
      exact decide_eq_false (by omega)
theorem lexI_tri : ∀ {x y : List Int}, lexI x y = false → lexI y x = false → x = y
  | [], [], _, _ => rfl
  | [], _ :: _, h, _ => by cases h
  | _ :: _, [], _, h => by cases h
  | x :: xs, y :: ys, h, g => by
    unfold lexI at h g
    by_cases e : x = y
    · rw [if_pos e] at h
      rw [if_pos e.symm] at g
      rw [e, lexI_tri h g]
    · rw [if_neg e] at h
      rw [if_neg (Ne.symm e)] at g
      have := of_decide_eq_false h
      have := of_decide_eq_false g
      omega
theorem lexI_trans : ∀ {x y z : List Int}, lexI x y = true → lexI y z = true → lexI x z = true
  | [], [], _, h, _ => by cases h
  | _ :: _, [], _, h, _ => by cases h
  | [], _ :: _, [], _, h => by cases h
  | [], _ :: _, _ :: _, _, _ => rfl
  | _ :: _, _ :: _, [], _, h => by cases h
  | x :: xs, y :: ys, z :: zs, h, g => by
    unfold lexI at h g ⊢
    by_cases e : x = y
    · rw [if_pos e] at h
      by_cases e2 : y = z
      · rw [if_pos e2] at g
        rw [if_pos (e.trans e2)]
        exact lexI_trans h g
      · rw [if_neg e2] at g
        rw [if_neg (by rw [e]; exact e2), e]
        exact g
    · rw [if_neg e] at h
      have h := of_decide_eq_true h
      by_cases e2 : y = z
      · rw [if_neg (by rw [← e2]; exact e), ← e2]
        exact decide_eq_true h
      · rw [if_neg e2] at g
        have g := of_decide_eq_true g
        rw [if_neg (by omega)]
        exact decide_eq_true (by omega)
theorem lexI_le {x y z : List Int} (h1 : lexI y x = false) (h2 : lexI z y = false) : lexI z x = false := by
  cases h : lexI z x with
  | false => rfl
  | true =>
    cases g : lexI x y with
    | true =>
      have := lexI_trans h g
      rw [this] at h2
      cases h2
    | false =>
      have e := lexI_tri g h1
      rw [e] at h
      rw [h] at h2
      cases h2
def insK (x : List Int) : List (List Int) → List (List Int)
  | [] => [x]
  | y :: ys => if lexI y x then y :: insK x ys else x :: y :: ys
def sortK : List (List Int) → List (List Int)
  | [] => []
  | x :: xs => insK x (sortK xs)
theorem insK_perm (x : List Int) : ∀ l, (insK x l).Perm (x :: l)
  | [] => .refl _
  | y :: ys => by
    unfold insK
    split
    · exact ((insK_perm x ys).cons y).trans (.swap x y ys)
    · exact .refl _
theorem sortK_perm : ∀ l, (sortK l).Perm l
  | [] => .refl _
  | x :: xs => (insK_perm x _).trans ((sortK_perm xs).cons x)
abbrev SrtK (l : List (List Int)) : Prop := l.Pairwise fun x y => lexI y x = false
theorem insK_srt {x : List Int} : ∀ {l}, SrtK l → SrtK (insK x l)
  | [], _ => List.pairwise_singleton _ _
  | y :: ys, h => by
    obtain ⟨h1, h2⟩ := List.pairwise_cons.mp h
    unfold insK
    cases hl : lexI y x with
    | true =>
      rw [if_pos rfl]
      refine List.pairwise_cons.mpr ⟨fun z hz => ?_, insK_srt h2⟩
      rcases List.mem_cons.mp ((insK_perm x ys).mem_iff.mp hz) with rfl | hz
      · exact lexI_asym hl
      · exact h1 z hz
    | false =>
      rw [if_neg (by simp)]
      refine List.pairwise_cons.mpr ⟨fun z hz => ?_, h⟩
      rcases List.mem_cons.mp hz with rfl | hz
      · exact hl
      · exact lexI_le hl (h1 z hz)
theorem sortK_srt : ∀ l, SrtK (sortK l)
  | [] => List.Pairwise.nil
  | x :: xs => insK_srt (sortK_srt xs)
theorem srtK_uniq {l m : List (List Int)} (h : SrtK l) (g : SrtK m) (p : l.Perm m) : l = m := List.Perm.eq_of_pairwise (fun a b _ _ h1 h2 => lexI_tri h2 h1) h g p
def TupI (h : Heap) (v : Value) (ns : List Int) : Prop := ∃ (a : Addr) (o : Obj) (its : List Value) (n : Nat), v = .ref a ∧ h.get? a = some o ∧ o.cls = .type "tuple" ∧ o.data = .seq its.toArray n ∧ IntsAre its ns
theorem TupI.keeps {h h' : Heap} {v : Value} {ns : List Int} (t : TupI h v ns) (k : ∀ b o, h.get? b = some o → o.cls = .type "tuple" → h'.get? b = some o) : TupI h' v ns := by
  obtain ⟨a, o, its, n, e, ho, hc, hd, hi⟩ := t
  exact ⟨a, o, its, n, e, k _ _ ho hc, hc, hd, hi⟩
def numV : Value → Int
  | .int i _ => i
  | _ => 0
def kH (h : Heap) (v : Value) : List Int := match v with
  | .ref a => match h.get? a with
    | some o => match o.data with
      | .seq its _ => its.toList.map numV
      | _ => []
    | none => []
  | _ => []
theorem ints_num : ∀ {its : List Value} {ns : List Int}, IntsAre its ns → its.map numV = ns
  | _, _, .nil => rfl
  | _, _, .cons n t h => by
    rw [List.map_cons, ints_num h]
    rfl
theorem TupI.kH {h : Heap} {v : Value} {ns : List Int} (t : TupI h v ns) : kH h v = ns := by
  obtain ⟨a, o, its, n, rfl, ho, hc, hd, hi⟩ := t
  unfold PF.kH
  simp only [ho, hd]
  exact ints_num hi
section
variable {prog : Program} {w : World} {A : Around} {E : Value → Shared → Prop} {s : Shared} {Q : Bool → Shared → Prop}
theorem kat_ints {b fin : Bool} : ∀ {xs ys : List Value} {ns ms : List Int} (i : Nat), IntsAre xs ns → IntsAre ys ms → fin = decide (ns.length < ms.length) → Q (lexI ns ms) s → PySem.W.KatLex prog w A b fin Q (xs.zip ys) i s
  | _, _, _, _, i, .nil, .nil, hf, q => PySem.W.kat_nil (by rw [hf]; exact q)
  | _, _, _, _, i, .nil, .cons m u _, hf, q => PySem.W.kat_nil (by rw [hf]; exact q)
  | _, _, _, _, i, .cons n t _, .nil, hf, q => PySem.W.kat_nil (by rw [hf]; exact q)
  | _, _, _, _, i, .cons n t (ns := ns) hx, .cons m u (ns := ms) hy, hf, q => by
    refine PySem.W.kat_cons (SeqAt.EqAt.int_int n t m u prog w _ _ ?_)
    refine PySem.W.kat_go (fun e => ?_) (fun e => ?_)
    · have e : n = m := by simpa using e
      refine PySem.W.kat_yes (kat_ints (i + 1) hx hy (by rw [hf]; simp) ?_)
      unfold lexI at q
      rw [if_pos e] at q
      exact q
    · have e : ¬ n = m := by simpa using e
      unfold lexI at q
      rw [if_neg e] at q
      exact PySem.W.kat_no (TS.oneLt_ints _ q)
theorem tup_cmp {vs : List Value} (hp : ∀ v ∈ vs, TupI s.heap v (kH s.heap v)) : SrtO.Cmp prog w A s (tuples' true) (fun p => p.1 ∈ vs) (SrtO.lt2 fun v u => lexI (kH s.heap v) (kH s.heap u)) := by
  intro p q hm hm'
  have h1 := hp _ hm
  have h2 := hp _ hm'
  show wpAny (model prog w) A (keyLt' (tuples' true) p.1 q.1) (fun r s' => s' = s ∧ r = lexI (kH s.heap p.1) (kH s.heap q.1)) (fun _ _ => False) s
  generalize kH s.heap p.1 = x at h1 ⊢
  generalize kH s.heap q.1 = y at h2 ⊢
  obtain ⟨a, o, its, n, e, ho, hc, hd, hi⟩ := h1
  obtain ⟨a', o', its', n', e', ho', hc', hd', hi'⟩ := h2
  rw [e, e']
  refine PySem.W.kat_lt ho hd ho' hd' ?_
  have l1 := hi.length
  have l2 := hi'.length
  exact kat_ints 0 hi hi' (by simp only [List.size_toArray]; rw [l1, l2]) ⟨rfl, rfl⟩
theorem tup_firsts {h : Heap} : ∀ {vs : List Value}, (∀ v ∈ vs, ∃ ns, TupI h v ns ∧ ns ≠ []) → ∃ fs : List Value, PySem.W.KatTups h vs fs ∧ fs.length = vs.length ∧ ∀ f ∈ fs, ∃ x t, f = Value.int x t
  | [], _ => ⟨[], PySem.W.KatTups.nil, rfl, fun _ hm => by simp at hm⟩
  | v :: vs, hp => by
    obtain ⟨fs, h1, h2, h3⟩ := tup_firsts (vs := vs) fun u hm => hp u (List.mem_cons_of_mem _ hm)
    obtain ⟨ns, ⟨a, o, its, n, rfl, ho, hc, hd, hi⟩, hne⟩ := hp v (List.mem_cons_self ..)
    cases hi with
    | nil => exact absurd rfl hne
    | cons x t r =>
      refine ⟨.int x t :: fs, PySem.W.KatTups.cons ho hc hd rfl h1, by rw [List.length_cons, List.length_cons, h2], fun f hm => ?_⟩
      rcases List.mem_cons.mp hm with rfl | hm
      · exact ⟨x, t, rfl⟩
      · exact h3 f hm
theorem tup_sortable {a : Addr} {vs : List Value} {k : Value → List Int} (h0 : 0 < vs.length) (hp : ∀ v ∈ vs, TupI s.heap v (k v) ∧ k v ≠ []) (ha : ∀ o, s.heap.get? a = some o → o.cls ≠ .type "tuple") : SrtO.SortableO prog w A s a vs fun v u => lexI (k v) (k u) := by
  intro h' keep
  have hp' : ∀ v ∈ vs, TupI h' v (k v) := fun v hm => (hp v hm).1.keeps fun b o e c => keep b o (fun z => by subst z; exact ha o e c) e
  obtain ⟨fs, h1, h2, h3⟩ := tup_firsts fun v hm => ⟨_, hp' v hm, (hp v hm).2⟩
  refine ⟨tuples' true, fun Q E hq => ?_, fun p q hm hm' => ?_⟩
  · refine PySem.W.kat_kind (T := .type "int") h1 (by omega) (fun f hm => ?_) (by rfl) ?_
    · obtain ⟨x, t, rfl⟩ := h3 f hm
      exact PySem.W.Looks.now
    · have e : (Value.type "int" != Value.type "tuple") = true := by first | decide +kernel | rfl | decide
      rw [e]
      exact hq
  · have c := tup_cmp (prog := prog) (w := w) (A := A) (s := { s with heap := h' }) (vs := vs) (fun v hv => by rw [(hp' v hv).kH]; exact hp' v hv) p q hm hm'
    have e1 : kH h' p.1 = k p.1 := (hp' _ hm).kH
    have e2 : kH h' q.1 = k q.1 := (hp' _ hm').kH
    refine wpAny_mono c (fun r s' z => ⟨z.1, z.2.trans ?_⟩) fun _ _ z => z
    show lexI (kH h' p.1) (kH h' q.1) = lexI (k p.1) (k q.1)
    rw [e1, e2]
end
theorem swoI (k : Value → List Int) : SrtO.Swo fun v u => lexI (k v) (k u) := ⟨fun _ _ h => lexI_asym h, fun _ _ _ h1 h2 => lexI_le h1 h2⟩
theorem sorted_tups {prog : Program} {w : World} {A : Around} {E : Value → Shared → Prop} {s : Shared} {l : Addr} {vs : List Value} {k : Value → List Int} {Q : Value → Shared → Prop} (hl : s.heap.IsList l vs.toArray) (hz : vs.length ≤ sizeLine) (hp : ∀ v ∈ vs, TupI s.heap v (k v) ∧ k v ≠ [])
    (h : ∀ (h' : Heap) (d : Addr) (out : List Value), SrtO.Srtd (fun v u => lexI (k v) (k u)) out → out.Perm vs → (∀ b o, s.heap.get? b = some o → h'.get? b = some o) → s.heap.objs.size ≤ d → (∃ n, h'.get? d = some (seqObj "list" out.toArray n)) → Q (.ref d) { s with heap := h' }) :
    wpAny (model prog w) A (call (.builtin "sorted") [.ref l]) Q E s := by
  refine SrtO.sorted_ord (swoI k) hl hz (fun h2 h₁ a ha kk => ?_) fun out hs hb => ?_
  · refine tup_sortable (s := { s with heap := h₁ }) (by omega) (fun v hm => ⟨(hp v hm).1.keeps fun b o e _ => (kk b o e).2, (hp v hm).2⟩) fun o e => ?_
    have e' : some o = some (seqObj "list" vs.toArray 0) := e.symm.trans ha
    cases e'
    exact fun c => absurd (Value.type.inj c) (by decide)
  · exact h _ _ out hs hb.perm (fun b o e => sortedAll_old e) (Nat.le_succ _) (sortedAll_at s.heap vs out.toArray)
inductive PT (K : PySem.W.Frag) (H : Hp) : List (List Int) → List V → Prop
  | nil : PT K H [] []
  | cons {ns : List Int} {t : Addr} {kss : List (List Int)} {xs : List V} : SqT K H t (ns.map V.int) → PT K H kss xs → PT K H (ns :: kss) (.ref t :: xs)
def rSortT (K : PySem.W.Frag) : List V → Hp → VK → Prop := fun vs H Q => ∃ (a : Addr) (xs : List V) (kss : List (List Int)), vs = [V.ref a] ∧ SqL K H a xs ∧ PT K H kss xs ∧ (∀ ns ∈ kss, ns ≠ []) ∧ ∀ ys p, PT K H (sortK kss) ys → H p = none → Q (.ref p) (L2.upd H p (.lst ys))
section
variable {X : Cx} {pins : List (Addr × Obj)} {σ : L2.St} {H : Hp} {s : Shared}
theorem ints_of : ∀ {ns : List Int} {us : List Value}, Vals (ns.map V.int) us → IntsAre us ns
  | [], _, .nil => .nil
  | n :: ns, _, .cons r t => by
    obtain ⟨u, rfl⟩ := r
    exact .cons n u (ints_of t)
theorem PT.tups (I : Inv X pins σ H s) : ∀ {kss : List (List Int)} {xs : List V} {us : List Value}, PT X.K H kss xs → Vals xs us → xs = us.map backV ∧ us.map (kH s.heap) = kss ∧ (∀ u ∈ us, ∃ t, u = .ref t ∧ TupI s.heap u (kH s.heap u) ∧ SqT X.K H t ((kH s.heap u).map V.int))
  | _, _, _, .nil, .nil => ⟨rfl, rfl, fun u h => by cases h⟩
  | _, _, _, .cons (ns := ns) (t := t) hs r, .cons (b := u) ru rr => by
    have ru : u = Value.ref t := ru
    subst ru
    obtain ⟨e1, e2, e3⟩ := PT.tups I r rr
    obtain ⟨its, rv, ⟨o, ho, hc, n, hd⟩, _⟩ := I.tuple hs
    have ti : TupI s.heap (.ref t) ns := ⟨t, o, its, n, rfl, ho, hc, hd, ints_of rv⟩
    refine ⟨by rw [e1]; rfl, by rw [List.map_cons, e2, ti.kH], fun v hv => ?_⟩
    rcases List.mem_cons.mp hv with rfl | hv
    · exact ⟨t, rfl, by rw [ti.kH]; exact ti, by rw [ti.kH]; exact hs⟩
    · exact e3 v hv
theorem PT.back {K : PySem.W.Frag} {h : Heap} : ∀ {out : List Value}, (∀ u ∈ out, ∃ t, u = Value.ref t ∧ SqT K H t ((kH h u).map V.int)) → PT K H (out.map (kH h)) (out.map backV)
  | [], _ => .nil
  | u :: out, hp => by
    obtain ⟨t, rfl, hs⟩ := hp u (List.mem_cons_self ..)
    exact .cons hs (PT.back fun v hv => hp v (List.mem_cons_of_mem _ hv))
theorem cr_sortT : CallR X (.builtin "sorted") (rSortT X.K) := by
  intro pins s σ H vs us Q I r h
  obtain ⟨a, xs, kss, rfl, hs, hp, hne, q⟩ := h
  obtain ⟨its, rv, hl, hz⟩ := I.list hs
  obtain ⟨u, rfl, ru⟩ := vals1 r
  obtain rfl : u = Value.ref a := ru
  obtain ⟨e1, e2, e3⟩ := PT.tups I hp rv
  refine sorted_tups (k := kH s.heap) hl.isList (by rw [← rv.length]; exact hz) (fun v hv => ?_) fun h' d out h1 h2 kp hd hn => ?_
  · obtain ⟨t, _, ti, _⟩ := e3 v hv
    exact ⟨ti, hne _ (by rw [← e2]; exact List.mem_map.mpr ⟨v, hv, rfl⟩)⟩
  · have h3 : ∀ u ∈ out, ∃ t, u = Value.ref t ∧ SqT X.K H t ((kH s.heap u).map V.int) := fun u hu => by
      obtain ⟨t, e, _, z⟩ := e3 u (h2.mem_iff.mp hu)
      exact ⟨t, e, z⟩
    obtain ⟨n, hn⟩ := hn
    have ek : out.map (kH s.heap) = sortK kss := by
      refine srtK_uniq (List.pairwise_map.mpr h1) (sortK_srt kss) ?_
      exact (h2.map _).trans (by rw [e2]; exact (sortK_perm kss).symm)
    have pb := PT.back h3
    rw [ek] at pb
    refine ⟨.ref d, L2.upd H d (.lst (out.map backV)), I.laid (t' := s.toks) kp hd ⟨?_, out, n, vals_back fun u hu => ?_, hn⟩, rfl, q _ d pb (I.hok.fresh hd)⟩
    · rw [List.length_map, h2.length_eq, ← rv.length]
      exact hz
    · obtain ⟨t, e, _⟩ := h3 u hu
      exact ⟨t, e⟩
end
def rowsW : List W → Option (List (List Int))
  | [] => some []
  | .tup us :: ws => match intsW us, rowsW ws with
    | some (n :: ns), some kss => some ((n :: ns) :: kss)
    | _, _ => none
  | _ => none
theorem rowsW_map : ∀ {ws : List W} {kss : List (List Int)}, rowsW ws = some kss → ws = kss.map (fun ns => W.tup (ns.map W.int)) ∧ ∀ ns ∈ kss, ns ≠ []
  | [], kss, h => by
    cases h
    exact ⟨rfl, fun _ h => by cases h⟩
  | w :: ws, kss, h => by
    cases w with
    | tup us =>
      simp only [rowsW] at h
      split at h
      · rename_i n ns ks h1 h2
        cases h
        obtain ⟨e, hn⟩ := rowsW_map h2
        refine ⟨by rw [e, intsW_map h1]; rfl, fun x hx => ?_⟩
        rcases List.mem_cons.mp hx with rfl | hx
        · simp
        · exact hn x hx
      · cases h
    | _ => cases h
theorem rowsW_of : ∀ {kss : List (List Int)}, (∀ ns ∈ kss, ns ≠ []) → rowsW (kss.map (fun ns => W.tup (ns.map W.int))) = some kss
  | [], _ => rfl
  | [] :: kss, h => absurd rfl (h [] (List.mem_cons_self ..))
  | (n :: ns) :: kss, h => by
    have ih := rowsW_of fun x hx => h x (List.mem_cons_of_mem _ hx)
    have e : intsW ((n :: ns).map W.int) = some (n :: ns) := intsW_of _
    simp only [List.map_cons] at e ⊢
    simp only [rowsW, e, ih]
def sortedW : List W → T W
  | [.lst ws] => match rowsW ws with
    | some kss => .ok (.lst ((sortK kss).map fun ns => W.tup (ns.map W.int)))
    | none => .bad
  | _ => .bad
theorem RepL.pt {K : PySem.W.Frag} {c : Cc} {H : Hp} : ∀ {kss : List (List Int)} {xs : List V}, RepL K c H (kss.map fun ns => W.tup (ns.map W.int)) xs → PT K H kss xs
  | [], _, .nil => .nil
  | ns :: kss, _, .cons h r => by
    cases h with
    | tup hs rl =>
      rw [rl.ints] at hs
      exact .cons hs (RepL.pt r)
theorem PT.rep {K : PySem.W.Frag} {c : Cc} {H : Hp} : ∀ {kss : List (List Int)} {xs : List V}, PT K H kss xs → RepL K c H (kss.map fun ns => W.tup (ns.map W.int)) xs
  | _, _, .nil => .nil
  | _, _, .cons h r => .cons (.tup h (RepL.ofInts _)) (PT.rep r)
theorem sem_sorted {K : PySem.W.Frag} : SemL K (rSortT K) sortedW := fun c d H x v Q E' wd rx q => by
  cases rx with
  | nil => exact q.elim
  | cons r rr =>
    cases rr with
    | cons _ _ => cases r <;> exact q.elim
    | nil =>
      cases r with
      | lst n hq rl =>
        simp only [sortedW] at q
        split at q
        · rename_i kss hk
          obtain ⟨e, hn⟩ := rowsW_map hk
          rw [e] at rl
          refine ⟨_, _, kss, rfl, SqL.of hq, rl.pt, hn, fun ys p hp hf => ?_⟩
          exact q _ _ (.new hf) (wd.st.new hf) (.lst (wd.fresh hf) upd_same ((hp.rep).step (.new hf) wd.st wd.ok))
        · exact q.elim
      | _ => exact q.elim
theorem bo_sorted : bootBuiltins "sorted" = some (.builtin "sorted") := by decide +kernel
end PF
namespace PF
open PySem PySem.Spec PyProof.Rows L2
def SqB (K : PySem.W.Frag) (b : Bool) (H : Hp) (a : Addr) (xs : List V) : Prop := match b with
  | true => SqT K H a xs
  | false => SqL K H a xs
def hpB (b : Bool) (h : Heap) (a : Addr) (its : Array Value) : Prop := match b with
  | true => h.IsTuple a its
  | false => h.IsList a its
def itB (b : Bool) (h : Heap) (it a : Addr) (i : Nat) : Prop := match b with
  | true => h.IsTupleIter it a i
  | false => h.IsListIter it a i
def obB (b : Bool) (a : Addr) : Obj := { cls := .type (match b with | true => "tuple_iterator" | false => "list_iterator"), data := .fields #[.ref a, .int 0 0] }
theorem seqB {X : Cx} {pins : List (Addr × Obj)} {σ : L2.St} {H : Hp} {s : Shared} {b : Bool} {a : Addr} {xs : List V} (I : Inv X pins σ H s) (h : SqB X.K b H a xs) : ∃ its, Vals xs its ∧ hpB b s.heap a its.toArray := by
  cases b with
  | true =>
    obtain ⟨its, rv, p, _⟩ := I.tuple h
    exact ⟨its, rv, p⟩
  | false =>
    obtain ⟨its, rv, p, _⟩ := I.list h
    exact ⟨its, rv, p.isList⟩
theorem seqB_inj {X : Cx} {pins : List (Addr × Obj)} {σ : L2.St} {H : Hp} {s : Shared} {b : Bool} {a : Addr} {xs ys : List V} (I : Inv X pins σ H s) (h : SqB X.K b H a xs) (g : SqB X.K b H a ys) : xs = ys := by
  cases b with
  | true => exact I.tuple_inj h g
  | false => exact I.list_inj h g
theorem hpB.lt {b : Bool} {h : Heap} {a : Addr} {its : Array Value} (p : hpB b h a its) : a < h.objs.size := by
  cases b with
  | true =>
    obtain ⟨_, q, _⟩ := id (show h.IsTuple a its from p)
    exact Heap.lt_size q
  | false =>
    obtain ⟨_, q, _⟩ := id (show h.IsList a its from p)
    exact Heap.lt_size q
theorem itB.keep {b : Bool} {h h' : Heap} {it a : Addr} {i : Nat} (p : itB b h it a i) (k : ∀ o, h.get? it = some o → h'.get? it = some o) : itB b h' it a i := by
  cases b with
  | true => exact Heap.IsTupleIter.at (show h.IsTupleIter it a i from p) k
  | false => exact Heap.IsListIter.at (show h.IsListIter it a i from p) k
theorem itB.obj {b : Bool} {h : Heap} {it a : Addr} {i : Nat} (p : itB b h it a i) : ∃ o fs, h.get? it = some o ∧ o.data = .fields fs := by
  cases b with
  | true =>
    obtain ⟨o, q, _, d⟩ := (show h.IsTupleIter it a i from p)
    exact ⟨o, _, q, d⟩
  | false =>
    obtain ⟨o, q, _, d⟩ := (show h.IsListIter it a i from p)
    exact ⟨o, _, q, d⟩
theorem drawsB {prog : Program} {w : World} {A : Around} (hh : A.handled = none) (b : Bool) (it a : Addr) (n : a ≠ it) (its : Array Value) : Draws prog w A it [it, a] its.size (fun i v => its[i]? = some v) (fun i h => itB b h it a i ∧ hpB b h a its) := by
  cases b with
  | true => exact Draws.tuple hh it a n its
  | false => exact Draws.list hh it a n its
theorem beginsB (b : Bool) (a : Addr) (its : Array Value) : Begins (.ref a) (obB b a) fun h => hpB b h a its := by
  cases b with
  | true => exact begins_tuple a its
  | false => exact begins_list a its
theorem itB.first {b : Bool} {h : Heap} {it a : Addr} (p : h.get? it = some (obB b a)) : itB b h it a 0 := by
  cases b with
  | true => exact ⟨_, p, rfl, rfl⟩
  | false => exact ⟨_, p, rfl, rfl⟩
/-- two rows of either kind, item by item in new pairs -/
def ItzB (K : PySem.W.Frag) (b1 b2 : Bool) (a b : Addr) (n m : Nat) : It :=
  ⟨fun i H => (i < n ∧ i < m) ∧ ∃ (xs ys : List V) (x y : V), SqB K b1 H a xs ∧ SqB K b2 H b ys ∧ (xs.length = n ∧ ys.length = m) ∧ xs[i]? = some x ∧ ys[i]? = some y,
    fun i H v H' => ∃ T x y, v = .ref T ∧ H T = none ∧ H' = upd H T (.tup [x, y]) ∧ (∀ xs, SqB K b1 H a xs → xs[i]? = some x) ∧ ∀ ys, SqB K b2 H b ys → ys[i]? = some y,
    fun i H => (n ≤ i ∨ m ≤ i) ∧ ∃ xs ys : List V, SqB K b1 H a xs ∧ SqB K b2 H b ys ∧ xs.length = n ∧ ys.length = m⟩
theorem in5 {P : Addr → Prop} {z TI TO i1 i2 : Addr} (h1 : P z) (h2 : P TI) (h3 : P TO) (h4 : P i1) (h5 : P i2) : ∀ c, c ∈ [z, TI, TO, i1, i2] → P c := fun c hc => by
  simp only [List.mem_cons, List.not_mem_nil, or_false] at hc
  rcases hc with e | e | e | e | e <;> (rw [e]; assumption)
theorem turn_zB {P : Program} {w : World} {K : PySem.W.Frag} {elts : List Expr} {kk : Nat} {tpos : Pos} {b1 b2 : Bool} {a b z TI TO i1 i2 : Addr} (n m : Nat) (D : ZipSep2 z TI TO i1 i2 [i1, a] [i2, b]) (na : a ≠ i1) (nb : b ≠ i2) :
    Turn P w K (.Tuple elts kk tpos) (ItzB K b1 b2 a b n m) [z, TI, TO, i1, i2] z (fun i h => IsZip h z TI TO .none ∧ IsTupOf2 h TI (.ref i1) (.ref i2) ∧ (∃ x y, IsTupOf2 h TO x y) ∧ itB b1 h i1 a i ∧ itB b2 h i2 b i ∧ i ≤ n ∧ i ≤ m) where
  mem := List.mem_cons_self ..
  obj := fun i h st => by
    obtain ⟨hz, hTI, ⟨x, y, hTO⟩, p1, p2, _⟩ := st
    obtain ⟨o1, f1, e1, d1⟩ := p1.obj
    obtain ⟨o2, f2, e2, d2⟩ := p2.obj
    refine in5 ⟨_, hz, fun v q => nomatch q⟩ ⟨_, hTI, fun v q => nomatch q⟩ ⟨_, hTO, fun v q => nomatch q⟩ ⟨o1, e1, fun v q => ?_⟩ ⟨o2, e2, fun v q => ?_⟩
    · rw [d1] at q
      cases q
    · rw [d2] at q
      cases q
  keep := fun i h h' st k => by
    obtain ⟨hz, hTI, ⟨x, y, hTO⟩, p1, p2, le⟩ := st
    exact ⟨k z (by simp) _ hz, k TI (by simp) _ hTI, ⟨x, y, k TO (by simp) _ hTO⟩, p1.keep (k i1 (by simp)), p2.keep (k i2 (by simp)), le⟩
  item := by
    intro X hP hw hK hc i pins s σ H E I hf st hg
    subst hP hw hK
    obtain ⟨hz, hTI, ⟨x0, y0, hTO⟩, p1, p2, _⟩ := st
    obtain ⟨hi, xs, ys, x, y, qx, qy, hl, hx, hy⟩ := hg
    obtain ⟨its, rv, r1⟩ := seqB I qx
    obtain ⟨its2, rv2, r2⟩ := seqB I qy
    obtain ⟨u, hu, ru⟩ := rv.get hx
    obtain ⟨u2, hu2, ru2⟩ := rv2.get hy
    have l1 := rv.length
    have l2 := rv2.length
    have zl : z < s.heap.objs.size := Heap.lt_size hz
    have D1 := drawsB (prog := X.prog) (w := X.w) (A := X.A.in1) (I.ok.hd hc) b1 i1 a na its.toArray
    have D2 := drawsB (prog := X.prog) (w := X.w) (A := X.A.in1) (I.ok.hd hc) b2 i2 b nb its2.toArray
    refine wpAny_pyNext_zipD2_item D D1 D2 hz hTI hTO ⟨p1, r1⟩ ⟨p2, r2⟩ (by simp; omega) (by simp; omega) fun x1 x2 h' tk g1 g2 z' TO' s1 s2 hT hsz hk => ?_
    have eu : x1 = u := by
      have g1 : its[i]? = some x1 := by simpa using g1
      rw [hu] at g1
      exact (Option.some.inj g1).symm
    have eu2 : x2 = u2 := by
      have g2 : its2[i]? = some x2 := by simpa using g2
      rw [hu2] at g2
      exact (Option.some.inj g2).symm
    subst eu eu2
    refine ⟨_, rfl, wpAny_letOwnedTupleGo_zip (s := { s with heap := h', toks := tk }) z' fun h'' z'' sb => ?_⟩
    have hT2 : h''.get? s.heap.objs.size = some { cls := .type "tuple", data := .seq #[x1, x2] } := (sb.2 _ (Nat.ne_of_gt zl)).trans hT
    have nw : ObjOk X.prog X.w (upd H s.heap.objs.size (.tup [x, y])) h'' s.heap.objs.size (.tup [x, y]) := ⟨by show 2 ≤ sizeLine; decide, [x1, x2], .cons ru (.cons ru2 .nil), ⟨_, hT2, rfl, _, rfl⟩⟩
    have out : ∀ c o, c ∉ [z, TI, TO, i1, i2] → s.heap.get? c = some o → h''.get? c = some o := fun c o hb q => by
      simp only [List.mem_cons, List.not_mem_nil, or_false, not_or] at hb
      exact (sb.2 c hb.1).trans (hk c o hb.1 hb.2.2.1 hb.2.2.2.1 hb.2.2.2.2 q)
    have I1 : Inv X pins σ (upd H s.heap.objs.size (.tup [x, y])) { s with heap := h'', toks := tk } := I.turnedNew (ch := [z, TI, TO, i1, i2]) out hf (Nat.le_refl _) nw
    refine ⟨.ref s.heap.objs.size, _, I1, rfl, ⟨_, x, y, rfl, I.hok.fresh (Nat.le_refl _), rfl, fun l q => by rw [seqB_inj I q qx]; exact hx, fun l q => by rw [seqB_inj I q qy]; exact hy⟩, ⟨z'', ?_, ⟨x1, x2, ?_⟩, ?_, ?_, hi.1, hi.2⟩, fun c hcm => ?_⟩
    · exact (sb.2 _ D.TIz).trans (hk _ _ D.TIz D.TITO D.TIi1 D.TIi2 hTI)
    · exact (sb.2 _ D.TOz).trans TO'
    · exact s1.1.keep fun o q => (sb.2 _ (Ne.symm D.zi1)).trans q
    · exact s2.1.keep fun o q => (sb.2 _ (Ne.symm D.zi2)).trans q
    · obtain ⟨_, _, e1, _⟩ := p1.obj
      obtain ⟨_, _, e2, _⟩ := p2.obj
      have hlt : c < s.heap.objs.size := in5 (P := fun c => c < s.heap.objs.size) zl (Heap.lt_size hTI) (Heap.lt_size hTO) (Heap.lt_size e1) (Heap.lt_size e2) c hcm
      rw [upd_ne (Nat.ne_of_lt hlt)]
      exact (hf c hcm).1
  done := by
    intro X hP hw hK hc i pins s σ H E I hf st hg
    subst hP hw hK
    obtain ⟨hz, hTI, ⟨x0, y0, hTO⟩, p1, p2, le1, le2⟩ := st
    obtain ⟨he, xs, ys, qx, qy, lx, ly⟩ := hg
    obtain ⟨its, rv, r1⟩ := seqB I qx
    obtain ⟨its2, rv2, r2⟩ := seqB I qy
    have l1 := rv.length
    have l2 := rv2.length
    have D1 := drawsB (prog := X.prog) (w := X.w) (A := X.A.in1) (I.ok.hd hc) b1 i1 a na its.toArray
    have D2 := drawsB (prog := X.prog) (w := X.w) (A := X.A.in1) (I.ok.hd hc) b2 i2 b nb its2.toArray
    refine wpAny_pyNext_zipD2_end D D1 D2 hz hTI hTO ⟨p1, r1⟩ ⟨p2, r2⟩ (by simp; omega) (by simp; omega) (by simp; omega) fun h' tk hk => ⟨rfl, I.turnedL (ch := [z, TI, TO, i1, i2]) (fun c o hb q => ?_) hf⟩
    simp only [List.mem_cons, List.not_mem_nil, or_false, not_or] at hb
    exact hk c o hb.1 hb.2.2.1 hb.2.2.2.1 hb.2.2.2.2 q
  self := fun A i s Q E st h => wpAny_pyIter_zip st.1 h
theorem sep_zB {I l m : Nat} (h1 : l < I) (h2 : m < I) : ZipSep2 (I + 4) (I + 2) (I + 3) I (I + 1) [I, l] [I + 1, m] := by
  have no : ∀ {x y z : Nat}, x ≠ y → x ≠ z → x ∉ [y, z] := fun a b q => by
    rcases List.mem_cons.mp q with q | q
    · exact a q
    · exact b (List.mem_singleton.mp q)
  have mm : ∀ {x y : Nat}, x ∈ [x, y] := List.mem_cons_self ..
  exact ⟨by show (_ : Nat) ≠ _; omega, by show (_ : Nat) ≠ _; omega, by show (_ : Nat) ≠ _; omega, by show (_ : Nat) ≠ _; omega, mm, no (by omega) (by omega), no (by omega) (by omega), by show (_ : Nat) ≠ _; omega, mm, no (by omega) (by omega), no (by omega) (by omega), no (by omega) (by omega), no (by omega) (by omega)⟩
def iZB (K : PySem.W.Frag) (ta : TA) : TI := fun σ H R => ta σ H fun vs H1 => ∃ b1 b2 a b xs ys, vs = [.ref a, .ref b] ∧ SqB K b1 H1 a xs ∧ SqB K b2 H1 b ys ∧ R (ItzB K b1 b2 a b xs.length ys.length) H1
theorem pi_zB {X : Cx} {e e2 : Expr} {ta : TA} {p pos tpos : Pos} {elts : List Expr} {kk : Nat} (hg : Gl X "zip") (hm : X.mg "zip" = none) (ha : PA X [e, e2] ta)
    (hs : starEach [e, e2] X.env = (false, eval e X.env) :: starEach [e2] X.env := by rfl) (hpl : (backTo pos (starEach [e2] X.env)).any (·.1) = false := by rfl) :
    PI X (.Tuple elts kk tpos) (.Call (.Name "zip" p) [e, e2] [] pos) (iZB X.K ta) := by
  refine ⟨fun pins s σ H R I h => Call_ (ld_blt I hg hm PyProof.Rows.boot_zip (PyProof.Rows.callWith_type1 (thn (ha.run pos pins s σ H _ I h) fun us s1 ⟨vs, H1, I1, r1, q1⟩ => ?_) hs hpl))⟩
  obtain ⟨b1, b2, a, b, xs, ys, rfl, qx, qy, q⟩ := q1
  cases r1 with
  | cons r rr =>
    cases rr with
    | cons r' rr =>
      cases rr
      cases r
      cases r'
      obtain ⟨its, rv, p1⟩ := seqB I1 qx
      obtain ⟨its2, rv2, p2⟩ := seqB I1 qy
      have la := p1.lt
      have lb := p2.lt
      refine zip_begins2 (beginsB b1 a its.toArray) (beginsB b2 b its2.toArray) p1 p2 fun h' hz hTI hTO g1 g2 hsz hk => wpAny_pyIter_zip hz ?_
      have I2 : Inv X pins σ H1 { s1 with heap := h' } := I1.kept (t' := s1.toks) hk
      have fp : ∀ c, s1.heap.objs.size ≤ c → FpOk X pins H1 c := fun c hle => I1.fpOk hle (I1.hok.fresh hle)
      exact ⟨_, [s1.heap.objs.size + 4, s1.heap.objs.size + 2, s1.heap.objs.size + 3, s1.heap.objs.size, s1.heap.objs.size + 1], _, _, H1, rfl, I2, turn_zB xs.length ys.length (sep_zB la lb) (Nat.ne_of_lt la) (Nat.ne_of_lt (Nat.lt_succ_of_lt lb)), ⟨hz, hTI, ⟨_, _, hTO⟩, .first g1, .first g2, Nat.zero_le _, Nat.zero_le _⟩, in5 (fp _ (Nat.le_add_right _ _)) (fp _ (Nat.le_add_right _ _)) (fp _ (Nat.le_add_right _ _)) (fp _ (Nat.le_refl _)) (fp _ (Nat.le_add_right _ _)), q⟩
def isTW : W → Option (Bool × List W)
  | .tup ws => some (true, ws)
  | .lst ws => some (false, ws)
  | _ => none
/-- zip of rows of either kind -/
def zbW : List W → T (List W)
  | [x, y] => match isTW x, isTW y with
    | some (_, ws), some (_, us) => .ok (zipF ws us)
    | _, _ => .bad
  | _ => .bad
section
variable {K : PySem.W.Frag} {c : Cc} {d : Dw} {H H1 : Hp}
/-- a row that is plain data -/
def RowB (K : PySem.W.Frag) (c : Cc) (H : Hp) (b : Bool) (a : Addr) (vs : List V) : Prop := match b with
  | true => SqT K H a vs
  | false => a ∉ c.A ∧ H a = some (.lst vs)
theorem RowB.sq {b : Bool} {a : Addr} {vs : List V} (h : RowB K c H b a vs) : SqB K b H a vs := by
  cases b with
  | true => exact h
  | false => exact SqL.of h.2
theorem RowB.fwd {c' : Cc} {H' : Hp} {b : Bool} {a : Addr} {vs : List V} (ok : CcOk c) (mo : MOk c H) (h : RowB K c H b a vs) (fw : Fwd K c H c' H') : SqB K b H' a vs := by
  cases b with
  | true => exact fw.sq a vs h
  | false => exact SqL.of (fw.step _ _ h.2 (ok.neS h.1) (ok.nela h.1) (fun z => h.1 (mo.inA _ z)) nofun)
theorem it_zB {b1 b2 : Bool} {a b : Addr} {vs us : List V} {ws zs : List W} (ok : CcOk c) (mo : MOk c H) (hq : RowB K c H b1 a vs) (rl : RepL K c H ws vs) (hp : RowB K c H b2 b us) (rm : RepL K c H zs us) : ItOk K c H (ItzB K b1 b2 a b vs.length us.length) (zipF ws zs) := fun c' H' d' i fw wd => by
  have hq' := hq.fwd ok mo fw
  have hp' := hp.fwd ok mo fw
  refine ⟨fun w hw => ?_, fun hi => ?_⟩
  · obtain ⟨w1, w2, h1, h2, rfl⟩ := zipF_get _ _ _ _ hw
    obtain ⟨v, hv, rv⟩ := rl.get h1
    obtain ⟨u, hu, ru⟩ := rm.get h2
    refine ⟨⟨⟨(List.getElem?_eq_some_iff.mp hv).1, (List.getElem?_eq_some_iff.mp hu).1⟩, vs, us, v, u, hq', hp', ⟨rfl, rfl⟩, hv, hu⟩, fun x H2 y => ?_⟩
    obtain ⟨T, x', y', rfl, hT, rfl, y1, y2⟩ := y
    have ex := y1 vs hq'
    have ey := y2 us hp'
    rw [hv] at ex
    rw [hu] at ey
    cases ex
    cases ey
    exact new_pair wd hT (fw.rep _ _ rv) (fw.rep _ _ ru)
  · rw [zipF_length, rl.length, rm.length] at hi
    exact ⟨by omega, vs, us, hq', hp', rfl, rfl⟩
theorem Rep.row {w : W} {v : V} {b : Bool} {ws : List W} (r : Rep K c H w v) (h : isTW w = some (b, ws)) : ∃ a vs, v = .ref a ∧ RowB K c H b a vs ∧ RepL K c H ws vs := by
  cases r with
  | tup hq rl =>
    cases h
    exact ⟨_, _, rfl, hq, rl⟩
  | lst n hq rl =>
    cases h
    exact ⟨_, _, rfl, ⟨n, hq⟩, rl⟩
  | _ => cases h
end
theorem tri_zB {X : Cx} {E : WX} {e e2 : Expr} {fs : En → T (List W)} {p pos tpos : Pos} {elts : List Expr} {kk : Nat} (hg : Gl X "zip") (hm : X.mg "zip" = none) (ha : TrA Γ X E [e, e2] fs) (hs : starEach [e, e2] X.env = (false, eval e X.env) :: starEach [e2] X.env := by rfl) (hpl : (backTo pos (starEach [e2] X.env)).any (·.1) = false := by rfl) :
    TrI Γ X E (.Tuple elts kk tpos) (.Call (.Name "zip" p) [e, e2] [] pos) (iL zbW fs) := pi_imp (pi_zB hg hm ha hs hpl) fun σ H R q => by
  obtain ⟨c, d, oa, ρ, e, q⟩ := q
  refine liftA_then (P := fun c H => PJ X.K c H R) e q (fun st p => p.later st) fun w v H1 d1 _ r1 e1 h1 => ?_
  cases r1 with
  | nil => exact h1.elim
  | cons r rr =>
    cases rr with
    | nil => exact h1.elim
    | cons r2 rr =>
      cases rr with
      | cons _ _ => exact h1.elim
      | nil =>
        simp only [zbW] at h1
        split at h1
        · rename_i b1 ws b2 us t1 t2
          obtain ⟨a, vs, rfl, w1, l1⟩ := r.row t1
          obtain ⟨b, zs, rfl, w2, l2⟩ := r2.row t2
          exact ⟨b1, b2, a, b, vs, zs, rfl, w1.sq, w2.sq, PJ.now e1.wd h1 (it_zB e1.ok e1.m w1 l1 w2 l2)⟩
        · exact h1.elim
def sAt (i : Nat) (fi fe : En → T W) : En → T (Fl × En) := fun ρ => match ρ[i]? with
  | some (.own ws) => (fe ρ).bind fun w => (fi ρ).bind fun k => match k with
    | .int k => match ixN ws.length k with
      | some j => .ok (.nx, ρ.set i (.own (ws.set j w)))
      | none => .bad
    | _ => .bad
  | _ => .bad
theorem tr_at {X : Cx} {E : XK} {o x e : Expr} {fi fe : En → T W} {i : Nat} {pos pos2 : Pos} (ho : PE X o (tVar i)) (hi : TrE Γ X (wOf E) x fi) (he : TrE Γ X (wOf E) e fe)
    (ha : ∀ v, assign (.Subscript o x pos2) X.env v = (do
      let ov ← holding [v] (eval o X.env)
      let iv ← holding [v, ov] (eval x X.env)
      standAt pos2
      holding [v, ov, iv] (setItem ov iv v)
      release [v, ov, iv] []) := by intro _; rfl)
    (hs : swapsWithSole [.Subscript o x pos2] e pos.line X.env = pure false := by rfl) (hw : swappedStores [.Subscript o x pos2] e X.env = pure none := by rfl) (h1 : (assignEach [.Subscript o x pos2] X.env).map (·.2) = [assign (.Subscript o x pos2) X.env] := by rfl) :
    TrS Γ X E (.Assign [.Subscript o x pos2] e pos) (sAt i fi fe) := ps_imp (ps_asg he (pg_sub ho hi set_list ha) hs hw h1) fun D σ H q => by
  obtain ⟨c, d, oa, ρ, e, q⟩ := q
  unfold sAt at q
  split at q
  · rename_i ws hw
    refine lift_thenS (P := fun c H => PSq X.K Γ c H D) e q (fun st p => p.later (.of st e.wd)) fun w v H1 d1 _ r1 e1 h1 => ?_
    obtain ⟨m1, m2, vs, m3, m4⟩ := e1.own i ws hw
    refine ⟨_, m2, lift_thenS (P := fun c H => PSq X.K Γ c H D) e1 h1 (fun st p => p.later (.of st e1.wd)) fun k kv H2 d2 st2 r2 e2 h2 => ?_⟩
    cases r2 with
    | int k =>
      simp only [] at h2
      split at h2
      · rename_i j hj
        obtain ⟨g1, g2, us, g3, g4⟩ := e2.own i ws hw
        obtain ⟨e3, fw⟩ := e2.ownUpd hw (g4.set j (r1.step st2 e1.st e1.ok))
        exact ⟨_, us, k, j, rfl, rfl, g3, by rw [← g4.length]; exact hj, h2 _ oa σ _ fw e3⟩
      · exact h2.elim
    | _ => exact h2.elim
  · exact q.elim
def insI (x : Int) : List Int → List Int
  | [] => [x]
  | y :: ys => if y < x then y :: insI x ys else x :: y :: ys
def sortI : List Int → List Int
  | [] => []
  | x :: xs => insI x (sortI xs)
theorem insI_perm (x : Int) : ∀ l, (insI x l).Perm (x :: l)
  | [] => .refl _
  | y :: ys => by
    unfold insI
    split
    · exact ((insI_perm x ys).cons y).trans (.swap x y ys)
    · exact .refl _
theorem sortI_perm : ∀ l, (sortI l).Perm l
  | [] => .refl _
  | x :: xs => (insI_perm x _).trans ((sortI_perm xs).cons x)
theorem insI_asc {x : Int} : ∀ {l : List Int}, l.Pairwise (· ≤ ·) → (insI x l).Pairwise (· ≤ ·)
  | [], _ => List.pairwise_singleton _ _
  | y :: ys, h => by
    obtain ⟨h1, h2⟩ := List.pairwise_cons.mp h
    unfold insI
    split
    · rename_i hl
      refine List.pairwise_cons.mpr ⟨fun z hz => ?_, insI_asc h2⟩
      rcases List.mem_cons.mp ((insI_perm x ys).mem_iff.mp hz) with rfl | hz
      · omega
      · exact h1 z hz
    · rename_i hl
      refine List.pairwise_cons.mpr ⟨fun z hz => ?_, h⟩
      rcases List.mem_cons.mp hz with rfl | hz
      · omega
      · have := h1 z hz
        omega
theorem sortI_asc : ∀ l : List Int, (sortI l).Pairwise (· ≤ ·)
  | [] => List.Pairwise.nil
  | x :: xs => insI_asc (sortI_asc xs)
theorem asc_uniq {l m : List Int} (h : l.Pairwise (· ≤ ·)) (g : m.Pairwise (· ≤ ·)) (p : l.Perm m) : l = m := List.Perm.eq_of_pairwise (fun a b _ _ h1 h2 => Int.le_antisymm h1 h2) h g p
def sortedI : List W → T W
  | [.lst ws] => match intsW ws with
    | some ns => .ok (.lst ((sortI ns).map W.int))
    | none => .bad
  | _ => .bad
theorem sem_sortedI {K : PySem.W.Frag} : SemL K (rSortedI K) sortedI := fun c d H x v Q E' wd rx q => by
  cases rx with
  | nil => exact q.elim
  | cons r rr =>
    cases rr with
    | cons _ _ => cases r <;> exact q.elim
    | nil =>
      cases r with
      | lst n hq rl =>
        simp only [sortedI] at q
        split at q
        · rename_i ns hk
          rw [intsW_map hk] at rl
          rw [rl.ints] at hq
          refine ⟨_, ns, rfl, SqL.of hq, fun zs p h1 h2 hf => ?_⟩
          rw [asc_uniq h2 (sortI_asc ns) (h1.trans (sortI_perm ns).symm)]
          exact q _ _ (.new hf) (wd.st.new hf) (.lst (wd.fresh hf) upd_same (RepL.ofInts _))
        · exact q.elim
      | _ => exact q.elim
end PF
namespace PF
open PySem PySem.Spec PyProof.Rows L2
section
variable {prog : Program} {w : World} {A : Around} {E : Value → Shared → Prop} {s : Shared}
theorem adjust_back (n : Nat) : Builtin.Slice.sliceAdjust none none (-1) (n : Int) = ((n : Int) - 1, -1) := by
  unfold Builtin.Slice.sliceAdjust
  simp
theorem places_back (n : Nat) : Builtin.Slice.slicePlaces ((n : Int) - 1) (-1) (-1) = n := by
  unfold Builtin.Slice.slicePlaces
  simp
  omega
theorem back_applied {sl : Addr} {vl vu vs : Value} {n : Nat} {Q : Int × Int × Nat → Shared → Prop} (hs : s.heap.IsSliceOf sl vl vu vs) (pl : IsPart vl none) (pu : IsPart vu none) (ps : IsPart vs (some (-1)))
    (h : Q ((n : Int) - 1, -1, n) s) : wpAny (model prog w) A (Builtin.Slice.sliceApplied (.ref sl) (pure (n : Int))) Q E s := by
  obtain ⟨os, hos, hcs, hds⟩ := id hs
  unfold Builtin.Slice.sliceApplied Builtin.Slice.sliceFields
  refine wpAny_bind (wpAny_bind (wpAny_field hos hds (x := vl) rfl (wpAny_bind (wpAny_field hos hds (x := vu) rfl (wpAny_bind (wpAny_field hos hds (x := vs) rfl (wpAny_pure ?_)))))))
  refine wpAny_bind (HT.slicePart_ ps ?_)
  show wpAny _ _ (if ((-1 : Int) == 0) = true then _ else _) _ _ s
  rw [if_neg (by decide)]
  refine wpAny_bind (HT.slicePart_ pl (wpAny_bind (HT.slicePart_ pu (wpAny_bind (wpAny_pure ?_)))))
  show wpAny _ _ (match Builtin.Slice.sliceAdjust none none (-1) (n : Int) with | (lo, hi) => pure (lo, (-1 : Int), Builtin.Slice.slicePlaces lo hi (-1))) _ _ s
  rw [adjust_back n]
  show wpAny _ _ (pure ((n : Int) - 1, (-1 : Int), Builtin.Slice.slicePlaces ((n : Int) - 1) (-1) (-1))) _ _ s
  rw [places_back]
  exact wpAny_pure h
theorem pick_back (xs : Array Value) : ((List.range xs.size).filterMap fun (m : Nat) => xs[(((xs.size : Int) - 1) + (m : Int) * (-1)).toNat]?).toArray = xs.toList.reverse.toArray := by
  have h := PySem.W.krv_pick xs
  unfold slicePick at h
  rw [PySem.W.krv_bounds] at h
  have h : ((sliceRange ((xs.size : Int) - 1) (-1) (-1)).filterMap (xs[·]?)).toArray = _ := h
  rw [PySem.W.krv_sliceRange, List.filterMap_map] at h
  rw [← h]
  have key : ∀ l : List Nat, (∀ m ∈ l, m < xs.size) → (l.filterMap fun (m : Nat) => xs[(((xs.size : Int) - 1) + (m : Int) * (-1)).toNat]?) = l.filterMap ((fun x => xs[x]?) ∘ fun k => xs.size - 1 - k) := fun l => by
    induction l with
    | nil => exact fun _ => rfl
    | cons m l ih =>
      intro hm
      have h1 := hm m (List.mem_cons_self ..)
      have e : (((xs.size : Int) - 1) + (m : Int) * (-1)).toNat = xs.size - 1 - m := by omega
      rw [List.filterMap_cons, List.filterMap_cons, e, ih fun k hk => hm k (List.mem_cons_of_mem _ hk)]
      rfl
  exact congrArg List.toArray (key _ fun m hm => List.mem_range.mp hm)
theorem back_tuple {t sl : Addr} {items : Array Value} {vl vu vs : Value} {Q : Value → Shared → Prop} (ht : IsTup s.heap t items) (hs : s.heap.IsSliceOf sl vl vu vs) (pl : IsPart vl none) (pu : IsPart vu none) (ps : IsPart vs (some (-1)))
    (h : Q (.ref s.heap.objs.size) { s with heap := s.heap.push { cls := .type "tuple", data := .seq items.toList.reverse.toArray } }) (hsz : items.size ≤ sizeLine) : wpAny (model prog w) A (getItem (.ref t) (.ref sl)) Q E s := by
  have hz : PySem.sizeOk (.seq items.toList.reverse.toArray) := by
    show items.toList.reverse.toArray.size ≤ sizeLine
    simpa using hsz
  obtain ⟨os, hos, hcs, hds⟩ := id hs
  have hTs : s.TypeIs (.ref sl) "slice" := ⟨os, hos, hcs⟩
  unfold getItem
  try with_reducible refine wpAny_holding ?_
  first | refine wpAny_bind (wpAny_pure ?_) | skip
  refine wpAny_bind (wpAny_sequenceKey ht.typeIs (by decide) ?_)
  refine wpAny_bind (wpAny_callSpecial?_slot (name := Str.ofString "__getitem__") ht.typeIs PyProof.Rows.slot_tuple_getitem (wpAny_call_entry PyProof.Rows.slot_tuple_getitem ht.typeIs entry_tuple_getitem ?_ (args_tuple_getitem _ _)))
  show wpAny _ _ (Builtin.Tuple.tupleItemsOf (.ref t) >>= _) _ _ s
  refine wpAny_bind (tupleItemsOf_ ht ?_)
  refine wpAny_bind (wpAny_typeOf hTs ?_)
  rw [if_pos (by decide)]
  refine wpAny_bind (back_applied hs pl pu ps ?_)
  show wpAny _ _ (if ((((items.size : Int) - 1) == 0 && (-1 : Int) == 1 && items.size == items.size) = true) then _ else _) _ _ s
  rw [if_neg (by simp), pick_back]
  first
    | exact wpAny_bind (m := Builtin.Tuple.tupleExact _) (wpAny_newObj_type (wpAny_pure ⟨_, rfl, wpAny_pure h⟩) hz)
    | exact wpAny_bind (m := Builtin.Tuple.tupleExact _) (wpAny_newObj_type (wpAny_bind (wpAny_pure (wpAny_pure ⟨_, rfl, wpAny_pure h⟩))) hz)
    | exact wpAny_bind (wpAny_bind (m := Builtin.Tuple.tupleExact _) (wpAny_newObj_type (wpAny_pure (wpAny_pure ⟨_, rfl, wpAny_pure h⟩)) hz))
    | exact wpAny_bind (wpAny_bind (m := Builtin.Tuple.tupleExact _) (wpAny_newObj_type (wpAny_pure ⟨_, rfl, wpAny_pure h⟩) hz))
end
section
variable {X : Cx}
def tBack (K : PySem.W.Frag) (te : TE) : TE := fun σ H Q => te σ H fun x H1 => ∃ a xs, x = .ref a ∧ ((SqL K H1 a xs ∧ ∀ p, H1 p = none → Q (.ref p) (L2.upd H1 p (.lst xs.reverse))) ∨ (SqT K H1 a xs ∧ ∀ p, H1 p = none → Q (.ref p) (L2.upd H1 p (.tup xs.reverse))))
theorem pe_back {e : Expr} {te : TE} {k : Nat} {p1 p2 p3 pos : Pos} (he : PE X e te) : PE X (.Subscript e (.Slice none none (some (.UnaryOp .USub (.Constant (.int 1) k p1) p2)) p3) pos) (tBack X.K te) := by
  refine ⟨fun pins s σ H Q I h => Subscript_ (thn (he.run pins s σ H _ I h) fun v s1 ⟨x, H1, I1, r1, q1⟩ => ?_)⟩
  obtain ⟨a, xs, rfl, q⟩ := q1
  cases r1
  have st : PO X (some (.UnaryOp .USub (.Constant (.int 1) k p1) p2)) (tPart (tUn (rU fun i => .int (-i)) (tC (.int 1)))) := po_some (pe_un un_neg pe_int)
  refine wpAny_Slice (thn (po_none.run pins s1 σ H1 (fun o H2 => o = none ∧ H2 = H1) I1 ⟨rfl, rfl⟩) fun vl s2 ⟨l, H2, I2, pl, el, e2⟩ => ?_)
  subst el e2
  refine thn (po_none.run pins s2 σ H2 (fun o H3 => o = none ∧ H3 = H2) I2 ⟨rfl, rfl⟩) fun vu s3 ⟨u, H3, I3, pu, eu, e3⟩ => ?_
  subst eu e3
  refine thn (st.run pins s3 σ H3 (fun o H4 => o = some (-1) ∧ H4 = H3) I3 ⟨1, rfl, -1, rfl, rfl, rfl⟩) fun vs s4 ⟨o, H4, I4, ps, eo, e4⟩ => ?_
  subst eo e4
  have I5 : Inv X pins σ H4 { s4 with heap := s4.heap.push { cls := .type "slice", data := .fields #[vl, vu, vs] } } := I4.kept (t' := s4.toks) fun b ob q => Heap.get?_push_of_some _ q
  show wpAny (model X.prog X.w) X.A (subscriptTail e (.Slice none none (some (.UnaryOp .USub (.Constant (.int 1) k p1) p2)) p3) (.ref a) (.ref s4.heap.objs.size)) (EP X pins σ Q) X.xe { s4 with heap := s4.heap.push { cls := .type "slice", data := .fields #[vl, vu, vs] } }
  rcases q with ⟨hx, q⟩ | ⟨hx, q⟩
  · obtain ⟨its, r, ht, hz⟩ := I5.list hx
    have hlen := r.length
    refine tail_any (ops := [.ref a, .ref s4.heap.objs.size]) ht.isList.typeIs (PySem.slot_list_getitem.lookup) (wpAny_getItem_list_slice ht.isList (Heap.IsSliceOf.new _ vl vu vs) pl pu ps (by decide) ?_ (by rw [List.size_toArray]; omega)) (by with_unfolding_all rfl)
    rw [PySem.W.krv_pick]
    exact ⟨.ref _, _, I5.laid (t' := s4.toks) (o := .lst xs.reverse) (fun b ob q => Heap.get?_push_of_some _ q) (Nat.le_refl _) ⟨by rw [List.length_reverse]; exact hz, _, 0, r.reverse, Heap.get?_push_size _ rfl⟩, rfl, q _ (I5.hok.fresh (Nat.le_refl _))⟩
  · obtain ⟨its, r, ht, hz⟩ := I5.tuple hx
    have hlen := r.length
    refine tail_any (ops := [.ref a, .ref s4.heap.objs.size]) ht.typeIs (PyProof.Rows.slot_tuple_getitem.lookup) (back_tuple ht (Heap.IsSliceOf.new _ vl vu vs) pl pu ps ?_ (by rw [List.size_toArray]; omega)) (by with_unfolding_all rfl)
    exact ⟨.ref _, _, I5.laid (t' := s4.toks) (o := .tup xs.reverse) (fun b ob q => Heap.get?_push_of_some _ q) (Nat.le_refl _) ⟨by rw [List.length_reverse]; exact hz, _, r.reverse, IsTup.new _ _⟩, rfl, q _ (I5.hok.fresh (Nat.le_refl _))⟩
def backW : W → T W
  | .lst ws => .ok (.lst ws.reverse)
  | .tup ws => .ok (.tup ws.reverse)
  | _ => .bad
theorem tr_back {E : WX} {e : Expr} {f : En → T W} {k : Nat} {p1 p2 p3 pos : Pos} (he : TrE Γ X E e f) : TrE Γ X E (.Subscript e (.Slice none none (some (.UnaryOp .USub (.Constant (.int 1) k p1) p2)) p3) pos) (f1 backW f) := pe_imp (pe_back he) fun σ H Q q => by
  obtain ⟨c, d, oa, ρ, e, q⟩ := q
  refine lift_then (P := fun c H => PQ X.K c H Q) e q (fun st p => p.later st) fun w v H1 d1 _ r1 e1 h1 => ?_
  cases r1 with
  | tup hq rl => exact ⟨_, _, rfl, .inr ⟨hq, fun p hp => h1 _ _ (.new hp) (e1.st.new hp) (.tup (SqT.of upd_same) ((rl.reverse).step (.new hp) e1.st e1.ok))⟩⟩
  | lst n hq rl => exact ⟨_, _, rfl, .inl ⟨SqL.of hq, fun p hp => h1 _ _ (.new hp) (e1.st.new hp) (.lst (e1.wd.fresh hp) upd_same ((rl.reverse).step (.new hp) e1.st e1.ok))⟩⟩
  | _ => exact h1.elim
end
end PF
namespace PF
open PySem PySem.Spec PyProof.Rows L2
/-- what the written part says of an error's class at C; nw, tl: the base's maker and its line -/
structure XCl (K : PySem.W.Frag) (C : Addr) (nw : String) (tl : List Value) : Prop where
  ini : PySem.W.excInitIn K C tl nw = true
  ovr : PySem.W.excOver K C tl = true
  dct : PySem.W.hasDictIn K C = true
  sat : PySem.W.findIn K (.ref C) "__setattr__" = some (some (.builtin "object.__setattr__"))
  sub : PySem.W.subIn K (.ref C) (.type "BaseException") = some true
  typ : PySem.W.typeIn K (.ref C) = some (.type "type")
  kee : PySem.W.keepIn K (.ref C) = true
def xclB (K : PySem.W.Frag) (C : Addr) (nw : String) (tl : List Value) : Bool :=
  PySem.W.excInitIn K C tl nw && (PySem.W.excOver K C tl && (PySem.W.hasDictIn K C && (decide (PySem.W.findIn K (.ref C) "__setattr__" = some (some (.builtin "object.__setattr__"))) &&
    (decide (PySem.W.subIn K (.ref C) (.type "BaseException") = some true) && (decide (PySem.W.typeIn K (.ref C) = some (.type "type")) && PySem.W.keepIn K (.ref C))))))
theorem xclB_ok {K : PySem.W.Frag} {C : Addr} {nw : String} {tl : List Value} (h : xclB K C nw tl = true) : XCl K C nw tl := by
  unfold xclB at h
  simp only [Bool.and_eq_true, decide_eq_true_eq] at h
  obtain ⟨h1, h2, h3, h4, h5, h6, h7⟩ := h
  exact ⟨h1, h2, h3, h4, h5, h6, h7⟩
section
open Builtin Builtin.ObjectAttr PySem.W PySem.Calls
variable {prog : Program} {w : World} {A : Around} {E : Value → Shared → Prop} {R : Result → Shared → Prop} {hp : Heap} {g : Array GenState} {d : Drawn} {t : Nat} {os : OsState}
/-- the first field of an error is set -/
theorem x_osa {K : PySem.W.Frag} {B nw : String} {tl : List Value} {fld : Str} {tk : Tok} {v : Value} {x C : Addr} {fv : Array Value} (SF : StoreFacts B tl "object.__setattr__" "object")
    (KX : K.In hp) (hx : hp.get? x = some { cls := .ref C, data := .fields fv }) (T : XCl K C nw tl) (ha : PySem.W.findIn K (.ref C) fld = some none)
    (hq : ∀ h' tk' dx, (∀ b o, b ≠ x → hp.get? b = some o → h'.get? b = some o) → hp.objs.size ≤ dx → dx ≠ x → h'.get? x = some { cls := .ref C, dict := some dx, data := .fields fv } →
      h'.Ns1 dx (fun y => if y = fld then some v else none) → R (.ok (.ret .none)) ⟨h', g, d, tk', os⟩) :
    codeAny (model prog w) A (.call (.builtin "object.__setattr__") ⟨[.ref x, .str fld tk, v], []⟩) R ⟨hp, g, d, t, os⟩ := by
  have hI : PySem.W.InstAt hp x { cls := .ref C, data := .fields fv } C none := ⟨hx, rfl, rfl, trivial⟩
  have nx : x ≠ hp.objs.size := Nat.ne_of_lt (Heap.lt_size hx)
  have htk : PySem.W.takerIn K C fld = some none := by
    unfold PySem.W.takerIn
    rw [ha]
    rfl
  obtain ⟨cd, hcd, hdc⟩ := PySem.W.any_some T.dct
  have hLc : PySem.W.Looks (model prog w) hp (classData C) cd := PySem.W.looks_clsIn KX hcd
  refine osa_openX (r := none) SF KX hI T.ovr htk fun b => ?_
  show wpAny _ _ (storeInOwnDict (.ref x) (.ref C) (.str fld tk) fld v b) _ _ _
  obtain ⟨nm, bs, mro, ns, qn, hd, sn, sb, ab, col, del⟩ := cd
  have hdc : hd = true := hdc
  subst hdc
  unfold storeInOwnDict ownDictForStores
  repeat (first | with_reducible refine PySem.HandSPX.store_in_new ?_ ?_ | with_reducible refine wpAny_loadPart_at hx ?_ | with_reducible refine hLc.at ?_ | wp_step)
  · exact ⟨_, #[], _, (Heap.get?_update_ne _ _ _ _ nx.symm).trans (Heap.get?_push_at rfl rfl), rfl, fun e he => absurd he (by simp), fun _ => rfl⟩
  · intro h' tk' hn' hs
    have h1 : (hp.push { cls := .type "dict", data := .dict #[] }).get? x = some { cls := .ref C, data := .fields fv } := Heap.get?_push_of_some _ hx
    refine hq h' tk' hp.objs.size (fun b o hb ho => ?_) (Nat.le_refl _) nx.symm ((hs.2 x nx).trans (Heap.get?_update_self _ h1 rfl)) hn'
    exact (hs.2 b (Nat.ne_of_lt (Heap.lt_size ho))).trans ((Heap.get?_update_ne _ _ _ _ hb).trans (Heap.get?_push_of_some _ ho))
end
section
variable {X : Cx} {pins : List (Addr × Obj)} {σ : L2.St} {H : Hp} {s : Shared} {a C : Addr} {fld : Str} {y : V} {u : Value} {E : Value → Shared → Prop} {A : Around} {B nw ini : String} {tl : List Value}
theorem x_ost {Q : Unit → Shared → Prop} (SF : StoreFacts B tl "object.__setattr__" "object") (T : XCl X.K C nw tl) (I : Inv X pins σ H s) (e : H a = some (exo a C none)) (hno : PySem.W.findIn X.K (.ref C) fld = some none) (ry : RelV y u)
    (h : ∀ dx s', H dx = none → dx ≠ a → Inv X pins σ (upd (upd H dx (exd dx [(fld, y)])) a (exo a C (some dx))) s' → Q () s') : wpAny (model X.prog X.w) A (setAttr (.ref a) fld u) Q E s := by
  obtain ⟨t1, ho⟩ := exo_at I.hok e
  obtain ⟨hp, g, d, t, os⟩ := s
  refine PySem.W.set_plain I.kIn (ox := { cls := .ref C, dict := none, data := .fields #[.ref t1, .none, .none, .none, .bool false, .none] }) (od := none) ⟨ho, rfl, rfl, trivial⟩ T.sat ?_
  refine x_osa SF I.kIn ho T hno fun h' tk' dx k dn dne hx hn => ?_
  have ndx : H dx = none := I.hok.fresh dn
  have small : ∀ {b : Addr} {o : Obj}, hp.get? b = some o → b ≠ dx := fun {b o} q => Nat.ne_of_lt (Nat.lt_of_lt_of_le (Heap.lt_size q) dn)
  have nota : ∀ {b : Addr}, H b = none → b ≠ a := fun {b} n z => by
    rw [z, e] at n
    cases n
  have un : Un X.fs [] H (upd (upd H dx (exd dx [(fld, y)])) a (exo a C (some dx))) hp h' := {
    keep := fun b o q n _ _ => k b o (nota n) q
    slot := fun b o q n _ _ => ⟨o.slots, k b o (nota n) q⟩
    free := fun b o q n _ => by rw [upd_ne (nota n), upd_ne (small q)]; exact n
    there := fun b o q _ => by
      rcases Decidable.em (b = a) with z | z
      · exact ⟨_, by rw [z]; exact hx⟩
      · exact ⟨o, k b o z q⟩
    tups := fun b xs q => by rw [upd_ne (at_ne e q exo_tup), upd_ne (ne_of_none q ndx)]; exact q
    frzs := fun b o v q => by rw [upd_ne (at_ne e q exo_frz), upd_ne (ne_of_none q ndx)]; exact q
    tbls := fun b ps q => ⟨#[], by rw [upd_ne (at_ne e q exo_tbl), upd_ne (ne_of_none q ndx), q]; simp⟩ }
  refine h dx _ ndx dne (I.un (t' := tk') un fun b o q => ?_)
  rcases Decidable.em (b = a) with z | z
  · subst z
    rw [upd_same] at q
    cases q
    exact exo_ok hx
  · rw [upd_ne z] at q
    rcases Decidable.em (b = dx) with z2 | z2
    · subst z2
      rw [upd_same] at q
      cases q
      exact exd_ok hn (relO_put (fs := []) ry fun g => True.intro)
    · rw [upd_ne z2] at q
      refine (I.hok b o q).stay (fun c v hc y => k c v ?_ y) (fun c hc => ?_) fun c xs hc => ?_
      · rcases hc with hc | hc
        · rw [hc]
          exact z
        · exact at_ne e hc exo_own
      · rw [upd_ne (at_ne e hc exo_own), upd_ne (ne_of_none hc ndx)]
        exact hc
      · rw [upd_ne (at_ne e hc exo_tup), upd_ne (ne_of_none hc ndx)]
        exact hc
/-- Base.__init__(self, ..) -/
theorem x_init {us : List Value} {Q : Value → Shared → Prop} (FB : ExcBaseFacts B nw ini tl) (T : XCl X.K C nw tl) (I : Inv X pins σ H s) (e : H a = some (exo a C none)) (hl : us.length ≤ sizeLine) (h : ∀ s', Inv X pins σ H s' → Q .none s') :
    wpAny (model X.prog X.w) A (call (.builtin ini) (.ref a :: us)) Q E s := by
  obtain ⟨nm, N', qn, bs, bm, hdct, sn, sub, ab, col, dd, k0, k1, k2, k3, k5, hC, hT⟩ := PySem.W.excInit_of I.kIn T.ini
  obtain ⟨t1, ho⟩ := exo_at I.hok e
  obtain ⟨hp, g, d, t, os⟩ := s
  refine wpAny_call (PySem.HandSPX.init_base FB hT hC ho hl fun h' t2 k hx => h _ ?_)
  have J := I.write (t' := t) (x := a) (e := a) (o := exo a C none) (by rw [e]; exact True.intro) (.inl rfl) k ⟨_, hx⟩ (exo_ok hx)
  have same : upd H a (exo a C none) = H := by
    funext b
    rcases Decidable.em (b = a) with z | z
    · rw [z, upd_same, e]
    · rw [upd_ne z]
  rw [same] at J
  exact J
end
/-- the base's __init__, found by the name bn -/
def BaseIni (X : Cx) (bn : Str) (ini : String) : Prop := ∀ (p1 : Pos) (pl : Sem Bool) (A : Around) (E : Value → Shared → Prop) (pins : List (Addr × Obj)) (s : Shared) (σ : L2.St) (H : Hp) (Q : Value × List Value → Shared → Prop), Inv X pins σ H s →
  (∀ s', Inv X pins σ H s' → Q (.builtin ini, []) s') → wpAny (model X.prog X.w) X.A (eval (.Name bn p1) X.env) (fun ov s₁ => wpAny (model X.prog X.w) X.A (getMethod ov "__init__" pl) Q X.xe s₁) X.xe s
theorem base_own {X : Cx} {bn : Str} {ini : String} {C : Addr} {mc : Value} (hg : Gl X bn) (hm : X.mg bn = some (.ref C)) (hr : PySem.W.readsIn X.K C mc = true) (ga : PySem.W.specialIn X.K (.ref C) "__getattribute__" = some (some (.builtin "type.__getattribute__")))
    (hf : PySem.W.findCls X.K (.ref C) mc "__init__" = some (.val (.builtin ini))) (hh : PySem.W.handedIn (.builtin ini) = true) (hdb : (bn == ("__debug__" : Str)) = false := by decide) : BaseIni X bn ini := fun p1 pl A E pins s σ H Q I h =>
  ld_glob I hg hm (PySem.W.method_cls I.kIn ga (PySem.W.cls_value I.kIn hr hf hh (h _ (I.tok _)))) hdb
theorem base_blt {X : Cx} {B : String} {bn : Str} {ini : String} (hg : Gl X bn) (hm : X.mg bn = none) (hb : bootBuiltins bn = some (.type B)) (ht : typeOf (.type B) = pure (.type "type")) (hs : Manifest.isStub B = false)
    (hf : PySem.W.findCls X.K (.type B) (.type "type") "__init__" = some (.val (.builtin ini))) (hh : PySem.W.handedIn (.builtin ini) = true) (hn : bn ≠ "__name__" := by decide) (hdb : (bn == ("__debug__" : Str)) = false := by decide) : BaseIni X bn ini := fun p1 pl A E pins s σ H Q I h => by
  obtain ⟨m, fr⟩ := I.fr
  exact ld_blt I hg hm hb (PySem.W.method_type fr I.ok.mod.kin ht hs hf hh (h _ (I.tok _))) hn hdb
/-- reading: Base.__init__(self, ..) -/
def tBi (K : PySem.W.Frag) (nw : String) (tl : List Value) (ta : TA) : TE := fun σ H Q => ta σ H fun vs H1 => ∃ (a C : Addr) (ws : List V), vs = .ref a :: ws ∧ ws.length ≤ 1000 ∧ XCl K C nw tl ∧ H1 a = some (exo a C none) ∧ Q .non H1
/-- reading: self.f = e, the first one -/
def tXo (K : PySem.W.Frag) (nw : String) (tl : List Value) (f : Str) (to te : TE) : TS := fun D σ H => te σ H fun y H1 => to σ H1 fun x H2 => ∃ a C : Addr, x = .ref a ∧ XCl K C nw tl ∧ PySem.W.findIn K (.ref C) f = some none ∧
  H2 a = some (exo a C none) ∧ ∀ dx, H2 dx = none → dx ≠ a → D.nx σ (upd (upd H2 dx (exd dx [(f, y)])) a (exo a C (some dx)))
section
variable {X : Cx} {o e : Expr} {es : List Expr} {to te : TE} {ta : TA} {f bn : Str} {p p' p1 p2 pos : Pos} {B nw ini : String} {tl : List Value}
theorem pe_bi {pl : Sem Bool} (FB : ExcBaseFacts B nw ini tl) (hB : BaseIni X bn ini) (ha : PA X (e :: es) ta)
    (hc : eval (.Call (.Attribute (.Name bn p1) "__init__" p2) (e :: es) [] pos) X.env = (do
      let ov ← eval (.Name bn p1) X.env
      standAt p2.atName
      let (f, first) ← holding [ov] (getMethod ov "__init__" pl)
      callWith pos f first (backTo pos (starEach (e :: es) X.env)) (backToKw pos (keywordEach [] X.env))) := by rfl)
    (he : starEach (e :: es) X.env = (false, eval e X.env) :: starEach es X.env := by rfl) (hpl : (backTo pos (starEach es X.env)).any (·.1) = false := by rfl) :
    PE X (.Call (.Attribute (.Name bn p1) "__init__" p2) (e :: es) [] pos) (tBi X.K nw tl ta) := by
  constructor
  intro pins s σ H Q I h
  refine PySem.W.methodCall_KW (hB p1 pl X.A X.xe pins s σ H _ I fun s1 I1 => ?_) hc
  show wpAny _ _ (callWith pos (Value.builtin ini) [] (backTo pos (starEach (e :: es) X.env)) []) _ _ _
  refine PyProof.Rows.callWith_method1 (thn (ha.run pos pins _ σ H _ I1 h) fun us s2 z => ?_) he hpl
  obtain ⟨vs, H2, I2, r, a, C, ws, ev, hl, T, ea, q⟩ := z
  subst ev
  cases r with
  | @cons _ u0 _ ur ra rr =>
    obtain rfl : u0 = Value.ref a := ra
    refine x_init FB T I2 ea ?_ fun s' J => ⟨.non, H2, J, rfl, q⟩
    rw [← Paired.length rr, sizeLine_eq]
    omega
theorem ps_xo (SF : StoreFacts B tl "object.__setattr__" "object") (ho : PE X o to) (he : PE X e te) (hs : swapsWith e (some (.Attribute o f p')) pos.line X.env = pure false := by rfl) : PS X (.Assign [.Attribute o f p'] e pos) (tXo X.K nw tl f to te) := by
  constructor
  intro pins s σ H D I h
  refine plainObj_wpAny_Assign_Attribute (thn (he.run pins s σ H _ I h) fun v s1 z => ?_) hs
  obtain ⟨y, H1, I1, r1, q1⟩ := z
  refine thn (ho.run pins s1 σ H1 _ I1 q1) fun u s2 z => ?_
  obtain ⟨x, H2, I2, r2, a, C, ex, T, hno, ea, q⟩ := z
  subst ex
  obtain rfl : u = Value.ref a := r2
  exact x_ost SF T I2 ea hno r1 fun dx s' n ne J => ⟨σ, _, J, q dx n ne⟩
end
section
variable {X : Cx} {e : Expr} {es : List Expr} {ta : TA} {p pos : Pos} {B nw ini : String} {tl : List Value}
theorem pmk_x {CX : CXT} {x : Str} {C fI : Addr} {k : Nat} {fd : FuncData} {ps : List Str} {sp : Sp} (FB : ExcBaseFacts B nw ini tl) (T : XCl X.K C nw tl) (iC : PySem.W.findIn X.K (.ref C) "__init__" = some (some (.ref fI))) (tI : PySem.W.typeIn X.K (.ref fI) = some (.type "function"))
    (F1 : FnOk X.prog X.w X.K X.mg X.base CX k fI fd ps sp) (hr : Room (k + 1) X.A) (hb : Binds X.K fd ps []) (hx : Passes CX X (fun _ _ _ => False)) (hg : Gl X x) (hm : X.mg x = some (.ref C)) (ha : PA X (e :: es) ta)
    (hdb : (x == ("__debug__" : Str)) = false := by decide) (he : starEach (e :: es) X.env = (false, eval e X.env) :: starEach es X.env := by rfl) (hpl : (backTo pos (starEach es X.env)).any (·.1) = false := by rfl) :
    PMk X (.Call (.Name x p) (e :: es) [] pos) (tMkO C sp [] ta) := by
  intro pins s σ H Q I h
  refine wpAny_Call_Name_kw (ld_glob I hg hm (PySem.W.callWith_K (h₀ := X.base) I.ok.mod.kin T.kee (thn (ha.run pos pins s σ H _ I h) fun us s1 z => ?_) he hpl) hdb)
  obtain ⟨vs, H1, I1, r1, hz, q1⟩ := z
  refine ⟨I1.kIn, ?_⟩
  obtain ⟨nm, N', qn, bs, bm, hdct, sn, sub, ab, col, dd, k0, k1, k2, k3, k5, hC, hT⟩ := PySem.W.excInit_of I1.kIn T.ini
  show wpAny _ _ (call (.ref C) us) _ _ _
  obtain ⟨hp, g, dr, tk, os⟩ := s1
  have big : hp.objs.size ≤ hp.objs.size + 1 := Nat.le_succ _
  have hq := q1 (hp.objs.size + 1) (I1.hok.fresh big)
  rw [List.append_nil] at hq
  have kp : ∀ b o, hp.get? b = some o → ((hp.push (PySem.W.kdv_tup us)).push (PySem.HandSPX.excO C hp.objs.size)).get? b = some o := fun b o z => Heap.get?_push_of_some _ (Heap.get?_push_of_some _ z)
  have at_ : ((hp.push (PySem.W.kdv_tup us)).push (PySem.HandSPX.excO C hp.objs.size)).get? (hp.objs.size + 1) = some (PySem.HandSPX.excO C hp.objs.size) := by heap_get
  have I2 := I1.laid (t' := tk) (a := hp.objs.size + 1) (o := exo (hp.objs.size + 1) C none) kp big (exo_ok at_)
  have r2 : Vals (V.ref (hp.objs.size + 1) :: vs) (Value.ref (hp.objs.size + 1) :: us) := .cons rfl r1
  have hl : (Value.ref (hp.objs.size + 1) :: us ++ []).length = ps.length := by
    rw [List.append_nil, ← r2.length]
    exact F1.len _ _ _ _ hq
  have hus : us.length ≤ sizeLine := by
    rw [← Paired.length r1, sizeLine_eq]
    omega
  have b2 := hb _ (Value.ref (hp.objs.size + 1) :: us) I2.kIn hl
  rw [List.append_nil] at b2
  refine wpAny_call (PySem.HandSPX.call_own FB hT hC (PySem.W.looks_findIn I1.kIn iC) (fun self => PySem.W.bind_fn I1.kIn self tI) hus
    (codeAny_mono (F1.run _ X.stack _ _ ⟨Value.ref (hp.objs.size + 1) :: us, []⟩ _ _ _ (fun _ _ _ => False) (hr.make C us []) (I2.env0.make C us []) b2 r2 hq) fun r s' hq' => ?_))
  match r, hq' with
  | .error er, hq' => exact hx pins σ _ _ er s' I2 hq'
  | .ok .next, hq' => exact False.elim hq'
  | .ok .brk, hq' => exact False.elim hq'
  | .ok .cont, hq' => exact False.elim hq'
  | .ok (.ret u), hq' =>
    obtain ⟨v, H2, os2, bare2, un2, hok2, rv, ev, d, fs, ea, ed, hd1, q2⟩ := hq'
    subst ev
    obtain ⟨h2, g2, d2, t2, os'⟩ := s'
    exact ⟨rv, mk_end (raises_own T.sub T.typ) I1 big kp un2 hok2 os2 bare2 ea ed hd1 q2⟩
end
/-- what __init__(self, x): Base.__init__(self, ".."); self.f = x does -/
def spI (K : PySem.W.Frag) (nw : String) (tl : List Value) (f : Str) : Sp := fun vs H Q _ => ∃ (a C : Addr) (v : V), vs = [.ref a, v] ∧ H a = some (exo a C none) ∧ XCl K C nw tl ∧ PySem.W.findIn K (.ref C) f = some none ∧
  ∀ dx, H dx = none → dx ≠ a → Q .non (upd (upd H dx (exd dx [(f, v)])) a (exo a C (some dx)))
section
variable {P : Program} {w : World} {K : PySem.W.Frag} {mg : Str → Option Value} {base : Heap}
theorem ini_ok {fI : Addr} {fd : FuncData} {qual bn par f txt : Str} {params : Arguments} {sc : Scope} {j : Nat} {p1 p2 p3 p4 p5 p6 p7 p8 p9 p10 : Pos} {B nw ini : String} {tl : List Value}
    (F : FunD K "__init__" qual params [.Expr (.Call (.Attribute (.Name bn p1) "__init__" p2) [.Name "self" p3, .Constant (.str txt) j p4] [] p5) p6, .Assign [.Attribute (.Name "self" p7) f p8] (.Name par p9) p10] sc [] [] fI fd)
    (S : FnScope ["self", par] ["self", par] sc) (FB : ExcBaseFacts B nw ini tl) (SF : StoreFacts B tl "object.__setattr__" "object")
    (hs : Vis sc "self") (hp : Vis sc par) (hpd : (par == ("__debug__" : Str)) = false) (hpc : (par == ("__classdict__" : Str)) = false)
    (hB : ∀ (cdv : Value) (A : Around) (outer : List PySem.Env) (s : Shared) (H : Hp) (E : XK), BaseIni (cxOf (L2.CX P w) P w K mg base ["self", par] qual sc fI cdv A outer s H E) bn ini)
    (hc : ∀ env : PySem.Env, ∃ pl : Sem Bool, eval (.Call (.Attribute (.Name bn p1) "__init__" p2) [.Name "self" p3, .Constant (.str txt) j p4] [] p5) env = (do
      let ov ← eval (.Name bn p1) env
      standAt p2.atName
      let (f, first) ← holding [ov] (getMethod ov "__init__" pl)
      callWith p5 f first (backTo p5 (starEach [.Name "self" p3, .Constant (.str txt) j p4] env)) (backToKw p5 (keywordEach [] env)))) (hw : ∀ env : PySem.Env, swapsWith (.Call (.Attribute (.Name bn p1) "__init__" p2) [.Name "self" p3, .Constant (.str txt) j p4] [] p5) none p6.line env = pure false)
    (hv : ∀ env : PySem.Env, swapsWith (.Name par p9) (some (.Attribute (.Name "self" p7) f p8)) p10.line env = pure false) :
    FnOk P w K mg base (L2.CX P w) 1 fI fd ["self", par] (spI K nw tl f) := by
  refine F.ok (k := 0) S (fun vs H Q E h => ?_) (fun cdv A outer s H vs Q E hr h => ?_)
  · obtain ⟨a, C, v, rfl, _⟩ := h
    rfl
  · obtain ⟨pl, hc⟩ := hc (cxOf (L2.CX P w) P w K mg base ["self", par] qual sc fI cdv A outer s H E).env
    refine ⟨_, pss_cons (ps_expr (pe_bi (pl := pl) FB (hB cdv A outer s H E) (pa_cons (pe_var (i := 0) rfl hs) (pa_cons pe_str pa_nil)) hc) (hw _)) (pss_one (ps_xo (nw := nw) SF (pe_var (i := 0) rfl hs) (pe_var (i := 1) rfl hp hpd hpc) (hv _))), ?_⟩
    obtain ⟨a, C, v, rfl, ea, T, hno, q⟩ := h
    exact ⟨.ref a, rfl, a, C, [.str txt], rfl, (by show 1 ≤ 1000; decide), T, ea, v, rfl, .ref a, rfl, a, C, rfl, T, hno, ea, fun dx n ne => q dx n ne⟩
end
/-- the error with the number n is made by its class's name, of one field -/
structure XIs (P : Program) (w : World) (K : PySem.W.Frag) (mg : Str → Option Value) (base : Heap) (n : Nat) (nw : String) (tl : List Value) : Prop where
  gl : mg (xName n) = some (.ref (He.ga K (xName n)))
  cl : XCl K (He.ga K (xName n)) nw tl
  no : ∀ f ∈ xFlds n, PySem.W.findIn K (.ref (He.ga K (xName n))) f = some none
  ex : ∃ (B ini : String) (fI : Addr) (fd : FuncData) (ps : List Str) (f : Str), xFlds n = [f] ∧ ExcBaseFacts B nw ini tl ∧ PySem.W.findIn K (.ref (He.ga K (xName n))) "__init__" = some (some (.ref fI)) ∧ PySem.W.typeIn K (.ref fI) = some (.type "function") ∧
    FnOk P w K mg base (L2.CX P w) 1 fI fd ps (spI K nw tl f) ∧ Binds K fd ps []
def sRaise (n : Nat) (fs : En → T (List W)) : En → T (Fl × En) := fun ρ => (fs ρ).bind fun ws => match ws with
  | [w] => .exc n [w]
  | _ => .bad
theorem upd_back {H : Hp} {a d : Addr} {o o1 o2 : HO} {z : HO} (na : H a = none) (nd : d ≠ a) : upd (del (upd (upd (upd H a o) d o1) a o2) a) d z = upd H d z := by
  funext b
  rcases Decidable.em (b = d) with q | q
  · rw [q, upd_same, upd_same]
  · rw [upd_ne q, upd_ne q]
    rcases Decidable.em (b = a) with q2 | q2
    · rw [q2, del_same, na]
    · rw [del_ne q2, upd_ne q2, upd_ne q, upd_ne q2]
theorem tr_raise {X : Cx} {E : XK} {n : Nat} {nw : String} {tl : List Value} {e : Expr} {es : List Expr} {fs : En → T (List W)} {p pos pos' : Pos} (h : XIs X.prog X.w X.K X.mg X.base n nw tl) (hc : X.calm = true) (tk : Takes X (wOf E)) (hr : Room 2 X.A) (hg : Gl X (xName n)) (ha : TrA Γ X (wOf E) (e :: es) fs)
    (hdb : (xName n == ("__debug__" : Str)) = false := by decide) (he : starEach (e :: es) X.env = (false, eval e X.env) :: starEach es X.env := by rfl) (hpl : (backTo pos (starEach es X.env)).any (·.1) = false := by rfl) :
    TrS Γ X E (.Raise (some (.Call (.Name (xName n) p) (e :: es) [] pos)) none pos') (sRaise n fs) := by
  obtain ⟨B, ini, fI, fd, ps, f, hf, FB, iC, tI, F1, hb⟩ := h.ex
  have hx : Passes (L2.CX X.prog X.w) X (fun _ _ _ => False) := fun pins σ H s e s' I hh => by
    obtain ⟨_, _, _, _, _, _, _, _, _, _, _, _, z⟩ := hh
    exact z.elim
  refine ps_imp (ps_raise hc tk (pmk_x FB h.cl iC tI F1 hr hb hx hg h.gl ha hdb he hpl)) fun D σ H q => ?_
  obtain ⟨_, d, oa, ρ, e0, q⟩ := q
  refine liftA_thenS (P := fun c H => PSq X.K Γ c H D) e0 q (fun st p => p.later (.of st e0.wd)) fun ws vs H1 d1 _ r1 e1 h1 => ?_
  cases r1 with
  | nil => exact h1.elim
  | cons r rr =>
    rename_i w0 v0 ws0 vs0
    cases rr with
    | cons _ _ => exact h1.elim
    | nil =>
      refine ⟨(by show 1 ≤ 1000; decide), fun a na => ?_⟩
      refine ⟨a, He.ga X.K (xName n), v0, rfl, upd_same, h.cl, h.no f (by rw [hf]; exact List.mem_cons_self ..), fun dx nd ne => ⟨rfl, dx, _, upd_same, by rw [upd_ne ne, upd_same], ?_, ?_⟩⟩
      · rw [upd_ne ne] at nd
        exact nd
      · rw [upd_ne ne] at nd
        rw [upd_back na ne]
        refine h1 _ _ _ _ (.of (.new nd) e1.wd) (e1.st.new nd) ⟨rfl, dx, [v0], rfl, ?_, by rw [hf]; rfl, .cons (r.step (.new nd) e1.st e1.ok) .nil⟩
        rw [upd_same, hf]
        rfl
end PF
namespace PF
open PySem PySem.Spec PyProof.Rows L2
/-- one clause: the class, the slot of its name, the suite's reading -/
abbrev Cla := Value × Option Nat × (Addr → Value → Option Addr → TS)
/-- the ends behind a suite: the name goes -/
def goneD (io : Option Nat) (D : Ends) : Ends := match io with
  | none => D
  | some i => { nx := fun σ H => D.nx (σ.set i none) H, rt := D.rt, bk := fun σ H => D.bk (σ.set i none) H, ct := fun σ H => D.ct (σ.set i none) H }
def heldS (io : Option Nat) (a : Addr) (σ : L2.St) : L2.St := match io with
  | none => σ
  | some i => σ.set i (some (.ref a))
/-- what the clauses wish of an error of the body -/
def wCl (K : PySem.W.Frag) (Wo : WX) (D : Ends) : List Cla → WX
  | [] => Wo
  | (c, io, ts) :: r => fun cls dx σ H => ∃ b, PySem.W.exmOne K cls c = some b ∧ (b = true → ∀ a, H a = none → ts a cls dx (goneD io D) (heldS io a σ) H) ∧ (b = false → wCl K Wo D r cls dx σ H)
inductive ClsOk (X : Cx) : List ExceptHandler → List Cla → Prop
  | nil : ClsOk X [] []
  | bare {x : Str} {c : Value} {ts : Addr → Value → Option Addr → TS} {b0 : Stmt} {su : List Stmt} {np ps : Pos} {hds : List ExceptHandler} {l : List Cla} (hc : Names X x c)
      (hsu : ∀ (a : Addr) (oe : Obj) (cls : Value) (dx : Option Addr) (pn : List (Addr × Obj)), Zc cls dx oe → (∃ vs, oe.data = .fields vs) → PSs (X.suite a ((a, oe) :: pn)) (b0 :: su) (ts a cls dx)) (r : ClsOk X hds l) :
      ClsOk X (.ExceptHandler (some (.Name x np)) none (b0 :: su) ps :: hds) ((c, none, ts) :: l)
  | named {x n : Str} {i : Nat} {c : Value} {ts : Addr → Value → Option Addr → TS} {b0 : Stmt} {su : List Stmt} {np ps : Pos} {hds : List ExceptHandler} {l : List Cla} (hc : Names X x c) (hi : X.N[i]? = some n) (hl : X.env.kindOf n = some .local)
      (hsu : ∀ (a : Addr) (oe : Obj) (cls : Value) (dx : Option Addr) (pn : List (Addr × Obj)), Zc cls dx oe → (∃ vs, oe.data = .fields vs) → PSs (X.suite a ((a, oe) :: pn)) (b0 :: su) (ts a cls dx)) (r : ClsOk X hds l) :
      ClsOk X (.ExceptHandler (some (.Name x np)) (some n) (b0 :: su) ps :: hds) ((c, some i, ts) :: l)
section
variable {X : Cx} {body : List Stmt} {h0 : ExceptHandler} {hds : List ExceptHandler} {l : List Cla} {pos : Pos} {tb : WX → TS} {Wo : WX}
theorem ps_tryM (hs : X.stack = X.env :: X.outer) (hf : X.env.frame = some X.env.locals) (hN : X.N.Nodup) (tk : Takes X Wo)
    (hb : ∀ (W : WX) (pn : List (Addr × Obj)) (xe : Value → Shared → Prop), Takes (X.tr pn xe) W → PassesOwn (model X.prog X.w) X.A X.env xe → PSs (X.tr pn xe) body (tb W))
    (hh : ClsOk X (h0 :: hds) l) : PS X (.Try body (h0 :: hds) [] [] pos) (fun D σ H => tb (wCl X.K Wo D l) D σ H) := by
  constructor
  intro pins s σ H D I h
  have ok := I.ok
  have hfr : X.A.frames = some (X.env :: X.outer) := by rw [ok.frames, hs]
  refine wpAny_Try_except (wpAny_mono ((hb (wCl X.K Wo D l) (X.pn ++ pins) (fun e s1 => wpAny (model X.prog X.w) X.A (noteFrame e X.env) (fun _ s2 => wpAny (model X.prog X.w) X.A (setFlight e none) (fun _ s3 =>
    wpAny (model X.prog X.w) X.A (handleBy e X.env (h0 :: hds)) (SP X pins D) X.xe s3) X.xe s2) X.xe s1) (fun u s' xx => ?_) PassesOwn.looking).run [] s σ H D (I.toTry _) h) (fun f s1 hsp => ?_) (fun e s1 he => he))
  · obtain ⟨a, B, sI, pins', σ1, H1, cls, dx, rfl, J', nb, up, sky, na, os, ag, w⟩ := xx
    have J : Inv X pins σ1 H1 sI := J'.ofTry ok
    have sky1 : Sky B (X.env :: X.outer) a (Zc cls dx) X.env.locals s'.heap := by rw [← hs]; exact sky
    show wpAny (model X.prog X.w) X.A (noteFrame (.ref a) X.env) _ _ _
    refine Sky.land Zc.steady hfr hf sky1 fun h3 fl3 up3 => ?_
    have J3 : Inv X pins σ1 H1 { s' with heap := h3 } := J.landed nb fl3.1 (up.trans up3) os ag
    obtain ⟨oe3, vs3, he3, hz3, hd3⟩ := fl3.there
    have nfr : a ∉ frs (X.env :: X.outer) := fun hm => by
      obtain ⟨_, o', e', hnf⟩ := fl3.2.2.1.mem hm
      rw [he3] at e'
      cases e'
      exact hnf _ hd3
    have nL : a ≠ X.env.locals := fun z => nfr (List.mem_filterMap.mpr ⟨X.env, List.mem_cons_self, by rw [hf, z]⟩)
    have nF : a ∉ X.fs := fun hm => by
      obtain ⟨e, he, q⟩ := List.mem_filterMap.mp hm
      exact nfr (List.mem_filterMap.mpr ⟨e, List.mem_cons_of_mem _ he, q⟩)
    have S3 := J3.suite he3 hd3 na nL nF
    have LT : PySem.W.Looks (model X.prog X.w) h3 (typeOf (.ref a)) cls := fun A Q E s k q => wpAny_typeOf_ref (k _ _ he3) (by rw [hz3.1]; exact q)
    have test : ∀ {x : Str} {c : Value} {np : Pos} {Q : Value → Shared → Prop} {E : Value → Shared → Prop}, Names X x c → Q c { s' with heap := h3 } → wpAny (model X.prog X.w) (X.A.mark (some (.ref a))) (eval (.Name x np) X.env) Q E { s' with heap := h3 } := fun {x c np Q E} hc q => by
      obtain ⟨hg, hdbg, hm | ⟨hm, hv, hnn⟩⟩ := hc
      · exact ld_glob (X := X.suite a ((a, oe3) :: (X.pn ++ pins))) S3 hg hm q hdbg
      · exact ld_blt (X := X.suite a ((a, oe3) :: (X.pn ++ pins))) S3 hg hm hv q hnn hdbg
    have walk : ∀ {hds' : List ExceptHandler} {l' : List Cla}, ClsOk X hds' l' → wCl X.K Wo D l' cls dx σ1 H1 → wpAny (model X.prog X.w) X.A (handleBy (.ref a) X.env hds') (SP X pins D) X.xe { s' with heap := h3 } := by
      intro hds' l' hk
      induction hk with
      | nil =>
        intro w
        refine wpAny_handleBy_nil ?_
        obtain ⟨k1, k2, k3, oe, vs, T, oT, ts', he, hz, hd, h1, hr⟩ := id fl3
        unfold PySem.passOn
        refine wpAny_bind (wpAny_field he hd h1 ?_)
        rw [if_neg (by simp : ¬ ((Value.ref T == Value.none) = true))]
        have last : wpAny (model X.prog X.w) X.A (setFlight (.ref a) X.env.frame) (fun _ s4 => wpAny (model X.prog X.w) X.A (throw (.ref a) : Sem Flow) (SP X pins D) X.xe s4) X.xe { s' with heap := h3 } := by
          rw [hf]
          exact HandSPX.setFlight_upZ fl3 fun h4 hh4 up4 => wpAny_throw (tk _ _ ⟨a, B, sI, pins, σ1, H1, cls, dx, rfl, J, nb, (up.trans up3).trans up4, .inr (.inr (by rw [hs]; exact hh4)), na, os, ag, w⟩)
        first
          | exact wpAny_bind (wpAny_pure (wpAny_bind last))
          | exact wpAny_bind last
      | @bare x c ts b0 su np ps hds2 l2 hc hsu r ih =>
        intro w
        obtain ⟨b, hb1, yes, no⟩ := w
        have LM := PySem.W.exm_one (M := model X.prog X.w) (J3.kIn) LT hb1
        refine wpAny_handleBy_cons (codeAny_handlers_test (test hc (LM.here ?_))) (by intro q; cases q)
        match b, yes, no with
        | false, _, no => exact ih (no rfl)
        | true, yes, _ =>
          refine codeAny_handlers_suite (HandSPX.lands_againZ fl3 fun h4 fl4 up4 => ?_)
          have J4 : Inv X pins σ1 H1 { s' with heap := h4 } := J.landed nb fl4.1 ((up.trans up3).trans up4) os ag
          obtain ⟨oe4, vs4, he4, hz4, hd4⟩ := fl4.there
          refine wpAny_mono ((hsu a oe4 cls dx (X.pn ++ pins) hz4 ⟨_, hd4⟩).run [] _ _ H1 _ (J4.suite he4 hd4 na nL nF) (yes rfl a na)) (fun f s6 hsp => ?_) (fun _ _ z => False.elim z)
          match f, hsp with
          | .next, ⟨σ6, H6, S6, q6⟩ => exact ⟨_, _, S6.unsuite ok, q6⟩
          | .brk, ⟨σ6, H6, S6, q6⟩ => exact ⟨_, _, S6.unsuite ok, q6⟩
          | .cont, ⟨σ6, H6, S6, q6⟩ => exact ⟨_, _, S6.unsuite ok, q6⟩
          | .ret u, ⟨v6, σ6, H6, S6, r6, q6⟩ => exact ⟨_, _, _, S6.unsuite ok, r6, q6⟩
      | @named x n i c ts b0 su np ps hds2 l2 hc hi hl hsu r ih =>
        intro w
        obtain ⟨b, hb1, yes, no⟩ := w
        have LM := PySem.W.exm_one (M := model X.prog X.w) (J3.kIn) LT hb1
        refine wpAny_handleBy_cons (codeAny_handlers_test (test hc (LM.here ?_))) (by intro q; cases q)
        match b, yes, no with
        | false, _, no => exact ih (no rfl)
        | true, yes, _ =>
          refine codeAny_handlers_suite_as (HandSPX.lands_againZ fl3 fun h4 fl4 up4 => ?_)
          have J4 : Inv X pins σ1 H1 { s' with heap := h4 } := J.landed nb fl4.1 ((up.trans up3).trans up4) os ag
          obtain ⟨oe4, vs4, he4, hz4, hd4⟩ := fl4.there
          refine store_ok (X := X.suite a ((a, oe4) :: (X.pn ++ pins))) (v := .ref a) (J4.suite he4 hd4 na nL nF) hN hi (.inl hl) rfl (fun s5 S5 => ?_) (.inr hl)
          refine wpAny_mono ((hsu a oe4 cls dx (X.pn ++ pins) hz4 ⟨_, hd4⟩).run [] s5 _ H1 _ S5 (yes rfl a na)) (fun f s6 hsp => ?_) (fun _ _ z => False.elim z)
          have goes : ∀ {σ6 : L2.St} {H6 : Hp} {Q : Shared → Prop}, Inv (X.suite a ((a, oe4) :: (X.pn ++ pins))) [] σ6 H6 s6 → (∀ s7, Inv X pins (σ6.set i none) H6 s7 → Q s7) →
              wpAny (model X.prog X.w) X.A (do bindName X.env n .none; unbindBehindTheSuite X.env n ps) (fun _ s7 => Q s7) X.xe s6 := fun {σ6 H6 Q} S6 hq => gone_ok (S6.unsuite ok) hN hi hl hq
          match f, hsp with
          | .next, ⟨σ6, H6, S6, q6⟩ => exact goes S6 fun s7 J7 => ⟨_, _, J7, q6⟩
          | .brk, ⟨σ6, H6, S6, q6⟩ => exact goes S6 fun s7 J7 => ⟨_, _, J7, q6⟩
          | .cont, ⟨σ6, H6, S6, q6⟩ => exact goes S6 fun s7 J7 => ⟨_, _, J7, q6⟩
          | .ret u, ⟨v6, σ6, H6, S6, r6, q6⟩ => exact goes S6 fun s7 J7 => ⟨_, _, _, J7, r6, q6⟩
    exact walk hh w
  · match f, hsp with
    | .next, ⟨σ', H', J', q⟩ => exact wpAny_execs_nil ⟨σ', H', J'.ofTry ok, q⟩
    | .brk, ⟨σ', H', J', q⟩ => exact ⟨σ', H', J'.ofTry ok, q⟩
    | .cont, ⟨σ', H', J', q⟩ => exact ⟨σ', H', J'.ofTry ok, q⟩
    | .ret u, ⟨v, σ', H', J', r, q⟩ => exact ⟨v, σ', H', J'.ofTry ok, r, q⟩
end
def T.catch {α β : Type} (ok : α → T β) (hd : Nat → List W → T β) : T α → T β
  | .ok a => ok a
  | .exc n fs => hd n fs
  | .bad => .bad
  | .ask n k => .ask n fun i => (k i).catch ok hd
  | .get i k => .get i fun c fs => (k c fs).catch ok hd
  | .put i fs k => .put i fs (k.catch ok hd)
  | .new c fs k => .new c fs fun i => (k i).catch ok hd
theorem T.allW_catch {α β : Type} {P : Dw → β → Prop} {E : Dw → Nat → List W → Prop} {ok : α → T β} {hd : Nat → List W → T β} {t : T α} {d : Dw} : (t.catch ok hd).AllW P E d ↔ t.AllW (fun d a => (ok a).AllW P E d) (fun d n fs => (hd n fs).AllW P E d) d := by
  induction t generalizing d with
  | ok a => exact Iff.rfl
  | exc n fs => exact Iff.rfl
  | bad => exact Iff.rfl
  | ask n k ih =>
    constructor
    · rintro ⟨e, he, x⟩
      exact ⟨e, he, fun i hi => (ih i).mp (x i hi)⟩
    · rintro ⟨e, he, x⟩
      exact ⟨e, he, fun i hi => (ih i).mpr (x i hi)⟩
  | get i k ih =>
    constructor
    · rintro ⟨c, fs, e, x⟩
      exact ⟨c, fs, e, (ih c fs).mp x⟩
    · rintro ⟨c, fs, e, x⟩
      exact ⟨c, fs, e, (ih c fs).mpr x⟩
  | put i fs k ih =>
    constructor
    · rintro ⟨c, gs, e, x⟩
      exact ⟨c, gs, e, ih.mp x⟩
    · rintro ⟨c, gs, e, x⟩
      exact ⟨c, gs, e, ih.mpr x⟩
  | new c fs k ih => exact ih _
/-- a clause's run: which errors it takes, its name's slot, what it tells of the fields -/
structure Hd where
  m : Nat → Bool
  io : Option Nat
  h : Nat → List W → T W
def unE (io : Option Nat) (ρ : En) : En := match io with
  | none => ρ
  | some i => ρ.set i .un
/-- k: what is done with what a clause tells -/
def hdls (k : W → En → Fl × En) : List Hd → Nat → List W → En → T (Fl × En)
  | [], n, fs, _ => .exc n fs
  | x :: r, n, fs, ρ => if x.m n then (x.h n fs).bind fun w => .ok (k w (unE x.io ρ)) else hdls k r n fs ρ
def sTry (ns : List Nat) (k : W → En → Fl × En) (f : En → T W) (hs : List Hd) : En → T (Fl × En) := fun ρ => (f ρ).catch (fun w => .ok (k w ρ)) fun n fs => if ns.contains n then hdls k hs n fs ρ else .bad
def kRet : W → En → Fl × En := fun w ρ => (.rt w, ρ)
def kSet (j : Nat) : W → En → Fl × En := fun w ρ => (.nx, ρ.set j (.val w))
/-- the reading of an expression of the suite: a the error, of the class n, with its fields -/
def liftX (K : PySem.W.Frag) (ns : List Nat) (io : Option Nat) (h : Nat → List W → T W) (a : Addr) (cls : Value) (dx : Option Addr) : TE := fun σ H Q => ∃ (c : Cc) (d : Dw) (n : Nat) (fs : List W), n ∈ ns ∧ Wd c d H ∧ (∀ i, io = some i → σ[i]? = some (some (.ref a))) ∧ RepX K c H n fs cls dx ∧ ∃ E', (h n fs).AllW (PQ K c H Q) E' d
def liftXL (K : PySem.W.Frag) (ns : List Nat) (io : Option Nat) (h : Nat → List W → T (List W)) (a : Addr) (cls : Value) (dx : Option Addr) : TA := fun σ H Q => ∃ (c : Cc) (d : Dw) (n : Nat) (fs : List W), n ∈ ns ∧ Wd c d H ∧ (∀ i, io = some i → σ[i]? = some (some (.ref a))) ∧ RepX K c H n fs cls dx ∧ ∃ E', (h n fs).AllW (PQL K c H Q) E' d
def TrX (X : Cx) (ns : List Nat) (io : Option Nat) (e : Expr) (h : Nat → List W → T W) : Prop := ∀ (a : Addr) (oe : Obj) (cls : Value) (dx : Option Addr) (pn : List (Addr × Obj)), Zc cls dx oe → (∃ vs, oe.data = .fields vs) → PE (X.suite a ((a, oe) :: pn)) e (liftX X.K ns io h a cls dx)
def TrXL (X : Cx) (ns : List Nat) (io : Option Nat) (es : List Expr) (h : Nat → List W → T (List W)) : Prop := ∀ (a : Addr) (oe : Obj) (cls : Value) (dx : Option Addr) (pn : List (Addr × Obj)), Zc cls dx oe → (∃ vs, oe.data = .fields vs) → PA (X.suite a ((a, oe) :: pn)) es (liftXL X.K ns io h a cls dx)
theorem RepX.step {K : PySem.W.Frag} {c c' : Cc} {d : Dw} {H H' : Hp} {n : Nat} {fs : List W} {cls : Value} {dx : Option Addr} (st : SG c c' H H') (wd : Wd c d H) (r : RepX K c H n fs cls dx) : RepX K c' H' n fs cls dx := by
  obtain ⟨r1, d', vs, r2, r3, r4, r5⟩ := r
  obtain ⟨kvs, hS⟩ := wd.st.S
  obtain ⟨xs, hl⟩ := wd.st.la
  exact ⟨r1, d', vs, r2, st.st.keep _ _ r3 (ne_of r3 hS (by intro z; cases z)) (ne_of r3 hl (by intro z; cases z)) nofun, r4, r5.step st wd.st wd.ok⟩
def hC (w : W) : Nat → List W → T W := fun _ _ => .ok w
def hF (k : Nat) : Nat → List W → T W := fun _ fs => match fs[k]? with
  | some w => .ok w
  | none => .bad
def hNil : Nat → List W → T (List W) := fun _ _ => .ok []
def hCons (h : Nat → List W → T W) (r : Nat → List W → T (List W)) : Nat → List W → T (List W) := fun n fs => (h n fs).bind fun x => (r n fs).bind fun xs => .ok (x :: xs)
def hL (r : Nat → List W → T (List W)) (g : List W → T W) : Nat → List W → T W := fun n fs => (r n fs).bind g
section
variable {X : Cx} {ns : List Nat} {io : Option Nat} {e : Expr} {es : List Expr} {h : Nat → List W → T W} {r : Nat → List W → T (List W)} {pos : Pos}
theorem trx_const {v : V} {w : W} (he : ∀ Y : Cx, PE Y e (tC v)) (rr : ∀ K c H, Rep K c H w v) : TrX X ns io e (hC w) := fun a oe cls dx pn hz hf => pe_imp (he _) fun σ H Q q => by
  obtain ⟨c, d, n, fs, hn, wd, hi, rx, E', q⟩ := q
  exact PQ.now wd q (rr _ c H)
theorem trx_str {x : Str} {j : Nat} : TrX X ns io (.Constant (.str x) j pos) (hC (.str x)) := trx_const (fun _ => pe_str) fun _ _ _ => .str x
theorem trx_non {j : Nat} : TrX X ns io (.Constant .none j pos) (hC .non) := trx_const (fun _ => pe_non) fun _ _ _ => .non
theorem trx_bl {b : Bool} {j : Nat} : TrX X ns io (.Constant (.bool b) j pos) (hC (.bl b)) := trx_const (fun _ => pe_bl) fun _ _ _ => .bl b
theorem trx_int {i : Int} {j : Nat} : TrX X ns io (.Constant (.int i) j pos) (hC (.int i)) := trx_const (fun _ => pe_int) fun _ _ _ => .int i
theorem trx_nil : TrXL X ns io [] hNil := fun a oe cls dx pn hz hf => pa_imp pa_nil fun σ H Q q => by
  obtain ⟨c, d, n, fs, hn, wd, hi, rx, E', q⟩ := q
  exact q [] H (.refl _ H) wd.st .nil
theorem trx_cons (he : TrX X ns io e h) (hr : TrXL X ns io es r) (hs : ∀ env : PySem.Env, starEach (e :: es) env = (false, eval e env) :: starEach es env := by intro _; rfl) : TrXL X ns io (e :: es) (hCons h r) := fun a oe cls dx pn hz hf => pa_imp (pa_cons (he a oe cls dx pn hz hf) (hr a oe cls dx pn hz hf) (hs _)) fun σ H Q q => by
  obtain ⟨c, d, n, fs, hn, wd, hi, rx, E', q⟩ := q
  refine ⟨c, d, n, fs, hn, wd, hi, rx, E', T.AllW.imp (fun d1 w x => ?_) (fun _ _ _ x => x) (T.allW_bind.mp q)⟩
  intro _ v H1 st so rv
  have wd1 := wd.step st so
  refine ⟨_, d1, n, fs, hn, wd1, hi, rx.step st wd, E', T.AllW.imp (fun d2 ws y => ?_) (fun _ _ _ x => x) (T.allW_bind.mp x)⟩
  intro _ vs H2 st2 so2 rl
  exact y _ H2 (st.trans st2) so2 (.cons (rv.step st2 wd1.st wd1.ok) rl)
theorem trx_tup {x1} (hr : TrXL X ns io es r) : TrX X ns io (.Tuple es x1 pos) (hL r mkTup) := fun a oe cls dx pn hz hf => pe_imp (pe_tup (hr a oe cls dx pn hz hf)) fun σ H Q q => by
  obtain ⟨c, d, n, fs, hn, wd, hi, rx, E', q⟩ := q
  refine ⟨c, d, n, fs, hn, wd, hi, rx, E', T.AllW.imp (fun d1 ws y => ?_) (fun _ _ _ x => x) (T.allW_bind.mp q)⟩
  intro _ vs H1 st so rl
  obtain ⟨h2, y⟩ := T.AllW.ite y
  exact ⟨by rw [← rl.length]; exact sizeOk_of h2, fun p n => PQ.tup (wd.step st so) (y.later st) rl n⟩
theorem trx_lst (hr : TrXL X ns io es r) : TrX X ns io (.List es pos) (hL r mkLst) := fun a oe cls dx pn hz hf => pe_imp (pe_lst (hr a oe cls dx pn hz hf)) fun σ H Q q => by
  obtain ⟨c, d, n, fs, hn, wd, hi, rx, E', q⟩ := q
  refine ⟨c, d, n, fs, hn, wd, hi, rx, E', T.AllW.imp (fun d1 ws y => ?_) (fun _ _ _ x => x) (T.allW_bind.mp q)⟩
  intro _ vs H1 st so rl
  obtain ⟨h2, y⟩ := T.AllW.ite y
  exact ⟨by rw [← rl.length]; exact sizeOk_of h2, fun p n => PQ.lst (wd.step st so) (y.later st) rl n⟩
/-- error.f -/
theorem trx_fld {i k : Nat} {nm f : Str} {p : Pos} {n : Nat} (T : XfC X.K (He.ga X.K (xName n))) (hno : PySem.W.findIn X.K (.ref (He.ga X.K (xName n))) f = some none) (hN : X.N[i]? = some nm) (hv : Vis X.env.scope nm) (hk : (xFlds n)[k]? = some f) (hu : (xFlds n).Nodup)
    (hb : ∀ env : PySem.Env, attributeBase (.Name nm p) f env (eval (.Name nm p) env) = eval (.Name nm p) env := by intro _; rfl) (hd : (nm == ("__debug__" : Str)) = false := by decide) (hcd : (nm == ("__classdict__" : Str)) = false := by decide) :
    TrX X [n] (some i) (.Attribute (.Name nm p) f pos) (hF k) := fun a oe cls dx pn hz hf => by
  refine pe_imp (pe_xf T hno hz hf (pe_var (X := X.suite a ((a, oe) :: pn)) (i := i) hN hv hd hcd) (hb _)) fun σ H Q q => ?_
  obtain ⟨c, d, n', fs, hn, wd, hi, rx, E', q⟩ := q
  obtain rfl : n' = n := by simpa using hn
  obtain ⟨r1, d', vs, r2, r3, r4, r5⟩ := rx
  refine ⟨.ref a, hi i rfl, rfl, r1, d', ((xFlds n').zip vs).reverse, ?_⟩
  have hkl : k < (xFlds n').length := (List.getElem?_eq_some_iff.mp hk).1
  have hkv : k < vs.length := by omega
  have hlk : ((xFlds n').zip vs).reverse.lookup f = some vs[k] := by
    have key : ∀ (ks : List Str) (vs : List V) (k : Nat) (f : Str) (hk : ks[k]? = some f) (hv : k < vs.length), ks.Nodup → ((ks.zip vs).reverse).lookup f = some vs[k] := by
      intro ks
      induction ks with
      | nil => intro vs k f hk; simp at hk
      | cons x ks ih =>
        intro vs k f hk hv hu
        cases vs with
        | nil => simp at hv
        | cons v vs =>
          rw [List.zip_cons_cons, List.reverse_cons, List.lookup_append]
          cases k with
          | zero =>
            have hx : x = f := by simpa using hk
            subst hx
            have hnone : ((ks.zip vs).reverse).lookup x = none := by
              rw [List.lookup_eq_none_iff]
              intro p hp
              have hp2 := List.of_mem_zip (List.mem_reverse.mp hp)
              have : x ≠ p.1 := fun z => (List.nodup_cons.mp hu).1 (z ▸ hp2.1)
              simpa using this
            rw [hnone]
            simp [List.lookup]
          | succ k =>
            rw [ih vs k f (by simpa using hk) (by simpa using hv) (List.nodup_cons.mp hu).2]
            simp
    exact key _ _ _ _ hk hkv hu
  have hfl : k < fs.length := by rw [r5.length]; exact hkv
  obtain ⟨v, hv1, hv2⟩ := r5.get (List.getElem?_eq_getElem hfl)
  rw [List.getElem?_eq_getElem hkv] at hv1
  cases hv1
  refine ⟨vs[k], r2, r3, hlk, ?_⟩
  unfold hF at q
  rw [List.getElem?_eq_getElem hfl] at q
  exact PQ.now wd q hv2
end
inductive KK where
  | ret | set (j : Nat)
def KK.k : KK → W → En → Fl × En
  | .ret => kRet
  | .set j => kSet j
def KK.aft : KK → Ends → L2.St → VK
  | .ret => fun D _ v H => D.rt v H
  | .set j => fun D σ v H => D.nx (σ.set j (some v)) H
def tSu (K : PySem.W.Frag) (kk : KK) (ns : List Nat) (io : Option Nat) (h : Nat → List W → T W) (a : Addr) (cls : Value) (dx : Option Addr) : TS := fun D σ H => liftX K ns io h a cls dx σ H (kk.aft D σ)
/-- clauses of one statement each; ns: the errors that there are -/
inductive TrC (X : Cx) (kk : KK) (ns : List Nat) : List ExceptHandler → List Hd → List Cla → Prop
  | nil : TrC X kk ns [] [] []
  | cons {x : Str} {c : Value} {no : Option Str} {ms : List Nat} {m : Nat → Bool} {io : Option Nat} {h : Nat → List W → T W} {su : Stmt} {np ps : Pos} {hds : List ExceptHandler} {hs : List Hd} {l : List Cla} (hc : Names X x c) (hi : ∀ i, io = some i → ∃ n, no = some n ∧ X.N[i]? = some n ∧ X.env.kindOf n = some .local) (hio : io = none → no = none)
      (hm : ∀ n ∈ ns, PySem.W.exmOne X.K (.ref (He.ga X.K (xName n))) c = some (m n)) (hms : ∀ n ∈ ns, m n = true → n ∈ ms)
      (hsu : ∀ (a : Addr) (oe : Obj) (cls : Value) (dx : Option Addr) (pn : List (Addr × Obj)), Zc cls dx oe → (∃ vs, oe.data = .fields vs) → PSs (X.suite a ((a, oe) :: pn)) [su] (tSu X.K kk ms io h a cls dx)) (r : TrC X kk ns hds hs l) :
      TrC X kk ns (.ExceptHandler (some (.Name x np)) no [su] ps :: hds) (⟨m, io, h⟩ :: hs) ((c, io, tSu X.K kk ms io h) :: l)
theorem TrC.ok {X : Cx} {kk : KK} {ns : List Nat} : ∀ {hds : List ExceptHandler} {hs : List Hd} {l : List Cla}, TrC X kk ns hds hs l → ClsOk X hds l
  | _, _, _, .nil => .nil
  | _, _, _, .cons (io := none) hc hi hio hm hms hsu r => by
    rw [hio rfl]
    exact .bare hc hsu r.ok
  | _, _, _, .cons (io := some i) hc hi hio hm hms hsu r => by
    obtain ⟨n, rfl, h1, h2⟩ := hi i rfl
    exact .named hc h1 h2 hsu r.ok
theorem set_set_none {α : Type} (σ : List (Option α)) (i : Nat) (x : Option α) : (σ.set i x).set i none = σ.set i none := by
  rw [List.set_set]
theorem EnvOk.unIo {K : PySem.W.Frag} {c : Cc} {d : Dw} {oa : Nat → Addr} {ρ : En} {σ : L2.St} {H : Hp} (e : EnvOk K Γ c d oa ρ σ H) (i : Nat) : EnvOk K Γ c d oa (ρ.set i .un) (σ.set i none) H := e.un
theorem held_len {io : Option Nat} {a : Addr} {σ : L2.St} : (heldS io a σ).length = σ.length := by
  unfold heldS
  cases io with
  | none => rfl
  | some i => exact List.length_set
section
variable {X : Cx} {kk : KK} {ns : List Nat} {E : XK} {c : Cc} {d : Dw} {oa : Nat → Addr} {ρ : En} {σ : L2.St} {H : Hp} {D : Ends} {n : Nat} {fs : List W} {cls : Value} {dx : Option Addr}
theorem wCl_of (e : EnvOk X.K Γ c d oa ρ σ H) (rx : RepX X.K c H n fs cls dx) (hn : n ∈ ns) : ∀ {hds : List ExceptHandler} {hs : List Hd} {l : List Cla}, TrC X kk ns hds hs l → (∀ x ∈ hs, ∀ i j, x.io = some i → kk = .set j → i ≠ j) → (∀ x ∈ hs, ∀ i, x.io = some i → i < σ.length) → (hdls kk.k hs n fs ρ).AllW (PSq X.K Γ c H D) (PXs X.K c H E) d →
    wCl X.K (wOf E) D l cls dx σ H
  | _, _, _, .nil, _, _, q => q c cls dx H .refl e.st rx
  | _, _, _, .cons (m := m) (io := io) (h := h) hc hi hio hm hms hsu r, hne, hlt, q => by
    refine ⟨m n, ?_, fun hb a na => ?_, fun hb => ?_⟩
    · rw [rx.1]
      exact hm n hn
    · have q : (if m n then (h n fs).bind fun w => T.ok (kk.k w (unE io ρ)) else _ : T (Fl × En)).AllW (PSq X.K Γ c H D) (PXs X.K c H E) d := q
      rw [if_pos hb] at q
      refine ⟨c, d, n, fs, hms n hn hb, e.wd, fun i hio' => ?_, rx, _, T.AllW.imp (fun d1 w y => ?_) (fun _ _ _ y => y) (T.allW_bind.mp q)⟩
      · subst hio'
        show (σ.set i (some (.ref a)))[i]? = _
        rw [List.getElem?_set_self (hlt _ (List.mem_cons_self ..) i rfl)]
      · intro c1 v H1 st so rv
        have e1 := e.step st so
        have fw : Fwd X.K c H c1 H1 := .of st e.wd
        cases io with
        | none =>
          cases kk with
          | ret => exact y _ oa σ H1 fw e1 v rv
          | set j => exact y _ oa (σ.set j (some v)) H1 fw (e1.set rv)
        | some i =>
          cases kk with
          | ret => exact y _ oa (σ.set i none) H1 fw e1.un v rv
          | set j =>
            have nij := hne _ (List.mem_cons_self ..) i j rfl rfl
            have es : ((σ.set i (some (V.ref a))).set j (some v)).set i none = (σ.set i none).set j (some v) := by
              rw [List.set_comm _ _ (Ne.symm nij), List.set_set]
            show D.nx (((σ.set i (some (V.ref a))).set j (some v)).set i none) H1
            rw [es]
            exact y _ oa _ H1 fw (e1.un.set rv)
    · have q : (if m n then (h n fs).bind fun w => T.ok (kk.k w (unE io ρ)) else hdls kk.k _ n fs ρ : T (Fl × En)).AllW (PSq X.K Γ c H D) (PXs X.K c H E) d := q
      rw [if_neg (by rw [hb]; decide)] at q
      exact wCl_of e rx hn r (fun x hx => hne x (List.mem_cons_of_mem _ hx)) (fun x hx => hlt x (List.mem_cons_of_mem _ hx)) q
end
section
variable {X : Cx} {ns : List Nat} {E : XK} {f : En → T W} {e : Expr} {h0 : ExceptHandler} {hds : List ExceptHandler} {hs : List Hd} {l : List Cla} {pos p1 : Pos}
theorem try_mid {kk : KK} (hl : ∀ x ∈ hs, ∀ i, x.io = some i → i < X.N.length) (hne : ∀ x ∈ hs, ∀ i j, x.io = some i → kk = .set j → i ≠ j) (r : TrC X kk ns (h0 :: hds) hs l) (len : ∀ pins s σ H, Inv X pins σ H s → σ.length = X.N.length) {D : Ends} {σ : L2.St} {H : Hp} (hlen : σ.length = X.N.length) (q : liftS X.K Γ E (sTry ns kk.k f hs) D σ H) :
    liftE X.K Γ (wCl X.K (wOf E) D l) f σ H (kk.aft D σ) := by
  obtain ⟨c, d, oa, ρ, e, q⟩ := q
  refine ⟨c, d, oa, ρ, e, T.AllW.imp (fun d1 w y => ?_) (fun d1 n fs y => ?_) (T.allW_catch.mp q)⟩
  · intro _ v H1 st so rv
    have e1 := e.step st so
    cases kk with
    | ret => exact y _ oa σ H1 (.of st e.wd) e1 v rv
    | set j => exact y _ oa (σ.set j (some v)) H1 (.of st e.wd) (e1.set rv)
  · intro _ cls dx H1 st so rx
    have e1 := e.step st so
    obtain ⟨hc, y⟩ := T.AllW.ite y
    exact wCl_of e1 rx (List.contains_iff_mem.mp hc) r hne (fun x hx i hi => by rw [hlen]; exact hl x hx i hi) (T.AllW.imp (fun _ _ z => z.later (.of st e.wd)) (fun _ _ _ z => z.later e.wd st) y)
theorem trS_len {st : Stmt} {g : En → T (Fl × En)} {t : TS} (h : PS X st t) (i : ∀ D σ H, σ.length = X.N.length → liftS X.K Γ E g D σ H → t D σ H) : TrS Γ X E st g := ⟨fun pins s σ H D I q => h.run pins s σ H D I (i D σ H I.len q)⟩
theorem tr_tryR (hs0 : X.stack = X.env :: X.outer) (hf : X.env.frame = some X.env.locals) (hN : X.N.Nodup) (tk : Takes X (wOf E)) (he : ∀ (W : WX) (pn : List (Addr × Obj)) (xe : Value → Shared → Prop), Takes (X.tr pn xe) W → TrE Γ (X.tr pn xe) W e f)
    (hl : ∀ x ∈ hs, ∀ i, x.io = some i → i < X.N.length) (r : TrC X .ret ns (h0 :: hds) hs l) : TrS Γ X E (.Try [.Return (some e) p1] (h0 :: hds) [] [] pos) (sTry ns kRet f hs) :=
  trS_len (ps_tryM hs0 hf hN tk (tb := fun W => tRet (liftE X.K Γ W f)) (fun W pn xe tk' _ => pss_one (ps_ret (he W pn xe tk'))) r.ok) fun D σ H hlen q => try_mid (kk := .ret) hl (fun _ _ _ _ _ z => by cases z) r (fun _ _ _ _ I => I.len) hlen q
theorem tr_tryA {j : Nat} {x : Str} {pos' : Pos} (hs0 : X.stack = X.env :: X.outer) (hf : X.env.frame = some X.env.locals) (hN : X.N.Nodup) (tk : Takes X (wOf E)) (hj : X.N[j]? = some x) (hx : Loc X.env.scope x) (he : ∀ (W : WX) (pn : List (Addr × Obj)) (xe : Value → Shared → Prop), Takes (X.tr pn xe) W → TrE Γ (X.tr pn xe) W e f)
    (hl : ∀ x ∈ hs, ∀ i, x.io = some i → i < X.N.length) (hne : ∀ x ∈ hs, ∀ i, x.io = some i → i ≠ j) (r : TrC X (.set j) ns (h0 :: hds) hs l) (hsw : swapsWith e (some (.Name x pos')) p1.line X.env = pure false := by rfl)
    (hfn : X.fn x = true ∨ X.env.scope.names.lookup x = some .local := by first | exact .inl rfl | exact .inr rfl | assumption) : TrS Γ X E (.Try [.Assign [.Name x pos'] e p1] (h0 :: hds) [] [] pos) (sTry ns (kSet j) f hs) :=
  trS_len (ps_tryM hs0 hf hN tk (tb := fun W => tAsg (liftE X.K Γ W f) (gName j)) (fun W pn xe tk' _ => pss_one (ps_set (X := X.tr pn xe) hN hj hx (he W pn xe tk') hsw hfn)) r.ok) fun D σ H hlen q => try_mid (kk := .set j) hl (fun x hx i j' h1 h2 => by cases h2; exact hne x hx i h1) r (fun _ _ _ _ I => I.len) hlen q
/-- the suites -/
theorem su_ret {ms : List Nat} {io : Option Nat} {e' : Expr} {h : Nat → List W → T W} (he : TrX X ms io e' h) : ∀ (a : Addr) (oe : Obj) (cls : Value) (dx : Option Addr) (pn : List (Addr × Obj)), Zc cls dx oe → (∃ vs, oe.data = .fields vs) → PSs (X.suite a ((a, oe) :: pn)) [.Return (some e') p1] (tSu X.K .ret ms io h a cls dx) :=
  fun a oe cls dx pn hz hf => pss_one (ps_ret (he a oe cls dx pn hz hf))
theorem su_set {ms : List Nat} {io : Option Nat} {e' : Expr} {h : Nat → List W → T W} {j : Nat} {x : Str} {pos' : Pos} (hN : X.N.Nodup) (hj : X.N[j]? = some x) (hx : Loc X.env.scope x) (he : TrX X ms io e' h) (hsw : swapsWith e' (some (.Name x pos')) p1.line X.env = pure false := by rfl)
    (hfn : X.fn x = true ∨ X.env.scope.names.lookup x = some .local := by first | exact .inl rfl | exact .inr rfl | assumption) : ∀ (a : Addr) (oe : Obj) (cls : Value) (dx : Option Addr) (pn : List (Addr × Obj)), Zc cls dx oe → (∃ vs, oe.data = .fields vs) → PSs (X.suite a ((a, oe) :: pn)) [.Assign [.Name x pos'] e' p1] (tSu X.K (.set j) ms io h a cls dx) :=
  fun a oe cls dx pn hz hf => pss_one (ps_set (X := X.suite a ((a, oe) :: pn)) hN hj hx (he a oe cls dx pn hz hf) hsw hfn)
end
end PF
namespace PF
open PySem PySem.Spec PyProof.Rows L2
def mth (st : Stmt) : Stmt := match st with
  | .ClassDef (body := b :: _) .. => b
  | s => s
abbrev tlV : List Value := [.type "ValueError", .type "Exception", .type "BaseException", .type "object"]
abbrev tlO : List Value := [.type "OverflowError", .type "ArithmeticError", .type "Exception", .type "BaseException", .type "object"]
theorem allN {p : Nat → Prop} : ∀ n ∈ ([] : List Nat), p n := fun _ h => by cases h
theorem allC {p : Nat → Prop} {a : Nat} {l : List Nat} (h : p a) (r : ∀ n ∈ l, p n) : ∀ n ∈ a :: l, p n := fun n hn => by
  rcases List.mem_cons.mp hn with rfl | hn
  · exact h
  · exact r n hn
theorem memC {a : Nat} {l : List Nat} {m : Nat → Bool} {ms : List Nat} (h : m a = true → a ∈ ms) (r : ∀ n ∈ l, m n = true → n ∈ ms) : ∀ n ∈ a :: l, m n = true → n ∈ ms := allC (p := fun n => m n = true → n ∈ ms) h r
/-- an own class that gives its base's __init__ -/
def iniB : Option PySem.W.CFound → String → Bool
  | some (.val (.builtin b)), ini => decide (b = ini)
  | _, _ => false
theorem iniB_ok {o : Option PySem.W.CFound} {ini : String} (h : iniB o ini = true) : o = some (.val (.builtin ini)) := by
  unfold iniB at h
  split at h
  · rw [of_decide_eq_true h]
  · cases h
def ownB (K : PySem.W.Frag) (C : Addr) (ini : String) : Bool := PySem.W.readsIn K C (.type "type") && (decide (PySem.W.specialIn K (.ref C) "__getattribute__" = some (some (.builtin "type.__getattribute__"))) && iniB (PySem.W.findCls K (.ref C) (.type "type") "__init__") ini)
theorem ownB_base {X : Cx} {bn : Str} {ini : String} {C : Addr} (hg : Gl X bn) (hm : X.mg bn = some (.ref C)) (h : ownB X.K C ini = true) (hh : PySem.W.handedIn (.builtin ini) = true) (hdb : (bn == ("__debug__" : Str)) = false) : BaseIni X bn ini := by
  unfold ownB at h
  simp only [Bool.and_eq_true, decide_eq_true_eq] at h
  exact base_own hg hm h.1 h.2.1 (iniB_ok h.2.2) hh hdb
/-- all of a class that the head says -/
def xB (K : PySem.W.Frag) (x f : Str) (nw : String) (tl : List Value) : Bool := xclB K (He.ga K x) nw tl && (decide (PySem.W.findIn K (.ref (He.ga K x)) f = some none) && (decide (PySem.W.findIn K (.ref (He.ga K x)) "__init__" = some (some (.ref (He.ma K (He.ga K x) "__init__")))) &&
  (decide (PySem.W.typeIn K (.ref (He.ma K (He.ga K x) "__init__")) = some (.type "function")) && xfB K (He.ga K x))))
structure XB (K : PySem.W.Frag) (x f : Str) (nw : String) (tl : List Value) : Prop where
  cl : XCl K (He.ga K x) nw tl
  no : PySem.W.findIn K (.ref (He.ga K x)) f = some none
  ic : PySem.W.findIn K (.ref (He.ga K x)) "__init__" = some (some (.ref (He.ma K (He.ga K x) "__init__")))
  ti : PySem.W.typeIn K (.ref (He.ma K (He.ga K x) "__init__")) = some (.type "function")
  xf : XfC K (He.ga K x)
theorem xB_ok {K : PySem.W.Frag} {x f : Str} {nw : String} {tl : List Value} (h : xB K x f nw tl = true) : XB K x f nw tl := by
  unfold xB at h
  simp only [Bool.and_eq_true, decide_eq_true_eq] at h
  exact ⟨xclB_ok h.1, h.2.1, h.2.2.1, h.2.2.2.1, xfB_ok h.2.2.2.2⟩
theorem XB.is {P : Program} {w : World} {K : PySem.W.Frag} {mg : Str → Option Value} {base : Heap} {n : Nat} {nw B ini : String} {tl : List Value} {fd : FuncData} {ps : List Str} {f : Str} (h : XB K (xName n) f nw tl) (hf : xFlds n = [f]) (gl : mg (xName n) = some (.ref (He.ga K (xName n)))) (FB : ExcBaseFacts B nw ini tl)
    (F : FnOk P w K mg base (L2.CX P w) 1 (He.ma K (He.ga K (xName n)) "__init__") fd ps (spI K nw tl f)) (hb : Binds K fd ps []) : XIs P w K mg base n nw tl :=
  ⟨gl, h.cl, fun g hg => (by
    rw [hf] at hg
    rcases List.mem_cons.mp hg with rfl | hg
    · exact h.no
    · cases hg), B, ini, _, fd, ps, f, hf, FB, h.ic, h.ti, F, hb⟩
theorem handed_VE : PySem.W.handedIn (.builtin "ValueError.__init__") = true := by decide +kernel
theorem handed_OE : PySem.W.handedIn (.builtin "OverflowError.__init__") = true := by decide +kernel
theorem typ_OE : typeOf (.type "OverflowError") = pure (.type "type") := by kernel_rfl
end PF
namespace PF
open PySem PySem.Spec PyProof.Rows L2
section
variable {M : Model} {A : Around} {E : Value → Shared → Prop} {s : Shared} {qual : Str} {params : Arguments} {body : Expr} {scope : Scope} {env : PySem.Env} {c P : Addr} {ps : Array Value} {pos : Pos} {ln : Nat} {mg : Str → Option Value} {clos : List (Str × Addr)} {dV : Value} {Q : Value → Shared → Prop}
theorem lam_tail (hcl : closureFor scope env = pure clos) (hge0 : env.globals = mainGlobals) (hg : s.heap.Ns mainGlobals mg) (hcode : env.code = .ref c) (C : PySem.W.CodeHd s.heap c P) (hP : s.heap.get? P = some (PySem.W.tabObj ps)) (ht : TriplesOk ps.toList)
    (hgP : mainGlobals ≠ P) (hb : s.heap.BuiltinsAt mg P)
    (new : codeAmong pos ps.toList = none → ∀ (c' : Addr) (ctv : Value) (h' : Heap) (tk : Tok), Heap.ExtBut P s.heap h' → s.heap.objs.size ≤ c' → c' < h'.objs.size → h'.CodeRec (.ref c') qual → h'.get? P = some (PySem.W.tabObj (ps ++ #[rawInt pos.line, rawInt pos.col, .ref c'])) →
      Q (.ref h'.objs.size) { s with heap := h'.push (lob qual params body scope clos dV ((mg "__name__").getD .none) c' ctv), toks := tk })
    (old : ∀ cv, codeAmong pos ps.toList = some cv → ∀ (ctv : Value) (h' : Heap) (tk : Tok), (∀ b o, s.heap.get? b = some o → h'.get? b = some o) → s.heap.objs.size ≤ h'.objs.size →
      Q (.ref h'.objs.size) { s with heap := h'.push { cls := .type "function", data := .func (lfd qual params body scope clos dV ((mg "__name__").getD .none) cv ctv) }, toks := tk }) :
    wpAny M A (makeTail "<lambda>" qual params (.expr body) scope env dV .none none pos ln) Q E s := by
  obtain ⟨bm, ob, hbm, hne0, _, hneP, hbo, hcls, hdict, hdata⟩ := hb
  unfold makeTail
  rw [hcl, hge0]
  refine wpAny_bind (wpAny_pure ?_)
  have mid : ∀ (ctv : Value) (h0 : Heap), (∀ b o, s.heap.get? b = some o → h0.get? b = some o) → s.heap.objs.size ≤ h0.objs.size → h0.Ns mainGlobals mg →
      wpAny M A (functionCode env pos ln "<lambda>" qual params scope (.expr body) >>= fun cd => builtinsFor mainGlobals env.builtins >>= fun bs => nsGet mainGlobals "__name__" >>= fun nm => (pure Value.none : Sem Value) >>= fun dc =>
        newObj (.type "function") (.func { name := "<lambda>", qualname := qual, params := params, body := .expr body, scope := scope, globals := mainGlobals, closure := clos, closureTuple := ctv, code := cd, builtins := bs, defaults := dV, kwdefaults := .none, annotations := none, pyModule := nm.getD .none, doc := dc })) Q E { s with heap := h0 } := fun ctv h0 kp sz hg0 => by
    cases hf : codeAmong pos ps.toList with
    | none =>
      refine wpAny_bind (wpAny_functionCodeX (s := { s with heap := h0 }) hcode ((C.keeps kp).code (kp _ _ hP) ht) ((C.keeps kp).tab (kp _ _ hP)) hf fun c' h' tk hx hge hlt _ hrec htb _ => ?_)
      have hg' := hg0.extBut hx hgP
      have hx' : Heap.ExtBut P s.heap h' := fun b o hb' e => hx b o hb' (kp b o e)
      refine wpAny_bind (wpAny_builtinsFor hg' hbm hne0 (hx' _ _ hneP hbo) hcls hdict hdata ?_)
      refine wpAny_bind (wpAny_nsGet hg' (wpAny_bind (wpAny_pure (wpAny_newObj_type ?_ (by size_fits)))))
      exact new hf c' ctv h' tk hx' (Nat.le_trans sz hge) hlt hrec htb.2
    | some cv =>
      refine wpAny_bind (wpAny_functionCode_hit (s := { s with heap := h0 }) hcode ((C.keeps kp).code (kp _ _ hP) ht) hf ?_)
      refine wpAny_bind (wpAny_builtinsFor hg0 hbm hne0 (kp _ _ hbo) hcls hdict hdata ?_)
      refine wpAny_bind (wpAny_nsGet hg0 (wpAny_bind (wpAny_pure (wpAny_newObj_type ?_ (by size_fits)))))
      exact old cv hf ctv h0 s.toks kp sz
  cases clos with
  | nil =>
    simp only [List.isEmpty_nil, if_true]
    exact wpAny_bind (wpAny_pure (mid .none s.heap (fun _ _ e => e) (Nat.le_refl _) hg))
  | cons q r =>
    simp only [List.isEmpty_cons, Bool.false_eq_true, if_false]
    refine wpAny_bind (wpAny_newTextTuple ?_)
    exact mid _ _ (fun b o e => Heap.get?_push_of_some _ e) (by rw [Heap.size_push]; omega) (hg.push _)
end
/-- where its default lies -/
def DOk (one : Option Str) (dV : Value) (H : Hp) (fr : List Addr) (h : Heap) : Prop := match one with
  | none => dV = .none
  | some _ => ∃ (D : Addr) (u : Value), dV = .ref D ∧ h.get? D = some { cls := .type "tuple", data := .seq #[u] } ∧ H D = none ∧ D ∉ fr
section
variable {M : Model} {A : Around} {E : Value → Shared → Prop} {s : Shared} {qual : Str} {params : Arguments} {body : Expr} {scope : Scope} {cl : List (Str × Addr)} {one : Option Str} {dV pm cdv ct : Value} {H : Hp} {fr : List Addr}
theorem lam_bind {Q : List (Str × Value) → Shared → Prop} (po : ParOk one params) (d : DOk one dV H fr s.heap) (h : ∀ bs, (∀ y ∈ bs, one = some y.1) → Q bs s) : wpAny M A (bindArgs (lfd qual params body scope cl dV pm cdv ct) ⟨[], []⟩) Q E s := by
  cases po with
  | zero =>
    have d : dV = .none := d
    subst d
    have e : bindArgs (lfd qual ⟨[], [], none, [], [], none, []⟩ body scope cl .none pm cdv ct) ⟨[], []⟩ = pure [] := rfl
    rw [e]
    exact wpAny_pure (h [] fun y hy => (by cases hy))
  | one x p1 p2 i j =>
    obtain ⟨D, u, rfl, hD, _⟩ := d
    have key : ∃ k, bindArgs (lfd qual ⟨[], [⟨x, none, p1⟩], none, [], [], none, [.Constant (.int i) j p2]⟩ body scope cl (.ref D) pm cdv ct) ⟨[], []⟩ = seqItems? (.ref D) >>= k ∧ k (some #[u]) = pure [(x, u)] := by
      refine ⟨_, rfl, ?_⟩
      simp [List.lookup]
    obtain ⟨k, e1, e2⟩ := key
    rw [e1]
    refine wpAny_bind ?_
    show wpAny M A (load D >>= fun o => match o.data with | .seq xs _ => pure (some xs) | _ => pure none) _ _ _
    refine wpAny_bind (wpAny_load hD ?_)
    refine wpAny_pure ?_
    rw [e2]
    exact wpAny_pure (h _ fun y hy => by
      rcases List.mem_cons.mp hy with rfl | hy
      · rfl
      · cases hy)
end
/-- all stays, tables grow -/
structure Grow (H H1 : Hp) : Prop where
  keep : ∀ b o, H b = some o → (∀ ps, o ≠ .tbl ps) → H1 b = some o
  tbl : ∀ b ps, H b = some (.tbl ps) → ∃ more, H1 b = some (.tbl (ps ++ more))
theorem Grow.refl (H : Hp) : Grow H H := ⟨fun _ _ e _ => e, fun _ ps e => ⟨#[], by rw [e]; simp⟩⟩
theorem Grow.step {c : Cc} {H H1 : Hp} (g : Grow H H1) : Step c H H1 := ⟨fun b o e _ _ n => g.keep b o e n.t, g.tbl, fun b C dx fs e => ⟨fs, g.keep b _ e nofun⟩⟩
theorem StOk.grow {c : Cc} {d : Dw} {H H1 : Hp} (s : StOk c d H) (gr : Grow H H1) (T1 : LamX.Tabs c.T H1) : StOk c d H1 := by
  have s' := s
  obtain ⟨⟨cells, lefts, kk, r, h1, h2, h3, h4, h5, h6, h7, h8, h9⟩, ob⟩ := s'
  exact ⟨⟨cells, lefts, kk, r, gr.keep _ _ h1 nofun, gr.keep _ _ h2 nofun, gr.keep _ _ h3 nofun, h4, h5, h6, h7, h8, T1⟩, ob.same ob.ok rfl rfl (fun a C dx fl h => gr.keep _ _ h nofun) fun ws vs q => q.step (.of gr.step) s ob.ok⟩
section
variable {X : Cx} {pins : List (Addr × Obj)} {σ : L2.St} {H : Hp} {s : Shared} {T : List (Addr × Str)} {c P : Addr} {params : Arguments} {body : Expr} {scope : Scope} {pos : Pos} {one : Option Str} {E : Value → Shared → Prop} {Q : Value → Shared → Prop}
theorem lam_make1 {dV : Value} {ln : Nat} (I : Inv X pins σ H s) (TB : LamX.TabB X.base X.mg c P) (hcode : X.env.code = .ref c) (hm : (P, X.env.qual ++ "<lambda>") ∈ T) (hu : ∀ p ∈ T, p.1 = P → p.2 = X.env.qual ++ "<lambda>") (hT : LamX.Tabs T H) (hfree : ∀ y ∈ scope.names, y.2 = .free → ∃ c, X.env.cells.lookup y.1 = some c)
    (h : ∀ (f c' : Addr) (pm ctv : Value) (H1 : Hp) (s' : Shared), s.heap.objs.size ≤ f → Inv X pins σ H1 s' → Grow H H1 → LamX.Tabs T H1 → (∀ b o, s.heap.get? b = some o → b ≠ P → s'.heap.get? b = some o) → (∀ b, b < s.heap.objs.size → H b = none → H1 b = none) → s'.heap.get? f = some (lob (X.env.qual ++ "<lambda>") params body scope (cloFrom X.env.cells scope.names []) dV pm c' ctv) → H1 f = none → f ∉ frs X.stack → H1 c' = some (LamX.CodeO c' (X.env.qual ++ "<lambda>")) → Q (.ref f) s') :
    wpAny (model X.prog X.w) X.A (makeTail "<lambda>" (X.env.qual ++ "<lambda>") params (.expr body) scope X.env dV .none none pos ln) Q E s := by
  obtain ⟨ps, hP, ht, ha⟩ := hT _ hm
  have bP : s.heap.BuiltinsAt X.mg P := TB.bm.keeps I.bk
  have hP' : s.heap.get? P = some (PySem.W.tabObj ps) := I.hok P _ hP
  have nofr : ∀ f, s.heap.objs.size ≤ f → f ∉ frs X.stack := fun f hf z => by
    rcases List.mem_cons.mp (I.stkSub _ z) with e | e
    · have h1 := I.lt
      rw [← e] at h1
      exact Nat.lt_irrefl _ (Nat.lt_of_lt_of_le h1 hf)
    · exact I.nofs hf e
  refine lam_tail (mg := X.mg) (c := c) (P := P) (ps := ps) (closure_ok hfree) I.ok.glob (I.mod.glob.keeps I.bk) hcode (TB.code.keeps I.bk) hP' ht TB.gP bP (fun hn c' ctv h' tk hx hge hlt hrec htb => ?_) (fun cv hc ctv h' tk hx hsz => ?_)
  · obtain ⟨c2, oc, vs, t, e2, hoc, hd, hv⟩ := hrec
    cases e2
    have hsz : s.heap.objs.size ≤ h'.objs.size := Nat.le_trans hge (Nat.le_of_lt hlt)
    have nC : H c' = none := I.hok.fresh hge
    have kp : ∀ b o, s.heap.get? b = some o → b ≠ P → (h'.push (lob (X.env.qual ++ "<lambda>") params body scope (cloFrom X.env.cells scope.names []) dV ((X.mg "__name__").getD .none) c' ctv)).get? b = some o := fun b o e hb => Heap.get?_push_of_some _ (hx b o hb e)
    have I1 := LamX.inv_table (t' := tk) (more := #[rawInt pos.line, rawInt pos.col, .ref c']) (q := X.env.qual ++ "<lambda>") (h' := h'.push (lob (X.env.qual ++ "<lambda>") params body scope (cloFrom X.env.cells scope.names []) dV ((X.mg "__name__").getD .none) c' ctv)) I hP
      (fun b o hb e => kp b o e hb) (Heap.get?_push_of_some _ htb) hge ⟨oc, vs, t, Heap.get?_push_of_some _ hoc, hd, hv⟩
    have nPc : P ≠ c' := ne_of_none hP nC
    have oth : ∀ b, b ≠ P → b ≠ c' → upd (upd H P (.tbl (ps ++ #[rawInt pos.line, rawInt pos.col, .ref c']))) c' (LamX.CodeO c' (X.env.qual ++ "<lambda>")) b = H b := fun b h1 h2 => by rw [upd_ne h2, upd_ne h1]
    have gr : Grow H (upd (upd H P (.tbl (ps ++ #[rawInt pos.line, rawInt pos.col, .ref c']))) c' (LamX.CodeO c' (X.env.qual ++ "<lambda>"))) := ⟨fun b o e n => by
        rw [oth b (fun z => n ps (Option.some.inj (e.symm.trans (by rw [z]; exact hP)))) (ne_of_none e nC)]
        exact e, fun b qs e => by
        rcases Decidable.em (b = P) with z | z
        · subst z
          rw [hP] at e
          cases e
          exact ⟨_, by rw [upd_ne nPc, upd_same]⟩
        · exact ⟨#[], by rw [oth b z (ne_of_none e nC), e]; simp⟩⟩
    have eL : (ps ++ #[rawInt pos.line, rawInt pos.col, Value.ref c']).toList = ps.toList ++ [rawInt pos.line, rawInt pos.col, .ref c'] := by simp
    refine h h'.objs.size c' ((X.mg "__name__").getD .none) ctv _ _ hsz I1 gr (fun p hp => ?_) kp (fun b hb n => ?_) (Heap.get?_push_size _ rfl) ?_ (nofr _ hsz) upd_same
    · obtain ⟨pa, pq⟩ := p
      rcases Decidable.em (pa = P) with z | z
      · subst z
        have hq : pq = X.env.qual ++ "<lambda>" := hu _ hp rfl
        subst hq
        refine ⟨_, by rw [upd_ne nPc, upd_same], by rw [eL]; exact PySem.TriplesOk_snoc _ _ _ _ ht, fun p' cv hcv => ?_⟩
        rw [eL] at hcv
        rcases LamX.among_app _ ht hcv with z | z
        · obtain ⟨c0, e1, e2⟩ := ha p' cv z
          exact ⟨c0, e1, gr.keep _ _ e2 LamX.codeO_ne⟩
        · exact ⟨c', z, upd_same⟩
      · obtain ⟨qs, a1, a2, a3⟩ := hT (pa, pq) hp
        refine ⟨qs, by rw [oth pa z (ne_of_none a1 nC)]; exact a1, a2, fun p' cv hcv => ?_⟩
        obtain ⟨c0, e1, e2⟩ := a3 p' cv hcv
        exact ⟨c0, e1, gr.keep _ _ e2 LamX.codeO_ne⟩
    · rw [oth b (fun z => by rw [z, hP] at n; cases n) (Nat.ne_of_lt (Nat.lt_of_lt_of_le hb hge))]
      exact n
    · rw [oth _ (Nat.ne_of_gt (Nat.lt_of_lt_of_le (Heap.lt_size hP') hsz)) (Nat.ne_of_gt hlt)]
      exact I.hok.fresh hsz
  · obtain ⟨c', e, hco⟩ := ha pos cv hc
    subst e
    have kp : ∀ b o, s.heap.get? b = some o → (h'.push (lob (X.env.qual ++ "<lambda>") params body scope (cloFrom X.env.cells scope.names []) dV ((X.mg "__name__").getD .none) c' ctv)).get? b = some o := fun b o e => Heap.get?_push_of_some _ (hx b o e)
    exact h h'.objs.size c' ((X.mg "__name__").getD .none) ctv H _ hsz (I.kept (t' := tk) kp) (.refl H) hT (fun b o e _ => kp b o e) (fun b _ n => n) (Heap.get?_push_size _ rfl) (I.hok.fresh hsz) (nofr _ hsz) hco
theorem lam_make (I : Inv X pins σ H s) (TB : LamX.TabB X.base X.mg c P) (hcode : X.env.code = .ref c) (hm : (P, X.env.qual ++ "<lambda>") ∈ T) (hu : ∀ p ∈ T, p.1 = P → p.2 = X.env.qual ++ "<lambda>") (hT : LamX.Tabs T H) (po : ParOk one params) (hfree : ∀ y ∈ scope.names, y.2 = .free → ∃ c, X.env.cells.lookup y.1 = some c)
    (h : ∀ (f c' : Addr) (dV pm ctv : Value) (H1 : Hp) (s' : Shared), s.heap.objs.size ≤ f → (∀ D, dV = .ref D → s.heap.objs.size ≤ D ∧ D ≠ f) → Inv X pins σ H1 s' → Grow H H1 → LamX.Tabs T H1 → DOk one dV H1 (frs X.stack) s'.heap → s'.heap.get? f = some (lob (X.env.qual ++ "<lambda>") params body scope (cloFrom X.env.cells scope.names []) dV pm c' ctv) → H1 f = none → f ∉ frs X.stack → H1 c' = some (LamX.CodeO c' (X.env.qual ++ "<lambda>")) → Q (.ref f) s') :
    wpAny (model X.prog X.w) X.A (eval (.Lambda params body scope pos) X.env) Q E s := by
  cases po with
  | zero =>
    refine PySem.W.kla_eval rfl ?_
    rw [makeFunction_eq]
    simp only [List.zip_nil_right, List.filterMap_nil, List.isEmpty_nil, if_true, pure_bind]
    exact lam_make1 I TB hcode hm hu hT hfree fun f c' pm ctv H1 s' sz I1 g t _ _ hf n1 n2 hc => h f c' .none pm ctv H1 s' sz (fun D e => by cases e) I1 g t rfl hf n1 n2 hc
  | one x p1 p2 i j =>
    rw [arm_eval_Lambda]
    show wpAny _ _ (evalAll [eval (.Constant (.int i) j p2) X.env] >>= fun dv => holding dv (evalAllOpt []) >>= fun kdv => makeFunction "<lambda>" (X.env.qual ++ "<lambda>") _ (.expr body) scope X.env dv kdv [] pos pos.line) _ _ _
    refine wpAny_bind (wpAny_bind (wpAny_Constant_int (wpAny_bind (wpAny_holding (wpAny_pure (wpAny_pure (wpAny_bind (wpAny_holding (wpAny_pure ?_)))))))))
    rw [makeFunction_eq]
    simp only [List.zip_nil_right, List.filterMap_nil, List.isEmpty_nil, List.isEmpty_cons, Bool.false_eq_true, if_false, if_true, pure_bind]
    refine wpAny_bind (wpAny_newTextTuple ?_)
    have I0 := I.kept (t' := s.toks + 1) (h' := s.heap.push { cls := .type "tuple", data := .seq #[Value.int i s.toks] }) fun b o e => Heap.get?_push_of_some _ e
    have hD : (s.heap.push { cls := .type "tuple", data := .seq #[Value.int i s.toks] }).get? s.heap.objs.size = some { cls := .type "tuple", data := .seq #[Value.int i s.toks] } := Heap.get?_push_size _ rfl
    have nD : H s.heap.objs.size = none := I.hok.fresh (Nat.le_refl _)
    have fD : s.heap.objs.size ∉ frs X.stack := fun z => by
      rcases List.mem_cons.mp (I.stkSub _ z) with e | e
      · have h1 := I.lt
        rw [← e] at h1
        exact Nat.lt_irrefl _ h1
      · exact I.nofs (Nat.le_refl _) e
    refine lam_make1 (dV := .ref s.heap.objs.size) I0 TB hcode hm hu hT hfree fun f c' pm ctv H1 s' sz I1 g t kp kn hf n1 n2 hc => h f c' _ pm ctv H1 s' (Nat.le_trans (Nat.le_succ _) (by rw [Heap.size_push] at sz; exact sz)) (fun D e => by cases e; rw [Heap.size_push] at sz; exact ⟨Nat.le_refl _, Nat.ne_of_lt sz⟩) I1 g t ⟨_, _, rfl, kp _ _ hD (fun z => ?_), kn _ (Heap.lt_size hD) nD, fD⟩ hf n1 n2 hc
    obtain ⟨ps, hP, _⟩ := hT _ hm
    rw [← z, nD] at hP
    cases hP
end
structure LmS (N : List Str) (sc scope : Scope) (one : Option Str) : Prop where
  kind : scope.kind = .function
  co : scope.isCoroutine = false
  gen : scope.isGenerator = false
  own : ∀ y ∈ scope.names, y.2 ≠ .cell ∧ (y.2 = .local → y.1 ∉ N)
  free : ∀ y ∈ scope.names, y.2 = .free → sc.names.lookup y.1 = some .cell ∨ sc.names.lookup y.1 = some .free
  par : ∀ x, one = some x → scope.names.lookup x = some .local
def lmB (N : List Str) (sc scope : Scope) (one : Option Str) : Bool := decide (scope.kind = .function) && (!scope.isCoroutine && (!scope.isGenerator && ((scope.names.all fun y => !decide (y.2 = .cell) && ((!decide (y.2 = .local) || !N.contains y.1) && (!decide (y.2 = .free) || (decide (sc.names.lookup y.1 = some .cell) || decide (sc.names.lookup y.1 = some .free))))) &&
  (match one with
  | none => true
  | some x => decide (scope.names.lookup x = some .local)))))
theorem lmS_by {N : List Str} {sc scope : Scope} {one : Option Str} (h : lmB N sc scope one = true) : LmS N sc scope one := by
  unfold lmB at h
  simp only [Bool.and_eq_true, Bool.or_eq_true, Bool.not_eq_true', decide_eq_true_eq, decide_eq_false_iff_not, List.all_eq_true] at h
  obtain ⟨h1, h2, h3, h4, h5⟩ := h
  refine ⟨h1, h2, h3, fun y hy => ⟨(h4 y hy).1, fun e z => ?_⟩, fun y hy e => ?_, fun x hx => ?_⟩
  · rcases (h4 y hy).2.1 with q | q
    · exact q e
    · rw [List.contains_iff_mem.mpr z] at q
      cases q
  · rcases (h4 y hy).2.2 with q | q
    · exact absurd e q
    · exact q
  · subst hx
    exact of_decide_eq_true h5
section
variable {X : Cx} {pins : List (Addr × Obj)} {σ : L2.St} {H HZ : Hp} {s s1 : Shared} {scope : Scope} {one : Option Str}
theorem LmS.has (L : LmS X.N X.env.scope scope one) (ok : X.Ok) : ∀ y ∈ scope.names, y.2 = .free → ∃ c, X.env.cells.lookup y.1 = some c := fun y hy e => by
  rcases L.free y hy e with k | k
  · exact ok.has _ (.inl k)
  · exact ok.has _ (.inr k)
theorem lm_start {A : Around} {outer : List PySem.Env} {E : XK} {f c' : Addr} {h1 : Heap} {tk : Nat} {bs : List (Str × Value)} (I : Inv X pins σ H s) (L : LmS X.N X.env.scope scope one) (e0 : Env0 X.prog X.w X.K X.mg X.base A outer s1 HZ) (hd : A.handled = none)
    (un : Un (frs X.stack) [] H HZ s.heap s1.heap) (hns : h1.Ns s1.heap.objs.size fun y => bs.reverse.lookup y) (kp : ∀ b o, s1.heap.get? b = some o → h1.get? b = some o) :
    Inv (LamX.lamCx X A outer s1 HZ E scope f c') [] σ HZ { s1 with heap := h1, toks := tk } := by
  have hfree := L.has I.ok
  have back : ∀ {y c}, (cloFrom X.env.cells scope.names []).lookup y = some c → X.env.cells.lookup y = some c := fun {y c} e => by
    rcases cloFrom_mem (PySem.mem_of_lookup e) with hm | ⟨g1, g2⟩
    · cases hm
    · obtain ⟨d, hd⟩ := hfree _ g1 rfl
      have hd : X.env.cells.lookup y = some d := hd
      rw [g2, hd]
      rfl
  have forth : ∀ {y}, scope.names.lookup y = some .free → ∃ c, (cloFrom X.env.cells scope.names []).lookup y = some c := fun {y} hl =>
    mem_lookup (cloFrom_has (cells := X.env.cells) (acc := []) (PySem.mem_of_lookup hl))
  have cellK : ∀ {c : Addr} {v : Option Value}, H c = none → s.heap.IsCell c v → h1.IsCell c v := fun {c v} n z => by
    obtain ⟨o, ho, hdt⟩ := z
    obtain ⟨sl, q⟩ := un.any ho n (by simp)
    exact ⟨_, kp _ _ q, hdt⟩
  have noA : ∀ b : Addr, b ∉ (LamX.lamCx X A outer s1 HZ E scope f c').ex := fun b z => by
    have z : b ∈ ([] : List Addr) := z
    cases z
  refine ⟨⟨e0.mod, L.kind, rfl, rfl, Nat.le_refl _, fun y z c e1 e2 => I.ok.inj y z c (back e1) (back e2), fun y hy => ?_, fun y c z _ => ?_, fun _ => hd, Around.frames_deeper e0.frames, .inr ⟨rfl, rfl⟩, fun b z => absurd z (noA b), e0.bs, e0.bsz, fun b _ _ => noA b, fun b z => absurd z (noA b), e0.funs, e0.frf⟩,
    rfl, e0.bare, Un.kept kp, ⟨_, hns, fun i y v e1 e2 e3 => ?_⟩, fun y c e => ?_, e0.hok.fresh (Nat.le_refl _), fun y c e => ?_, fun q hq => absurd (show q ∈ ([] : List (Addr × Obj)) ++ [] from hq) (by simp), e0.hok.kept kp, I.len⟩
  · have hy : scope.names.lookup y = some .cell ∨ scope.names.lookup y = some .free := hy
    rcases hy with hy | hy
    · exact absurd rfl (L.own _ (PySem.mem_of_lookup hy)).1
    · exact forth hy
  · have z : false = true := z
    cases z
  · have e1 : X.N[i]? = some y := e1
    have e3 : Vis scope y := e3
    rcases e3 with k | k | k
    · exact absurd (List.mem_of_getElem? e1) ((L.own _ (PySem.mem_of_lookup k)).2 rfl)
    · exact absurd rfl (L.own _ (PySem.mem_of_lookup k)).1
    · obtain ⟨m, hn, hl⟩ := I.loc
      have fr := L.free _ (PySem.mem_of_lookup k) rfl
      obtain ⟨w', r, q⟩ := hl i y v e1 e2 (fr.elim (fun k => .inr (.inl k)) fun k => .inr (.inr k))
      obtain ⟨c2, h2⟩ := forth k
      refine ⟨w', r, .inr ⟨.inr k, c2, h2, ?_⟩⟩
      rcases q with ⟨k', _⟩ | ⟨_, c3, e', z⟩
      · have k' : X.env.scope.names.lookup y = some .local := k'
        rcases fr with k2 | k2 <;> rw [show X.env.scope.names.lookup y = _ from k2] at k' <;> cases k'
      · rw [back h2] at e'
        cases e'
        exact cellK (I.freeC y _ (back h2)) z
  · obtain ⟨w', z⟩ := I.cell y c (back e)
    exact ⟨w', cellK (I.freeC y c (back e)) z⟩
  · obtain ⟨v, o, ho, hdt⟩ := I.cell y c (back e)
    exact un.free c o ho (I.freeC y c (back e)) (by simp)
theorem DOk.later {dV : Value} (d : DOk one dV H (frs X.stack) s.heap) (un : Un (frs X.stack) [] H HZ s.heap s1.heap) : DOk one dV H (frs X.stack) s1.heap := by
  cases one with
  | none => exact d
  | some x =>
    obtain ⟨D, u, e, hD, n, nf⟩ := d
    exact ⟨D, u, e, un.keep D _ hD n nf (by simp), n, nf⟩
/-- the lambda is called, in the def that got it -/
theorem lm_act {CXg : CXT} {Eg : XK} {Ng : List Str} {qg : Str} {sg : Scope} {g f c' : Addr} {cdg dV pm ctv : Value} {params : Arguments} {body : Expr} {k i : Nat} {a : Str} {pn : List (Addr × Obj)} {xe : Value → Shared → Prop} {W : WX} {E : XK} {tb : TE} {p1 p2 : Pos}
    (I : Inv X pins σ H s) (L : LmS X.N X.env.scope scope one) (po : ParOk one params) (hD : DOk one dV H (frs X.stack) s.heap) (hf : s.heap.get? f = some (lob (X.env.qual ++ "<lambda>") params body scope (cloFrom X.env.cells scope.names []) dV pm c' ctv)) (hfn : H f = none) (hfr : f ∉ frs X.stack)
    (tk : Takes ((cxOf CXg X.prog X.w X.K X.mg X.base Ng qg sg g cdg X.A X.stack s H Eg).tr pn xe) W) (hgd : X.A.guards = some []) (hr : Room (k + 1) (X.A.deeper (envOfC qg sg s.heap.objs.size g cdg)))
    (hbody : ∀ (A : Around) (outer : List PySem.Env) (s : Shared) (H : Hp), A.guards = some [] → Room k (A.deeper (LamX.lamEnv X scope s.heap.objs.size f c')) → PE (LamX.lamCx X A outer s H E scope f c') body tb)
    (hN : Ng[i]? = some a) (hv : Vis sg a) (hd : (a == ("__debug__" : Str)) = false) (hcd : (a == ("__classdict__" : Str)) = false) :
    PE ((cxOf CXg X.prog X.w X.K X.mg X.base Ng qg sg g cdg X.A X.stack s H Eg).tr pn xe) (.Call (.Name a p1) [] [] p2) (fun σZ HZ Q => (∀ cls d H', E cls d H' → W cls d σZ H') ∧ σZ[i]? = some (some (.ref f)) ∧ HZ c' = some (LamX.CodeO c' (X.env.qual ++ "<lambda>")) ∧ tb σ HZ Q) := by
  constructor
  intro pinsZ sZ σZ HZ Q IZ h
  obtain ⟨hW, hs, hc, ht⟩ := h
  refine wpAny_Call_Name_kw (thn ((pe_var (pos := p1) (i := i) hN hv hd hcd).run pinsZ sZ σZ HZ (fun v H1 => v = .ref f ∧ H1 = HZ) IZ ⟨.ref f, hs, rfl, rfl⟩) fun u s1 z => ?_)
  obtain ⟨v, H1, I1, r1, ev, eH⟩ := z
  subst ev
  rw [eH] at I1
  obtain rfl : u = Value.ref f := r1
  have un : Un (frs X.stack) [] H HZ s.heap s1.heap := I1.base
  have of1 := un.keep f _ hf hfn hfr (by simp)
  have d1 : DOk one dV H (frs X.stack) s1.heap := hD.later un
  refine PySem.W.callWith_F0 ⟨_, _, _, _, of1⟩ ?_
  obtain ⟨⟨oc, vs, t, hoc, hdc, hvc⟩, _, _⟩ := I1.hok c' _ hc
  have rc : codeAny (model X.prog X.w) (X.A.deeper (envOfC qg sg s.heap.objs.size g cdg)) (.call (.ref f) ⟨[], []⟩) (CR (L2.CX X.prog X.w) (envOfC qg sg s.heap.objs.size g cdg :: X.stack) X.prog X.w HZ s1 Q E) s1 := by
    refine PySem.W.kla_callFunE hr.depth of1 rfl L.co L.gen rfl ⟨c', oc, vs, t, rfl, hoc, hdc, hvc⟩ (lam_bind po d1 fun bs hbs => ?_)
    refine wpAny_newFunctionEnv (fun y hy => (L.own y hy).1) (fun y hy => L.par y.1 (hbs y hy)) (fun h1 hns hsb => ⟨I1.nolimit.fresh _ hsb, ?_⟩) L.kind
    show codeAny _ _ (.expr body (LamX.lamEnv X scope s1.heap.objs.size f c')) _ _
    have kp : ∀ b o, s1.heap.get? b = some o → h1.get? b = some o := fun b o e => hsb.extBut b o (Nat.ne_of_lt (Heap.lt_size e)) (Heap.get?_push_of_some _ e)
    have J := lm_start (tk := s1.toks + bs.length) (f := f) (c' := c') (E := E) I L I1.env0 hr.hd un hns kp
    refine PySem.W.kla_codeExpr (wpAny_mono ((hbody (X.A.deeper (envOfC qg sg s.heap.objs.size g cdg)) _ s1 HZ hgd (hr.deeper _)).run [] _ _ HZ Q J ht) (fun v s' hq => ?_) fun e s' hq => hq)
    obtain ⟨w', H', J', rv, q⟩ := hq
    exact ⟨w', H', J'.os, J'.bare, J'.base, J'.hok, rv, q⟩
  refine wpAny_call (codeAny_mono rc fun r s' hq => ?_)
  match r, hq with
  | .error e, hq => exact tk _ _ (XE.of_call I1 hW hq)
  | .ok (.ret u), hq => exact I1.after hq
  | .ok .next, hq => exact False.elim hq
  | .ok .brk, hq => exact False.elim hq
  | .ok .cont, hq => exact False.elim hq
end
end PF
namespace PF
open PySem PySem.Spec PyProof.Rows L2
def hdlR : List Hd → Nat → List W → T W
  | [], _, _ => .bad
  | x :: r, n, fs => if x.m n then x.h n fs else hdlR r n fs
def caught (wr : W → T W) (ns : List Nat) (hs : List Hd) (t : T W) : T W := t.catch wr fun n fs => if ns.contains n then hdlR hs n fs else .bad
def fHear (wr : W → T W) (ns : List Nat) (hs : List Hd) (fb : En → T W) : En → T W := fun ρ => caught wr ns hs (fb ρ)
/-- [w] -/
def wrL (w : W) : T W := mkLst [w]
section
variable {X : Cx} {ns : List Nat} {c : Cc} {d : Dw} {H : Hp} {D : Ends} {n : Nat} {fs : List W} {cls : Value} {dx : Option Addr} {σ : L2.St} {Wo : WX} {E' : Dw → Nat → List W → Prop}
theorem wCl_ret (wd : Wd c d H) (rx : RepX X.K c H n fs cls dx) (hn : n ∈ ns) : ∀ {hds : List ExceptHandler} {hs : List Hd} {l : List Cla}, TrC X .ret ns hds hs l → (∀ x ∈ hs, ∀ i, x.io = some i → i < σ.length) → (hdlR hs n fs).AllW (PQ X.K c H D.rt) E' d → wCl X.K Wo D l cls dx σ H
  | _, _, _, .nil, _, q => q.elim
  | _, _, _, .cons (m := m) (io := io) (h := h) hc hi hio hm hms hsu r, hlt, q => by
    refine ⟨m n, by rw [rx.1]; exact hm n hn, fun hb a na => ?_, fun hb => ?_⟩
    · have q1 : (h n fs).AllW (PQ X.K c H D.rt) E' d := by
        have q2 : (if m n then h n fs else _ : T W).AllW (PQ X.K c H D.rt) E' d := q
        rw [if_pos hb] at q2
        exact q2
      clear q
      refine ⟨c, d, n, fs, hms n hn hb, wd, fun i hio' => ?_, rx, E', ?_⟩
      · subst hio'
        show (σ.set i (some (.ref a)))[i]? = _
        rw [List.getElem?_set_self (hlt _ (List.mem_cons_self ..) i rfl)]
      · cases io with
        | none => exact q1
        | some i => exact q1
    · have q : (if m n then h n fs else hdlR _ n fs : T W).AllW (PQ X.K c H D.rt) E' d := q
      rw [if_neg (by rw [hb]; decide)] at q
      exact wCl_ret wd rx hn r (fun x hx => hlt x (List.mem_cons_of_mem _ hx)) q
end
/-- the context of the def that hears -/
abbrev heCx (P : Program) (w : World) (K : PySem.W.Frag) (mg : Str → Option Value) (base : Heap) (Ng : List Str) (x : Str) (sg : Scope) (g : Addr) (cdg : Value) (A : Around) (stack : List PySem.Env) (s : Shared) (H : Hp) : Cx := cxOf C8.CX0 P w K mg base Ng x sg g cdg A stack s H C8.E0
/-- the def at g: its body bg calls what it got, by the name a -/
def Hears (P : Program) (w : World) (K : PySem.W.Frag) (mg : Str → Option Value) (base : Heap) (Ng : List Str) (x : Str) (sg : Scope) (g : Addr) (cdg : Value) (bg : List Stmt) (a : Str) (wr : W → T W) (ns : List Nat) (hs : List Hd) : Prop :=
  ∀ (q : Str) (A : Around) (stack : List PySem.Env) (f c' : Addr) (s : Shared) (H : Hp) (Q : VK) (c : Cc) (d : Dw) (t : T W) (tl : XK → Hp → VK → Prop) (E' : Dw → Nat → List W → Prop),
    (∀ (Ech : XK) (Q' : VK), t.AllW (PQ K c H Q') (PX K c H Ech) d → tl Ech H Q') →
    (∀ (W : WX) (pn : List (Addr × Obj)) (xe : Value → Shared → Prop) (E : XK) (p1 p2 : Pos), Takes ((heCx P w K mg base Ng x sg g cdg A stack s H).tr pn xe) W →
      PE ((heCx P w K mg base Ng x sg g cdg A stack s H).tr pn xe) (.Call (.Name a p1) [] [] p2) (fun σZ HZ Q => (∀ cls d H', E cls d H' → W cls d σZ H') ∧ σZ[0]? = some (some (.ref f)) ∧ HZ c' = some (LamX.CodeO c' q) ∧ tl E HZ Q)) →
    H c' = some (LamX.CodeO c' q) → Wd c d H → (caught wr ns hs t).AllW (PQ K c H Q) E' d →
    ∃ rd, PSs (heCx P w K mg base Ng x sg g cdg A stack s H).nox bg rd ∧ rd { nx := fun _ H' => Q .non H', rt := Q } (L2.start Ng [.ref f]) H
section
variable {P : Program} {w : World} {K : PySem.W.Frag} {mg : Str → Option Value} {base : Heap} {Ng : List Str} {x a : Str} {sg : Scope} {g : Addr} {cdg : Value} {ns : List Nat} {hs : List Hd} {h0 : ExceptHandler} {hds : List ExceptHandler}
/-- try: return [a()] / except ..: return .. -/
theorem hears_L {p1 p2 p3 p4 p5 : Pos} (hN : Ng.Nodup) (h0' : ∀ f : Addr, (L2.start Ng [V.ref f])[0]? = some (some (V.ref f))) (hl : ∀ x ∈ hs, ∀ i, x.io = some i → i < Ng.length) (hlen : ∀ f : Addr, (L2.start Ng [V.ref f]).length = Ng.length)
    (hst : ∀ env : PySem.Env, starEach [Expr.Call (.Name a p1) [] [] p2] env = [(false, eval (.Call (.Name a p1) [] [] p2) env)])
    (hC : ∀ (A : Around) (stack : List PySem.Env) (s : Shared) (H : Hp), ∃ l, TrC (heCx P w K mg base Ng x sg g cdg A stack s H).nox .ret ns (h0 :: hds) hs l) :
    Hears P w K mg base Ng x sg g cdg [.Try [.Return (some (.List [.Call (.Name a p1) [] [] p2] p3)) p4] (h0 :: hds) [] [] p5] a wrL ns hs := by
  intro q A stack f c' s H Q c d t tl E' htl act hco wd ht
  obtain ⟨l, hC⟩ := hC A stack s H
  refine ⟨_, pss_one (ps_tryM (X := (heCx P w K mg base Ng x sg g cdg A stack s H).nox) (Wo := fun _ _ _ _ => False) rfl rfl hN LamX.takes0
    (tb := fun W => tRet (tLst (tCons (fun σZ HZ Q' => ∃ Ech : XK, (∀ cls d H', Ech cls d H' → W cls d σZ H') ∧ σZ[0]? = some (some (.ref f)) ∧ HZ c' = some (LamX.CodeO c' q) ∧ tl Ech HZ Q') tNil)))
    (fun W pn xe tk _ => pss_one (ps_ret (pe_lst (pa_cons ⟨fun pins s' σZ HZ Q' I h => ?_⟩ pa_nil (hst _))))) hC.ok), ?_⟩
  · obtain ⟨Ech, h1, h2, h3, h4⟩ := h
    exact (act W pn xe Ech p1 p2 tk).run pins s' σZ HZ Q' I ⟨h1, h2, h3, h4⟩
  · refine ⟨fun cls dx H' => wCl K (fun _ _ _ _ => False) { nx := fun _ H' => Q .non H', rt := Q } l cls dx (L2.start Ng [.ref f]) H', fun _ _ _ z => z, h0' f, hco, htl _ _ (T.AllW.imp (fun d1 w1 y => ?_) (fun d1 n fs y => ?_) (T.allW_catch.mp ht))⟩
    · intro _ v H1 st so rv
      obtain ⟨hz, y⟩ := T.AllW.ite y
      exact ⟨by rw [sizeLine_eq]; show 1 ≤ 16777216; decide, fun p n => PQ.lst (wd.step st so) (y.later st) (.cons rv .nil) n⟩
    · intro _ cls dx H1 st so rx
      obtain ⟨hn, y⟩ := T.AllW.ite y
      exact wCl_ret (X := (heCx P w K mg base Ng x sg g cdg A stack s H).nox) (wd.step st so) rx (List.contains_iff_mem.mp hn) hC (fun x hx i hi => by rw [hlen]; exact hl x hx i hi) (T.AllW.imp (fun _ _ z => z.later st) (fun _ _ _ z => z) y)
end
/-- the module's name x: a def that hears -/
def HearIs (P : Program) (w : World) (K : PySem.W.Frag) (mg : Str → Option Value) (base : Heap) (x a : Str) (wr : W → T W) (ns : List Nat) (hs : List Hd) : Prop :=
  ∃ (g : Addr) (fd : FuncData) (params : Arguments) (bg : List Stmt) (sg : Scope) (Ng : List Str), FunD K x x params bg sg [] [] g fd ∧ mg x = some (.ref g) ∧ Binds K fd [a] [] ∧ FnScope Ng [a] sg ∧ Ng[0]? = some a ∧ Vis sg a ∧ (a == ("__debug__" : Str)) = false ∧ (a == ("__classdict__" : Str)) = false ∧
    ∀ cdg : Value, Hears P w K mg base Ng x sg g cdg bg a wr ns hs
/-- what is known of the code of a def that makes lambdas -/
def MkT (K : PySem.W.Frag) (mg : Str → Option Value) (base : Heap) (code : Value) (q : Str) : Prop := ∃ c P, code = .ref c ∧ LamX.TabB base mg c P ∧ (P, q) ∈ tabL K ∧ ∀ p ∈ tabL K, p.1 = P → p.2 = q
theorem tr_hear {X : Cx} {E : WX} {x a : Str} {wr : W → T W} {ns : List Nat} {hs : List Hd} {params : Arguments} {body : Expr} {scope : Scope} {one : Option Str} {fb : En → T W} {k : Nat} {p lpos pos : Pos}
    (hh : HearIs X.prog X.w X.K X.mg X.base x a wr ns hs) (mk : MkT X.K X.mg X.base X.env.code (X.env.qual ++ "<lambda>")) (hgd : X.A.guards = some []) (hr : Room (k + 2) X.A) (hg : Gl X x) (L : LmS X.N X.env.scope scope one) (po : ParOk one params)
    (hbody : ∀ (A : Around) (outer : List PySem.Env) (s : Shared) (H : Hp) (E : XK) (f c' : Addr), A.guards = some [] → Room k (A.deeper (LamX.lamEnv X scope s.heap.objs.size f c')) → TrE Γ (LamX.lamCx X A outer s H E scope f c') (wOf E) body fb)
    (hdb : (x == ("__debug__" : Str)) = false := by decide) (hst : starEach [Expr.Lambda params body scope lpos] X.env = [(false, eval (.Lambda params body scope lpos) X.env)] := by rfl) :
    TrE Γ X E (.Call (.Name x p) [.Lambda params body scope lpos] [] pos) (fHear wr ns hs fb) := by
  obtain ⟨g, fd, pg, bg, sg, Ng, F, hm, hb, Sg, hNg, hva, hd1, hd2, hears⟩ := hh
  obtain ⟨cc, PP, hcode, TB, hmT, hu⟩ := mk
  have hk := F.kp
  obtain ⟨oc, od, dV, kV, dc, pm, an, cdv, ct, osl, rfl, lk, hcg, _, _⟩ := F.ex
  constructor
  intro pins s σ H Q I h
  obtain ⟨c, d, oa, ρ, e, h⟩ := h
  have hT : LamX.Tabs (tabL X.K) H := by rw [← e.tT]; exact e.st.tab
  refine wpAny_Call_Name_kw (ld_glob I hg hm (PySem.W.callWith_K (h₀ := X.base) I.ok.mod.kin hk ?_ hst (by rfl)) hdb)
  show wpAny _ _ (spliced ((false, eval (.Lambda params body scope lpos) X.env) :: backTo pos (starEach [] X.env))) _ _ s
  refine Calls.spliced_cons (lam_make I TB hcode hmT hu hT po (L.has I.ok) fun f c' dV' pm' ctv H1 s' _ _ I1 gr T1 hD hf hfn hfr hco => ?_)
  refine Calls.spliced_nil ⟨I1.kIn, ?_⟩
  have st1 : SG c c H H1 := .of gr.step
  have so1 : StOk c d H1 := e.st.grow gr (by rw [e.tT]; exact T1)
  have e1 := e.step st1 so1
  have h1 : (caught wr ns hs (fb ρ)).AllW (PQ X.K c H1 Q) (PX X.K c H1 fun cls dx H' => E cls dx σ H') d := T.AllW.imp (fun _ _ y => y.later st1) (fun _ _ _ y => y.later st1) h
  have rc : codeAny (model X.prog X.w) X.A (.call (.ref g) ⟨[.ref f], []⟩) (CR C8.CX0 X.stack X.prog X.w H1 s' Q C8.E0) s' := by
    refine LamX.run_ofS (N := Ng) (ps := [a]) (us := [.ref f]) (vs := [.ref f]) lk hcg Sg hr I1.env0 (hb s' [.ref f] I1.kIn rfl) (.cons rfl .nil) rfl fun hr' => ?_
    obtain ⟨rd, hrd, hq⟩ := hears cdv (X.env.qual ++ "<lambda>") X.A X.stack f c' s' H1 Q c d (fb ρ) (fun E' H' Q' => liftE X.K Γ (wOf E') fb σ H' Q') _ (fun Ech Q' z => ⟨_, d, oa, ρ, e1, z⟩)
      (fun W pn xe E' p1 p2 tk => lm_act (i := 0) (k := k) I1 L po hD hf hfn hfr tk hgd hr' (fun A outer s2 H2 hg2 hr2 => hbody A outer s2 H2 E' f c' hg2 hr2) hNg hva hd1 hd2) hco e1.wd h1
    exact ⟨rd, hrd.nox, hq⟩
  refine wpAny_call (codeAny_mono rc fun r s2 hq => ?_)
  match r, hq with
  | .error er, hq => exact (show False from hq).elim
  | .ok (.ret u), hq => exact I1.after hq
  | .ok .next, hq => exact False.elim hq
  | .ok .brk, hq => exact False.elim hq
  | .ok .cont, hq => exact False.elim hq
end PF
namespace PF
open PySem PySem.Spec PyProof.Rows L2 He
/-- code objects, their tables, the names of their lambdas -/
def tabC (K : PySem.W.Frag) : List (Addr × Addr × Str) := K.filterMap fun x => match x.2.data with
  | .func fd => (match fd.code with
    | .ref c => some (c, He.tabOf K c, fd.qualname ++ ".<locals>." ++ "<lambda>")
    | _ => none)
  | _ => none
theorem tabC_map (K : PySem.W.Frag) : tabL K = (tabC K).map fun x => x.2 := by
  unfold tabL tabC
  rw [List.map_filterMap]
  congr 1
  funext x
  cases x.2.data with
  | func fd =>
    simp only
    cases fd.code <;> rfl
  | _ => rfl
def apartB : List (Addr × Str) → Bool
  | [] => true
  | p :: r => r.all (fun q => p.1 != q.1 || decide (p.2 = q.2)) && apartB r
theorem apartB_ok : ∀ {l : List (Addr × Str)}, apartB l = true → ∀ p ∈ l, ∀ q ∈ l, q.1 = p.1 → q.2 = p.2
  | [], _, p, hp, _, _, _ => by cases hp
  | x :: r, h, p, hp, q, hq, e => by
    unfold apartB at h
    obtain ⟨h1, h2⟩ := Bool.and_eq_true_iff.mp h
    have key : ∀ y ∈ r, x.1 = y.1 → x.2 = y.2 := fun y hy z => by
      have := List.all_eq_true.mp h1 y hy
      rcases Bool.or_eq_true_iff.mp this with g | g
      · simp [z] at g
      · exact of_decide_eq_true g
    rcases List.mem_cons.mp hp with hp1 | hp1
    · rcases List.mem_cons.mp hq with hq1 | hq1
      · rw [hp1, hq1]
      · subst hp1
        exact (key q hq1 e.symm).symm
    · rcases List.mem_cons.mp hq with hq1 | hq1
      · subst hq1
        exact key p hp1 e
      · exact apartB_ok h2 p hp1 q hq1 e
def tabOkB (g : Addr → Option Obj) (K : PySem.W.Frag) : Bool := ((tabC K).all fun x => PySem.W.codeHdIn K x.1 x.2.1 && (match g x.2.1 with
  | some o => emptyTab o
  | none => false)) && apartB (tabL K)
structure SaysL (fa : List Fa) (fn : List DefD) (ex : PySem.W.Frag → Bool) (h : Heap) (K : PySem.W.Frag) : Prop where
  d : SaysD fa fn K
  more : ex K = true
  hd : ∀ x ∈ tabC K, PySem.W.codeHdIn K x.1 x.2.1 = true
  out : ∀ x ∈ tabC K, K.lookup x.2.1 = none
  empty : ∀ x ∈ tabC K, h.get? x.2.1 = some { cls := .none, data := .fields #[] }
  apart : ∀ p ∈ tabL K, ∀ q ∈ tabL K, q.1 = p.1 → q.2 = p.2
def asL (g : Addr → Option Obj) (n : Nat) : List Addr := sysModules :: cStatics :: asD g n
abbrev AlL : Type := AlD × Bool
def obsL (n : Nat) (fa : List Fa) (fn : List DefD) (ex : PySem.W.Frag → Bool) (g : Addr → Option Obj) : AlL := (obsD fa fn (frT g (asL g n)), ex (frT g (asL g n)) && tabOkB g (frT g (asL g n)))
theorem saysL_of {n : Nat} {fa : List Fa} {fn : List DefD} {ex : PySem.W.Frag → Bool} {h : Heap} (e : obsL n fa fn ex h.get? = (valD fn, true)) : SaysL fa fn ex h (frT h.get? (asL h.get? n)) := by
  have e1 : obsD fa fn (frT h.get? (asL h.get? n)) = valD fn := congrArg (fun z : AlL => z.1) e
  have e2 : (ex (frT h.get? (asL h.get? n)) && tabOkB h.get? (frT h.get? (asL h.get? n))) = true := congrArg (fun z : AlL => z.2) e
  obtain ⟨h1, h2⟩ := Bool.and_eq_true_iff.mp e2
  unfold tabOkB at h2
  obtain ⟨h3, h4⟩ := Bool.and_eq_true_iff.mp h2
  have key : ∀ x ∈ tabC (frT h.get? (asL h.get? n)), PySem.W.codeHdIn (frT h.get? (asL h.get? n)) x.1 x.2.1 = true ∧ ∃ o, h.get? x.2.1 = some o ∧ emptyTab o = true := fun x hx => by
    obtain ⟨g1, g2⟩ := Bool.and_eq_true_iff.mp (List.all_eq_true.mp h3 x hx)
    refine ⟨g1, ?_⟩
    cases q : h.get? x.2.1 with
    | none =>
      rw [q] at g2
      cases g2
    | some o =>
      rw [q] at g2
      exact ⟨o, rfl, g2⟩
  refine ⟨e1, h1, fun x hx => (key x hx).1, fun x hx => ?_, fun x hx => ?_, apartB_ok h4⟩
  · obtain ⟨_, o, q, z⟩ := key x hx
    exact frT_none q z
  · obtain ⟨_, o, q, z⟩ := key x hx
    rw [q, emptyTab_eq z]
def hookL (n : Nat) (fa : List Fa) (fn : List DefD) (ex : PySem.W.Frag → Bool) : PySem.W.Hook where
  α := AlL
  obs := fun s => obsL n fa fn ex s.heap.get?
  val := fun _ => (valD fn, true)
  says := fun _ h => ∃ K : PySem.W.Frag, K.In h ∧ SaysL fa fn ex h K
  of := fun _ _ e => ⟨_, frT_in, saysL_of e⟩
  keeps := fun _ _ _ ⟨K, hK, c⟩ k => ⟨K, PySem.W.Frag.In.keeps hK k, ⟨c.d, c.more, c.hd, c.out, fun x hx => k _ _ (c.empty x hx), c.apart⟩⟩
theorem obsL_eq {n : Nat} {fa : List Fa} {fn : List DefD} {ex : PySem.W.Frag → Bool} {g : Addr → Option Obj} {s : Shared} (h : ∀ a, g a = s.heap.get? a) : obsL n fa fn ex g = (hookL n fa fn ex).obs s := by
  have e : g = s.heap.get? := funext h
  rw [e]
  rfl
theorem SaysL.fact {fa : List Fa} {fn : List DefD} {ex : PySem.W.Frag → Bool} {h : Heap} {K : PySem.W.Frag} (c : SaysL fa fn ex h K) (i : Nat) {f : Fa} (e : fa[i]? = some f := by rfl) : f.ok K = true := c.d.fact i e
/-- a def that makes lambdas -/
theorem mk_of {K : PySem.W.Frag} {mg : Str → Option Value} {base : Heap} {x q : Str} {params : Arguments} {body : List Stmt} {sc : Scope} {dvs : List V} {kws : List (Str × V)} {f : Addr} {fd : FuncData} (F : FunD K x q params body sc dvs kws f fd)
    (tb : ∀ z ∈ tabC K, LamX.TabB base mg z.1 z.2.1) (ap : ∀ p ∈ tabL K, ∀ q ∈ tabL K, q.1 = p.1 → q.2 = p.2) : MkT K mg base fd.code (q ++ ".<locals>." ++ "<lambda>") := by
  obtain ⟨oc, od, dV, kV, dc, pm, an, cdv, ct, osl, rfl, lk, hcd, _, _⟩ := F.ex
  obtain ⟨c, rfl⟩ := codeIn_ref hcd
  have hm : (c, He.tabOf K c, q ++ ".<locals>." ++ "<lambda>") ∈ tabC K := List.mem_filterMap.mpr ⟨_, He.lookup_mem lk, rfl⟩
  have hl : (He.tabOf K c, q ++ ".<locals>." ++ "<lambda>") ∈ tabL K := by
    rw [tabC_map]
    exact List.mem_map.mpr ⟨_, hm, rfl⟩
  exact ⟨c, He.tabOf K c, rfl, tb _ hm, hl, fun p hp e => ap _ hl p hp e⟩
theorem end_tab {P : Program} {w : World} {K : PySem.W.Frag} {mg mb : Str → Option Value} {k : Nat} {fa a : Addr} {fd : FuncData} {x : Str} {sp : Sp} {s₁ : Shared} {vs : List Value} {ns : List Int}
    (KX : K.In s₁.heap) (hns : s₁.heap.Ns mainGlobals mg) (hb : s₁.heap.Ns builtinsNs mb) (hbb : ∀ x : Str, x ≠ "__name__" → mb x = bootBuiltins x) (hlim : s₁.heap.NoLimit) (hg : s₁.gens = #[])
    (hT : ∀ z ∈ tabC K, s₁.heap.get? z.2.1 = some { cls := .none, data := .fields #[] }) (nT : ∀ z ∈ tabC K, K.lookup z.2.1 = none) (C : ∀ z ∈ tabC K, PySem.W.codeHdIn K z.1 z.2.1 = true)
    (hbm : ∃ (bm : Addr) (ob : Obj), mg "__builtins__" = some (.ref bm) ∧ bm ≠ builtinsNs ∧ s₁.heap.get? bm = some ob ∧ ob.cls = .type "module" ∧ ob.dict = some builtinsNs ∧ ob.data = .plain)
    (ha : s₁.heap.get? a = some { cls := .type "list", data := .seq vs.toArray }) (hi : IntsAre vs ns) (hl : ns.length ≤ sizeLine) (hr : Room k callerA)
    (F : ∀ base : Heap, K.In base → base.Ns mainGlobals mg → (∀ z ∈ tabC K, LamX.TabB base mg z.1 z.2.1) → FnG P w K mg base k fa fd [x] sp) (hbind : ∀ (s : Shared) (u : Value), BindsTo s fd ⟨[u], []⟩ [(x, u)])
    (hsp : ∀ H : Hp, LamX.Tabs (tabL K) H → SqL K H a (ns.map V.int) → sp [.ref a] H (fun v _ => v = .bl true) fun _ _ _ => False)
    (hCX : ∀ H e s', L2.CX P w [] H s₁ (fun _ _ _ => False) e s' → False) :
    codeAny (model P w) callerA (.call (.ref fa) ⟨[.ref a], []⟩) (fun r s' => r = .ok (.ret (.bool true)) ∧ OldK s₁.heap s'.heap ∧ s'.os = s₁.os ∧ AllBare s'.gens) s₁ := by
  let ts : List Addr := (tabC K).map fun z => z.2.1
  have isT : ∀ b ∈ ts, s₁.heap.get? b = some { cls := .none, data := .fields #[] } ∧ K.lookup b = none ∧ ∃ c, PySem.W.codeHdIn K c b = true := fun b hb => by
    obtain ⟨z, hz, rfl⟩ := List.mem_map.mp hb
    exact ⟨hT z hz, nT z hz, z.1, C z hz⟩
  have aT : a ∉ ts := fun z => by
    have q := (isT a z).1
    rw [ha] at q
    cases q
  have core : ∀ H : Hp, (∀ b ∈ ts, H b = some (.tbl #[])) → SqL K H a (ns.map V.int) → HOk P w H s₁.heap → (∀ b, H b = none ∨ b ∈ ts ∨ (b = a ∧ K.lookup a = none ∧ ∃ o xs, H b = some (.frz o (.lst xs)))) →
      codeAny (model P w) callerA (.call (.ref fa) ⟨[.ref a], []⟩) (fun r s' => r = .ok (.ret (.bool true)) ∧ OldK s₁.heap s'.heap ∧ s'.os = s₁.os ∧ AllBare s'.gens) s₁ := fun H hH hS hok hO => by
    have plain : ∀ {b : Addr} {u : Obj}, s₁.heap.get? b = some u → (∀ xs n, u.data ≠ .seq xs n) → u.data ≠ .fields #[] → H b = none := fun {b u} e n1 n2 => by
      rcases hO b with z | z | ⟨z, _⟩
      · exact z
      · rw [(isT b z).1] at e
        cases e
        exact (n2 rfl).elim
      · rw [z, ha] at e
        cases e
        exact (n1 _ _ rfl).elim
    have nsK : ∀ {b : Addr} {m : Str → Option Value}, s₁.heap.Ns b m → (hidT s₁.heap H).Ns b m := fun {b m} z => by
      obtain ⟨u, es, ep, e, dd, r⟩ := z
      exact ⟨u, es, ep, hidT_get e (plain e (fun xs n z => by rw [dd] at z; cases z) fun z => by rw [dd] at z; cases z), dd, r⟩
    have kb : K.In (hidT s₁.heap H) := fun b u e => hidT_get (KX b u e) (by
      rcases hO b with z | z | ⟨z, z2, _⟩
      · exact z
      · rw [(isT b z).2.1] at e
        cases e
      · rw [z, z2] at e
        cases e)
    have hM : Mod K mg (hidT s₁.heap H) := ⟨kb, nsK hns, ⟨mb, nsK hb, hbb⟩, by
      obtain ⟨mc, h1, h2⟩ := hlim
      exact ⟨mc, nsK h1, h2⟩⟩
    have TB : ∀ z ∈ tabC K, LamX.TabB (hidT s₁.heap H) mg z.1 z.2.1 := fun z hz => by
      refine ⟨PySem.W.codeHd_of_K kb (C z hz), ?_, fun q => ?_⟩
      · obtain ⟨bm, ob, b1, b2, b3, b4, b5, b6⟩ := hbm
        refine ⟨bm, ob, b1, b2, fun q => ?_, fun q => ?_, hidT_get b3 (plain b3 (fun xs n z => by rw [b6] at z; cases z) fun z => by rw [b6] at z; cases z), b4, b5, b6⟩
        · obtain ⟨o, es, ep, e, hd, _⟩ := hns
          rw [q, e] at b3
          cases b3
          rw [hd] at b6
          cases b6
        · rw [q, hT z hz] at b3
          cases b3
          cases b6
      · obtain ⟨o, es, ep, e, hd, _⟩ := hns
        rw [q, hT z hz] at e
        cases e
        cases hd
    have tabs : LamX.Tabs (tabL K) H := fun p hp => by
      rw [tabC_map] at hp
      obtain ⟨z, hz, rfl⟩ := List.mem_map.mp hp
      exact .nil (hH _ (List.mem_map.mpr ⟨z, hz, rfl⟩))
    have e0 : Env0 P w K mg (hidT s₁.heap H) callerA [] s₁ H := ⟨rfl, hM, fun b u e => of_hidT e, Nat.le_of_eq (hidT_size _ _), trivial, fun b hb => (by cases hb), hok, .of_eq hg⟩
    refine codeAny_mono ((F _ kb (nsK hns) TB).go callerA [] s₁ H ⟨[.ref a], []⟩ [.ref a] [.ref a] _ _ rfl hr e0 (hbind s₁ (.ref a)) (.cons rfl .nil) (hsp H tabs hS)) fun r s' h => ?_
    match r, h with
    | .error e, h => exact (hCX H e s' h).elim
    | .ok .next, h => exact False.elim h
    | .ok .brk, h => exact False.elim h
    | .ok .cont, h => exact False.elim h
    | .ok (.ret u), h =>
      obtain ⟨v, H', os, bare, un, hok', rv, q⟩ := h
      have q : v = .bl true := q
      rw [q] at rv
      have rv : u = Value.bool true := rv
      rw [rv]
      have old : ∀ b u, b ∉ ts → s₁.heap.get? b = some u → s'.heap.get? b = some u := fun b u nb e => by
        rcases hO b with z | z | ⟨_, _, ob, xs, z⟩
        · exact un.keep b u e z (fun z => (by cases z)) (fun z => (by cases z))
        · exact absurd z nb
        · have z1 := (hok b _ z).1
          have z2 := (hok' b _ (un.frzs b ob _ z)).1
          rw [e] at z1
          cases z1
          exact z2
      have grown : ∀ b ∈ ts, ∃ more : Array Value, s'.heap.get? b = some { cls := .none, data := .fields more } := fun b hb => by
        obtain ⟨more, z⟩ := un.tbls b #[] (hH b hb)
        exact ⟨_, hok' b _ z⟩
      refine ⟨rfl, ⟨fun b u e => ?_, fun b u e => ?_⟩, os, bare⟩
      · rcases Decidable.em (b ∈ ts) with hb | hb
        · obtain ⟨more, hm⟩ := grown b hb
          obtain ⟨t1, _, c, hc⟩ := isT b hb
          rw [t1] at e
          cases e
          exact .inr (.inl ⟨((PySem.W.codeHd_of_K KX hc).tab t1).isCodeTable, rfl, #[], more, rfl, by rw [Array.empty_append]; exact hm⟩)
        · exact .inl (old b u hb e)
      · rcases Decidable.em (b ∈ ts) with hb | hb
        · obtain ⟨more, hm⟩ := grown b hb
          exact ⟨_, hm⟩
        · exact ⟨u, old b u hb e⟩
  have rv := vals_ints hi
  cases hk : K.lookup a with
  | some o =>
    have e := KX a o hk
    rw [ha] at e
    cases e
    refine core (fun b => if b ∈ ts then some (.tbl #[]) else none) (fun b hb => if_pos hb) (.inr ⟨_, vs.toArray, _, hk, rfl, rfl, rfl, by rw [List.size_toArray, hi.length]; exact hl, by simpa using rv⟩) (fun b u z => ?_) (fun b => ?_)
    · rcases Decidable.em (b ∈ ts) with hb | hb
      · have z := (if_pos hb).symm.trans z
        cases z
        exact (isT b hb).1
      · have z := (if_neg hb).symm.trans z
        cases z
    · rcases Decidable.em (b ∈ ts) with hb | hb
      · exact .inr (.inl hb)
      · exact .inl (if_neg hb)
  | none =>
    refine core (fun b => if b = a then some (.frz { cls := .type "list", data := .seq vs.toArray } (.lst (ns.map V.int))) else if b ∈ ts then some (.tbl #[]) else none) (fun b hb => (if_neg (fun z : b = a => aT (z ▸ hb))).trans (if_pos hb)) (.inl (.inr ⟨{ cls := .type "list", data := .seq vs.toArray }, if_pos rfl⟩)) (fun b u z => ?_) (fun b => ?_)
    · rcases Decidable.em (b = a) with q | q
      · have z := (if_pos q).symm.trans z
        cases z
        rw [q]
        exact ⟨ha, by rw [List.length_map]; exact hl, vs, _, rv, ha⟩
      · have z := (if_neg q).symm.trans z
        rcases Decidable.em (b ∈ ts) with hb | hb
        · have z := (if_pos hb).symm.trans z
          cases z
          exact (isT b hb).1
        · have z := (if_neg hb).symm.trans z
          cases z
    · rcases Decidable.em (b = a) with q | q
      · exact .inr (.inr ⟨q, hk, _, _, if_pos q⟩)
      · rcases Decidable.em (b ∈ ts) with hb | hb
        · exact .inr (.inl hb)
        · exact .inl ((if_neg q).trans (if_neg hb))
theorem walk_tab {l : PySem.W.OpenLaw} {n k : Nat} {q : Program} {loose : List Str} {XP : (Str → Option Value) → Heap → Prop} {YP : World → Heap → Prop} {d : DefRec} {x : Str}
    (hn : l.most = some n) (hz : n ≤ sizeLine) (hdf : d.params.defaults = []) (hr : Room k callerA)
    (F : ∀ (w : World) (mg : Str → Option Value) (fa : Addr) (h : Heap), YP w h → h.Ns mainGlobals mg → mg d.name = some (.ref fa) →
      ∃ (K : PySem.W.Frag) (fd : FuncData) (sp : Sp), K.In h ∧ (∀ (s : Shared) (u : Value), BindsTo s fd ⟨[u], []⟩ [(x, u)]) ∧ (∀ z ∈ tabC K, h.get? z.2.1 = some { cls := .none, data := .fields #[] }) ∧ (∀ z ∈ tabC K, K.lookup z.2.1 = none) ∧ (∀ z ∈ tabC K, PySem.W.codeHdIn K z.1 z.2.1 = true) ∧
        (∀ (H : Hp) (a : Addr) (ns : List Int), ns.length ≤ n → LamX.Tabs (tabL K) H → SqL K H a (ns.map V.int) → sp [.ref a] H (fun v _ => v = .bl true) fun _ _ _ => False) ∧
        ∀ base : Heap, K.In base → base.Ns mainGlobals mg → (∀ z ∈ tabC K, LamX.TabB base mg z.1 z.2.1) → FnG l.prog w K mg base k fa fd [x] sp) :
    PySem.W.WalkO q loose XP YP l.row.toRowW d [] (fun f vs => PySem.call f vs) := by
  refine Att.attach_call hn hdf fun w' t₀ t₁ mg' mb' fa' o' pm' cd' dc a' vs' ns' G' Y' h1 h2 h3 h4 h5 h6 h7 h8 => ?_
  obtain ⟨K', fd', sp', kx, hb', e1, e2, e3, hs', hF'⟩ := F w' mg' fa' _ Y' G'.T.g h4
  exact end_tab kx G'.T.g G'.T.b G'.T.builtins G'.T.nolimit h8 e1 e2 e3 G'.T.bmain h5 h6 (Nat.le_trans h7 hz) hr hF' hb' (fun H hH hS => hs' H a' ns' h7 hH hS) fun H e s' h => cx_none h
end PF
namespace PF
open PySem PySem.Spec PyProof.Rows L2
def sOwnAdd (i : Nat) (fa fb : En → T W) : En → T (Fl × En) := fun ρ => (fa ρ).bind fun x => (fb ρ).bind fun y => (addL x y).bind fun z => match z with
  | .lst ws => .ok (.nx, ρ.set i (.own ws))
  | _ => .bad
theorem tr_ownAdd {X : Cx} {E : XK} {i : Nat} {x : Str} {a b : Expr} {fa fb : En → T W} {pos pos' p2 : Pos} (hN : X.N.Nodup) (hi : X.N[i]? = some x) (hx : L2.Loc X.env.scope x) (ha : TrE Γ X (wOf E) a fa) (hb : TrE Γ X (wOf E) b fb) (hs : swapsWith (.BinOp a .Add b p2) (some (.Name x pos')) pos.line X.env = pure false := by rfl)
    (hf : X.fn x = true ∨ X.env.scope.names.lookup x = some .local := by first | exact .inl rfl | exact .inr rfl | assumption) : TrS Γ X E (.Assign [.Name x pos'] (.BinOp a .Add b p2) pos) (sOwnAdd i fa fb) := ps_imp (ps_set hN hi hx (pe_op op_cat ha hb) hs hf) fun D σ H q => by
  obtain ⟨c, d, oa, ρ, e, q⟩ := q
  refine lift_thenS (P := fun c H => PSq X.K Γ c H D) e q (fun st p => p.later (.of st e.wd)) fun w v H1 d1 _ r1 e1 h1 => ?_
  refine lift_thenS (P := fun c H => PSq X.K Γ c H D) e1 h1 (fun st p => p.later (.of st e1.wd)) fun w2 v2 H2 d2 st2 r2 e2 h2 => ?_
  have r1' := r1.step st2 e1.st e1.ok
  cases r1' <;> try exact h2.elim
  cases r2 <;> try exact h2.elim
  rename_i aa xs ws n1 h1' rl1 bb ys us n2 h2' rl2
  unfold addL at h2
  simp only at h2
  by_cases hz : sz2 ws.length us.length = true
  · rw [if_pos hz] at h2
    refine ⟨_, _, _, _, rfl, rfl, h1', h2', rl1.sizes rl2 hz, fun p hp => ?_⟩
    exact h2 _ _ _ _ (Fwd.mine hp e2.wd) ((e2.mine hp).ownSet (List.mem_cons_self ..) upd_same (((rl1.append rl2).more hp (.new hp) e2.st e2.ok).mine) (EnvOk.ownNe e2 hp))
  · rw [if_neg hz] at h2
    exact h2.elim
def sOwnPar3 (i j l : Nat) (fs : En → T (List W)) : En → T (Fl × En) := fun ρ => (fs ρ).bind fun ws => match ws with
  | [y, z] => .ok (.nx, ((ρ.set i (.own [])).set j (.val y)).set l (.val z))
  | _ => .bad
/-- a, b, c = [], y, z -/
theorem tr_ownPar3 {X : Cx} {E : XK} {st : Stmt} {fs : En → T (List W)} {i j l : Nat} (hp : PS X st (tPar3 i j l (tCons (tLst tNil) (liftA X.K Γ (wOf E) fs)))) : TrS Γ X E st (sOwnPar3 i j l fs) := ps_imp hp fun D σ H q => by
  obtain ⟨c, d, oa, ρ, e, q⟩ := q
  refine ⟨by rw [sizeLine_eq]; decide, fun p hp => ?_⟩
  have e0 := e.mine (xs := []) hp
  have q0 : (sOwnPar3 i j l fs ρ).AllW (PSq X.K Γ (c.mine p) (L2.upd H p (.lst [])) D) (PXs X.K (c.mine p) (L2.upd H p (.lst [])) E) d := T.AllW.imp (fun _ _ y => y.later (Fwd.mine hp e.wd)) (fun _ _ _ y => y.fwd (Fwd.mine hp e.wd)) q
  refine liftA_thenS (P := fun c H => PSq X.K Γ c H D) e0 q0 (fun st p => p.later (.of st e0.wd)) fun ws vs H1 d1 st1 r1 e1 h1 => ?_
  have n0 := st_ne e.st hp
  simp only [List.mem_cons, not_or] at n0
  have hq : H1 p = some (.lst []) := st1.st.keep p _ upd_same n0.1 n0.2.2.1 nofun
  match ws, vs, r1, h1 with
  | [], _, .nil, h1 => exact h1.elim
  | [_], _, .cons _ .nil, h1 => exact h1.elim
  | [_, _], _, .cons r (.cons r' .nil), h1 => exact ⟨_, _, _, rfl, h1 _ _ _ H1 .refl (((e1.ownSet (D := p) (i := i) (by rw [st1.g.M]; exact List.mem_cons_self ..) hq .nil (EnvOk.ownNe e hp)).set r).set r')⟩
  | _ :: _ :: _ :: _, _, .cons _ (.cons _ (.cons _ _)), h1 => exact h1.elim
end PF
namespace PF
open PySem PySem.Spec PyProof.Rows L2
def keyW : W → Option Key
  | .int i => some (.inl i)
  | .str x => some (.inr x)
  | _ => none
def putW (acc : List (Key × W)) (k : Key) (v : W) : List (Key × W) :=
  if (acc.any fun kv => decide (kv.1 = k)) = true then acc.map (fun kv => if kv.1 = k then (kv.1, v) else kv) else acc ++ [(k, v)]
section
variable {K : PySem.W.Frag} {c : Cc} {H : Hp}
theorem RepD.len {acc : List (Key × W)} {kvs : List (Key × V)} (h : RepD K c H acc kvs) : acc.length = kvs.length := by
  have := congrArg List.length h.1
  simpa using this
theorem RepD.cons {k k' : Key} {w : W} {v : V} {acc : List (Key × W)} {kvs : List (Key × V)} (h : RepD K c H ((k, w) :: acc) ((k', v) :: kvs)) : k = k' ∧ Rep K c H w v ∧ RepD K c H acc kvs := by
  obtain ⟨h1, h2⟩ := h
  simp only [List.map_cons] at h1 h2
  cases h2 with
  | cons r rr =>
    injection h1 with e1 e2
    exact ⟨e1, r, e2, rr⟩
theorem RepD.mk {k : Key} {w : W} {v : V} {acc : List (Key × W)} {kvs : List (Key × V)} (r : Rep K c H w v) (h : RepD K c H acc kvs) : RepD K c H ((k, w) :: acc) ((k, v) :: kvs) := ⟨by simp only [List.map_cons, h.1], .cons r h.2⟩
theorem RepD.any {k : Key} : ∀ {acc : List (Key × W)} {kvs : List (Key × V)}, RepD K c H acc kvs → (acc.any fun kv => decide (kv.1 = k)) = (kvs.any fun kv => decide (kv.1 = k))
  | [], [], _ => rfl
  | [], _ :: _, h => by
    have := h.1
    cases this
  | _ :: _, [], h => by
    have := h.1
    cases this
  | (a, w) :: acc, (b, v) :: kvs, h => by
    obtain ⟨rfl, r, h⟩ := h.cons
    simp only [List.any_cons, RepD.any (k := k) h]
theorem RepD.map {k : Key} {w : W} {v : V} (rw_ : Rep K c H w v) : ∀ {acc : List (Key × W)} {kvs : List (Key × V)}, RepD K c H acc kvs → RepD K c H (acc.map fun kv => if kv.1 = k then (kv.1, w) else kv) (kvs.map fun kv => if kv.1 = k then (kv.1, v) else kv)
  | [], [], h => h
  | [], _ :: _, h => by
    have := h.1
    cases this
  | _ :: _, [], h => by
    have := h.1
    cases this
  | (a, x) :: acc, (b, y) :: kvs, h => by
    obtain ⟨rfl, r, h⟩ := h.cons
    have ih := RepD.map (k := k) rw_ h
    simp only [List.map_cons]
    by_cases e : a = k
    · simp only [e, if_true]
      exact .mk rw_ ih
    · simp only [e, if_false]
      exact .mk r ih
theorem RepD.put {k : Key} {w : W} {v : V} {acc : List (Key × W)} {kvs : List (Key × V)} (h : RepD K c H acc kvs) (r : Rep K c H w v) : RepD K c H (putW acc k w) (putK kvs k v) := by
  unfold putW putK
  rw [h.any]
  split
  · exact h.map r
  · refine ⟨by simp [h.1], ?_⟩
    rw [List.map_append, List.map_append]
    exact h.2.append (.cons r .nil)
theorem putW_len (acc : List (Key × W)) (k : Key) (v : W) : (putW acc k v).length ≤ acc.length + 1 := by
  unfold putW
  split
  · rw [List.length_map]
    omega
  · rw [List.length_append]
    exact Nat.le_refl _
end
def dcL (G : W → En → Option En) (tt : En → T Bool) (fk fv : En → T W) (ρ : En) : List W → List (Key × W) → T (List (Key × W))
  | [], acc => .ok acc
  | w :: ws, acc => match G w ρ with
    | none => .bad
    | some ρ1 => (noX (tt ρ1)).bind fun b => if b then (noX (fk ρ1)).bind fun x => (noX (fv ρ1)).bind fun y => match keyW x with
      | some k => dcL G tt fk fv ρ ws (putW acc k y)
      | none => .bad
      else dcL G tt fk fv ρ ws acc
def dctW (xs : List (Key × W)) : W := .dct (xs.map (·.1)) (xs.map (·.2))
def fDc (vs : List Nat) (fi : En → T (List W)) (G : W → En → Option En) (tt : En → T Bool) (fk fv : En → T W) : En → T W := fun ρ => (fi ρ).bind fun ws => if sizeOk ws then (dcL G tt fk fv (wipeE ρ vs) ws []).bind fun xs => .ok (dctW xs) else .bad
section
variable {K : PySem.W.Frag} {c : Cc} {d : Dw} {oa : Nat → Addr} {ρ : En} {σ : St} {H H' : Hp} {D : Addr}
theorem StOk.updD {u : HO} {xs : List (Key × V)} (s : StOk c d H) (hA : D ∈ c.A) (hn : D ∉ [c.S, c.ca, c.la]) (hl : H D = some (.dK xs)) : StOk c d (L2.upd H D u) := by
  obtain ⟨⟨cells, lefts, k, r, h1, h2, h3, h4, h5, h6, h7, h8, h9⟩, ob⟩ := s
  simp only [List.mem_cons, not_or, List.not_mem_nil, not_false_eq_true, and_true] at hn
  exact ⟨⟨cells, lefts, k, r, by rw [upd_ne (Ne.symm hn.1)]; exact h1, by rw [upd_ne (Ne.symm hn.2.1)]; exact h2, by rw [upd_ne (Ne.symm hn.2.2)]; exact h3, h4, h5, h6, h7, h8, Tabs.upd h9 hl nofun dK_noC⟩,
    ob.same ob.ok rfl rfl (fun a C dx fl h => by rw [upd_ne (ne_of h hl nofun)]; exact h) fun ws vs r => r.upd hA hl (fun _ z => by cases z) (fun _ _ z => by cases z)⟩
theorem EnvOk.updD {xs ys : List (Key × V)} (e : EnvOk K Γ c d oa ρ σ H) (hA : D ∈ c.A) (hM : D ∉ c.M) (hn : D ∉ [c.S, c.ca, c.la]) (hl : H D = some (.dK xs)) (ho : ∀ (i : Nat) (ws : List (Key × W)), ρ[i]? = some (.odc ws) → oa i ≠ D) : EnvOk K Γ c d oa ρ σ (L2.upd H D (.dK ys)) where
  ok := e.ok
  st := e.st.updD hA hn hl
  av := fun b hb => by
    by_cases hb' : b = D
    · rw [hb']
      exact ⟨_, upd_same, .inr ⟨_, rfl⟩⟩
    · obtain ⟨o, h, w⟩ := e.av b hb
      exact ⟨o, by rw [upd_ne hb']; exact h, w⟩
  len := e.len
  val := fun i w h => by
    obtain ⟨v, h1, h2⟩ := e.val i w h
    exact ⟨v, h1, h2.upd hA hl (fun _ z => by cases z) (fun _ _ z => by cases z)⟩
  m := ⟨e.m.inA, e.m.nst, fun b hb => by
    by_cases hb' : b = D
    · exact absurd (hb' ▸ hb) hM
    · obtain ⟨xs, h, w⟩ := e.m.ls b hb
      exact ⟨xs, by rw [upd_ne hb']; exact h, w⟩⟩
  own := fun i ws h => by
    obtain ⟨h1, h3, vs, h4, h5⟩ := e.own i ws h
    have ne : oa i ≠ D := fun z => by
      rw [z, hl] at h4
      cases h4
    exact ⟨h1, h3, vs, by rw [upd_ne ne]; exact h4, h5.upd hA hl (fun _ z => by cases z) (fun _ _ z => by cases z)⟩
  inj := e.inj
  odc := fun i ws h => by
    obtain ⟨h1, h3, vs, h4, h5⟩ := e.odc i ws h
    exact ⟨h1, h3, vs, by rw [upd_ne (ho i ws h)]; exact h4, h5.1, h5.2.upd hA hl (fun _ z => by cases z) (fun _ _ z => by cases z)⟩
  ido := e.ido
  tT := e.tT
  cC := e.cC
  kK := e.kK
theorem wipeE_odc {j : Nat} {xs : List (Key × W)} : ∀ {vs : List Nat}, (wipeE ρ vs)[j]? = some (.odc xs) → ρ[j]? = some (.odc xs)
  | [], h => h
  | v :: vs, h => by
    rcases getElem?_set_or h with ⟨_, ex⟩ | ⟨_, h⟩
    · cases ex
    · exact wipeE_odc h
end
theorem Rep.key {K : PySem.W.Frag} {c : Cc} {H : Hp} {w : W} {v : V} {k : Key} (r : Rep K c H w v) (h : keyW w = some k) : v = kV k := by
  cases r <;> first | (cases h; rfl) | cases h
section
variable {X : Cx} {E : WX} {kx vx tg iter : Expr} {ifs : List Expr} {scope : Scope} {own : List (Str × Nat)} {pos : Pos} {fi : En → T (List W)} {ns : List Nat} {G : W → En → Option En} {tt : En → T Bool} {fk fv : En → T W}
theorem dc_ok (hs : ∀ i ∈ ns, i ∈ own.map (·.2)) : ∀ σ H Q, liftE X.K Γ E (fDc (own.map (·.2)) fi G tt fk fv) σ H Q → tDc (liftI X.K Γ E fi) (liftG X.K Γ ns G) (liftB X.K Γ noW tt) (liftE X.K Γ noW fk) (liftE X.K Γ noW fv) (own.map (·.2)) σ H Q := fun σ H Q h => by
  obtain ⟨c, d, oa, ρ, e, h⟩ := h
  refine ⟨c, d, oa, ρ, e, T.AllW.imp (fun d1 ws hx => ?_) (fun _ _ _ y => y) (T.allW_bind.mp h)⟩
  intro c1 J H1 st1 so1 jo D nD
  have e1 := e.step st1 so1
  obtain ⟨hz, hx⟩ := T.AllW.ite hx
  have hz := sizeOk_of hz
  generalize hvs : own.map (·.2) = vs at hs hx
  have hx : ((dcL G tt fk fv (wipeE ρ vs) ws []).bind fun xs => T.ok (dctW xs)).AllW (PQ X.K c1 H1 Q) (PX X.K c1 H1 fun cls dx H' => E cls dx σ H') d1 := T.AllW.imp (fun _ _ y => y.later st1) (fun _ _ _ y => y.later st1) hx
  refine ⟨fun i m H' => m = ws.length - i ∧ ∃ cm d' acc us, Gr (c1.more D) cm ∧ Step c1 H1 H' ∧ EnvOk X.K Γ cm d' oa (wipeE ρ vs) (wipe σ vs) H' ∧ H' D = some (.dK us) ∧ RepD X.K cm H' acc us ∧ us.length ≤ i ∧
    ((dcL G tt fk fv (wipeE ρ vs) (ws.drop i) acc).bind fun xs => T.ok (dctW xs)).AllW (PQ X.K c1 H1 Q) (PX X.K c1 H1 fun cls dx H' => E cls dx σ H') d',
    ⟨_, rfl, _, d1, [], [], .refl _, .new nD, (e1.more nD).wipe vs, upd_same, ⟨rfl, .nil⟩, Nat.le_refl _, hx⟩, ?_⟩
  rintro i m H' ⟨rfl, cm, d', acc, us, gm, st', e', hD, ra, hl, h'⟩
  have fw : Fwd X.K c1 H1 cm H' := (Fwd.more nD st' e1.wd).gr gm
  obtain ⟨ji, js⟩ := jo cm H' d' i fw e'.wd
  have nst : D ∉ [cm.S, cm.ca, cm.la] := by
    rw [gm.S, gm.ca, gm.la]
    exact st_ne (c := c1) so1 nD
  have nMg : ∀ {ck : Cc}, Gr cm ck → D ∉ ck.M := fun g hm => by
    rw [g.M, gm.M] at hm
    obtain ⟨xs, hxs, _⟩ := e1.m.ls D hm
    rw [nD] at hxs
    cases hxs
  have inA : ∀ {ck : Cc}, Gr cm ck → D ∈ ck.A := fun g => by
    rw [g.A, gm.A]
    exact List.mem_cons_self ..
  have nstg : ∀ {ck : Cc}, Gr cm ck → D ∉ [ck.S, ck.ca, ck.la] := fun g => by
    rw [g.S, g.ca, g.la]
    exact nst
  have ho : ∀ (j : Nat) (xs : List (Key × W)), (wipeE ρ vs)[j]? = some (.odc xs) → oa j ≠ D := fun j xs hj => by
    obtain ⟨_, _, zs, h4, _⟩ := e1.odc j xs (wipeE_odc hj)
    exact ne_of_none h4 nD
  have c1m : ∀ {Ha Hb : Hp} {ck ck' : Cc}, Gr cm ck → SG ck ck' Ha Hb → Step c1 Ha Hb := fun g st => Step.to st.st (g.S.trans gm.S) (g.la.trans gm.la)
  have stp : ∀ {ck ck' : Cc} {Ha Hb : Hp} {da : Dw} {acc : List (Key × W)} {us : List (Key × V)}, SG ck ck' Ha Hb → StOk ck da Ha → CcOk ck → RepD X.K ck Ha acc us → RepD X.K ck' Hb acc us := fun st so ok h => ⟨h.1, h.2.step st so ok⟩
  by_cases hi : i < ws.length
  · have hw : ws[i]? = some ws[i] := List.getElem?_eq_getElem hi
    rw [List.drop_eq_getElem_cons hi] at h'
    obtain ⟨jg, jy⟩ := ji _ hw
    refine .inr ⟨jg, fun H2 => ∃ cm d' acc us, Gr (c1.more D) cm ∧ Step c1 H1 H2 ∧ EnvOk X.K Γ cm d' oa (wipeE ρ vs) (wipe σ vs) H2 ∧ H2 D = some (.dK us) ∧ RepD X.K cm H2 acc us ∧ us.length ≤ i + 1 ∧
      ((dcL G tt fk fv (wipeE ρ vs) (ws.drop (i + 1)) acc).bind fun xs => T.ok (dctW xs)).AllW (PQ X.K c1 H1 Q) (PX X.K c1 H1 fun cls dx H' => E cls dx σ H') d', fun H2 h2 => ⟨ws.length - (i + 1), by omega, rfl, h2⟩, fun x H2 y => ?_⟩
    obtain ⟨st2, so2, rx⟩ := jy x H2 y
    have e2 := e'.step st2 so2
    have keep : ∀ {Ha Hb : Hp} {ck ck' : Cc}, Gr cm ck → SG ck ck' Ha Hb → ∀ {us}, Ha D = some (.dK us) → Hb D = some (.dK us) := fun g st us h => by
      have n0 := nstg g
      simp only [List.mem_cons, not_or] at n0
      exact st.st.keep _ _ h n0.1 n0.2.2.1 nofun
    unfold dcL at h'
    cases g : G ws[i] (wipeE ρ vs) with
    | none =>
      rw [g] at h'
      exact h'.elim
    | some ρ1 =>
      rw [g] at h'
      refine ⟨cm, d', oa, wipeE ρ vs, ws[i], ρ1, e2, rx, g, fun σ3 b3 e3 => ⟨wipe_but b3 hs, cm, d', oa, ρ1, e3, ?_⟩⟩
      refine noX_all (T.AllW.imp (fun d4 b hb => ?_) (fun _ _ _ y => y) (T.allW_bind.mp (T.allW_bind.mp h')))
      intro c4 H4 st4 so4
      have e4 := e3.step st4 so4
      have e4' := e2.step st4 so4
      have hD4 := keep (.refl cm) st4 (keep (.refl cm) st2 hD)
      have ra4 := stp st4 e2.st e2.ok (stp st2 e'.st e'.ok ra)
      have stt4 : Step c1 H1 H4 := st'.trans ((c1m (.refl cm) st2).trans (c1m (.refl cm) st4))
      cases b with
      | false => exact iteF ⟨c4, d4, acc, us, gm.trans st4.g, stt4, e4', hD4, ra4, Nat.le_succ_of_le hl, T.allW_bind.mpr (show (dcL G tt fk fv (wipeE ρ vs) (ws.drop (i + 1)) acc).AllW _ _ d4 from hb)⟩
      | true =>
        refine iteT ⟨c4, d4, oa, ρ1, e4, ?_⟩
        have hb := T.allW_bind.mp (show ((noX (fk ρ1)).bind fun x => (noX (fv ρ1)).bind fun y => match keyW x with
          | some k => dcL G tt fk fv (wipeE ρ vs) (ws.drop (i + 1)) (putW acc k y)
          | none => .bad).AllW _ _ d4 from hb)
        refine noX_all (T.AllW.imp (fun d5 w5 h5 => ?_) (fun _ _ _ y => y) hb)
        intro c5 v5 H5 st5 so5 r5
        have e5 := e4.step st5 so5
        have e5' := e4'.step st5 so5
        refine ⟨c5, d5, oa, ρ1, e5, ?_⟩
        refine noX_all (T.AllW.imp (fun d6 w6 h6 => ?_) (fun _ _ _ y => y) (T.allW_bind.mp h5))
        intro c6 v6 H6 st6 so6 r6
        have e6' := e5'.step st6 so6
        have g5 := st4.g.trans st5.g
        have g6 := g5.trans st6.g
        have hD6 := keep g5 st6 (keep st4.g st5 hD4)
        have ra6 := stp st6 e5'.st e5'.ok (stp st5 e4'.st e4'.ok ra4)
        cases hk : keyW w5 with
        | none =>
          rw [hk] at h6
          exact h6.elim
        | some k =>
          rw [hk] at h6
          have ek := r5.key hk
          refine ⟨us, k, ek, hD6, by omega, c6, d6, putW acc k w6, putK us k v6, gm.trans g6, (stt4.trans ((c1m st4.g st5).trans (c1m g5 st6))).past nD, e6'.updD (inA g6) (nMg g6) (nstg g6) hD6 ho, upd_same, ?_, ?_, T.allW_bind.mpr h6⟩
          · have := ra6.put (k := k) r6
            exact ⟨this.1, this.2.upd (inA g6) hD6 (fun _ z => by cases z) (fun _ _ z => by cases z)⟩
          · have := length_putK us k v6
            omega
  · rw [List.drop_eq_nil_of_le (by omega)] at h'
    refine .inl ⟨js (by omega), ?_⟩
    have h8 : PQ X.K c1 H1 Q d' (.dct (acc.map (·.1)) (acc.map (·.2))) := h'
    rw [ra.1] at h8
    refine h8 _ H' ⟨gm.back, st'⟩ (e'.st.back gm e1.ok) (.dct (c := { cm with A := c1.A }) (e1.wd.fresh nD) hD ?_)
    exact RepL.weak (c := { cm with A := c1.A }) (c1 := cm) rfl rfl (fun b hb => by rw [gm.A]; exact List.mem_cons_of_mem _ hb) ra.2
theorem tr_dc (hc : X.calm = true) (hN : X.N.Nodup) (hi : TrI Γ X E tg iter fi) (ok : BlkOk X.N X.env.scope scope own) (hs : ∀ i ∈ ns, i ∈ own.map (·.2))
    (hg : ∀ (s : Shared) (H : Hp) (C : Addr) (cl : List (Str × Addr)) (fp : List Addr), TrG Γ (X.blk s H scope (compEnvC scope cl C X.env) fp) tg ns G) (ht : ∀ (s : Shared) (H : Hp) (C : Addr) (cl : List (Str × Addr)) (fp : List Addr), TrTs Γ (X.blk s H scope (compEnvC scope cl C X.env) fp) ifs tt)
    (hk : ∀ (s : Shared) (H : Hp) (C : Addr) (cl : List (Str × Addr)) (fp : List Addr), TrE Γ (X.blk s H scope (compEnvC scope cl C X.env) fp) noW kx fk)
    (he : ∀ (s : Shared) (H : Hp) (C : Addr) (cl : List (Str × Addr)) (fp : List Addr), TrE Γ (X.blk s H scope (compEnvC scope cl C X.env) fp) noW vx fv) (hf : ∀ x, foldedSetIterable iter X.env x = pure x := by intro _; rfl) :
    TrE Γ X E (.DictComp kx vx [⟨tg, iter, ifs, 0⟩] scope pos) (fDc (own.map (·.2)) fi G tt fk fv) := pe_imp (pe_dc (g := liftG X.K Γ ns G) (tt := liftB X.K Γ noW tt) (tk := liftE X.K Γ noW fk) (tv := liftE X.K Γ noW fv) hc hN hi ok hg ht hk he hf) (dc_ok hs)
end
/-- len of a dict -/
def lenD : List W → T W
  | [.dct ks _] => .ok (.int ks.length)
  | _ => .bad
theorem sem_lenD {K : PySem.W.Frag} : SemL K (fun xs H Q => ∃ a kvs, xs = [V.ref a] ∧ H a = some (.dK kvs) ∧ Q (.int kvs.length) H) lenD := fun c d H x v Q E' wd rx q => by
  cases rx with
  | nil => exact q.elim
  | cons r rr =>
    cases rr with
    | cons _ _ => cases r <;> exact q.elim
    | nil =>
      cases r with
      | dct n h rl =>
        have q := PQ.now wd q (.int _)
        rw [List.length_map] at q
        exact ⟨_, _, rfl, h, q⟩
      | _ => exact q.elim
end PF
namespace PF
open PySem PySem.Spec PyProof.Rows L2
def sOwn2Rg (i j : Nat) (f : En → T W) : En → T (Fl × En) := fun ρ => (f ρ).bind fun w => match w with
  | .int n => if decide (0 ≤ n ∧ n ≤ 16777216) then .ok (.nx, (ρ.set i (.own (intsFrom 0 n.toNat))).set j (.own [])) else .bad
  | _ => .bad
theorem rep_ints {K : PySem.W.Frag} {c : Cc} {H : Hp} : ∀ (n : Nat) (lo : Int), RepL K c H (intsFrom lo n) ((List.range n).map fun (i : Nat) => V.int (lo + i))
  | 0, lo => .nil
  | n + 1, lo => by
    rw [List.range_succ_eq_map, List.map_cons, List.map_map]
    have e : ((fun (i : Nat) => V.int (lo + i)) ∘ Nat.succ) = fun (i : Nat) => V.int (lo + 1 + i) := by
      funext i
      show V.int (lo + ((i + 1 : Nat) : Int)) = _
      congr 1
      omega
    rw [e]
    have e0 : (lo + ((0 : Nat) : Int)) = lo := by omega
    rw [e0]
    exact .cons (.int lo) (rep_ints n (lo + 1))
theorem tr_own2Rg {X : Cx} {E : XK} {st : Stmt} {f : En → T W} {i j : Nat} (ne : i ≠ j) (hp : PS X st (tPar i j (tCons (tLstRg (tRg1 (liftE X.K Γ (wOf E) f))) (tCons (tLst tNil) tNil)))) : TrS Γ X E st (sOwn2Rg i j f) := ps_imp hp fun D σ H q => by
  obtain ⟨c, d, oa, ρ, e, q⟩ := q
  refine lift_thenS (P := fun c H => PSq X.K Γ c H D) e q (fun st p => p.later (.of st e.wd)) @fun c w v H0 d0 _ r0 e00 h0 => ?_
  cases r0 with
  | int n =>
    obtain ⟨hz, h0⟩ := T.AllW.ite h0
    obtain ⟨z0, z1⟩ := of_decide_eq_true hz
    refine ⟨n, rfl, RgOk.of_le (Int.le_refl 0) z1 (by decide) z0, fun p hp => ?_⟩
    refine ⟨by rw [sizeLine_eq]; decide, fun p2 hp2 => ?_⟩
    have e1 := e00.mine (xs := rgV 0 n) hp
    have e2 := e1.mine (xs := []) hp2
    have ne2 : p ≠ p2 := fun z => by
      rw [← z, upd_same] at hp2
      cases hp2
    have h2 : ∀ Z, L2.upd (L2.upd H0 p (.lst (rgV 0 n))) p2 Z p = some (.lst (rgV 0 n)) := fun Z => by rw [upd_ne ne2]; exact upd_same
    have rg : RepL X.K ((c.mine p).mine p2) (L2.upd (L2.upd H0 p (.lst (rgV 0 n))) p2 (.lst [])) (intsFrom 0 n.toNat) (rgV 0 n) := by
      unfold rgV
      rw [Int.sub_zero]
      exact rep_ints n.toNat 0
    have e3 := e2.ownSet (D := p) (i := i) (List.mem_cons_of_mem _ (List.mem_cons_self ..)) (h2 _) rg (fun k us hk hu => EnvOk.ownNe (i := i) e00 hp k us hk hu)
    have e4 := e3.ownSet (D := p2) (i := j) (ws := []) (vs := []) (List.mem_cons_self ..) upd_same .nil (fun k us hk hu => by
      by_cases hki : k = i
      · rw [if_pos hki]
        exact ne2
      · rw [if_neg hki]
        rcases getElem?_set_or hu with ⟨z, _⟩ | ⟨_, hu⟩
        · exact absurd z hki
        · exact EnvOk.ownNe (i := k + 1) e1 hp2 k us (by omega) hu)
    refine ⟨_, _, rfl, h0 _ _ _ _ ((Fwd.mine hp e00.wd).trans (Fwd.mine hp2 e1.wd)) e4⟩
  | _ => exact h0.elim
def sAppPop (j i : Nat) (fs : En → T (List W)) (fb : En → T W) : En → T (Fl × En) := fun ρ => match ρ[j]?, ρ[i]? with
  | some (.own as), some (.own ws) => (fs ρ).bind fun xs => match popW ws xs with
    | some (w, us) => (fb (ρ.set i (.own us))).bind fun b => if roomOk as then .ok (.nx, (ρ.set i (.own us)).set j (.own (as ++ [.tup [w, b]]))) else .bad
    | none => .bad
  | _, _ => .bad
section
variable {X : Cx} {E : XK} {ea ep a b : Expr} {fs : En → T (List W)} {fb : En → T W} {pos : Pos}
theorem tr_appPop {i j : Nat} {apos cpos apos' cpos' tpos : Pos} {tk : Nat} (ne : i ≠ j) (hj : PE X ea (tVar j)) (hi : PE X ep (tVar i)) (ha : TrA Γ X (wOf E) [a] fs) (hb : TrE Γ X (wOf E) b fb)
    (hp : PE X (.Call (.Attribute ea "append" apos) [.Tuple [.Call (.Attribute ep "pop" apos') [a] [] cpos', b] tk tpos] [] cpos) (tBM X.K "list" rAppend (tVar j) (tCons (tTup (tCons (tBM X.K "list" rPopAt (tVar i) (liftA X.K Γ (wOf E) fs)) (tCons (liftE X.K Γ (wOf E) fb) tNil))) tNil)))
    (hs : swapsWith (.Call (.Attribute ea "append" apos) [.Tuple [.Call (.Attribute ep "pop" apos') [a] [] cpos', b] tk tpos] [] cpos) none pos.line X.env = pure false := by rfl) :
    TrS Γ X E (.Expr (.Call (.Attribute ea "append" apos) [.Tuple [.Call (.Attribute ep "pop" apos') [a] [] cpos', b] tk tpos] [] cpos) pos) (sAppPop j i fs fb) := ps_imp (ps_expr hp hs) fun D σ H q => by
  obtain ⟨c, d, oa, ρ, e, q⟩ := q
  unfold sAppPop at q
  split at q
  · rename_i as ws hjw hw
    obtain ⟨m1, m2, vs, m3, m4⟩ := e.own i ws hw
    obtain ⟨n1, n2, us, n3, n4⟩ := e.own j as hjw
    refine ⟨_, n2, .inl ⟨rfl, _, SqL.of n3⟩, ?_⟩
    refine ⟨_, m2, .inl ⟨rfl, _, SqL.of m3⟩, ?_⟩
    refine liftA_thenS (P := fun c H => PSq X.K Γ c H D) e q (fun st p => p.later (.of st e.wd)) fun xs zs H1 d1 st1 r1 e1 h1 => ?_
    cases r1 with
    | nil => exact h1.elim
    | cons r rr =>
      cases rr with
      | cons _ _ => cases r <;> exact h1.elim
      | nil =>
        cases r with
        | int k =>
          obtain ⟨m1', m2', vs', m3', m4'⟩ := e1.own i ws hw
          simp only [popW] at h1
          split at h1
          · rename_i w us' hp'
            split at hp'
            · rename_i hk
              split at hp'
              · rename_i y hy
                simp only [Option.some.injEq, Prod.mk.injEq] at hp'
                obtain ⟨rfl, rfl⟩ := hp'
                obtain ⟨v, hv, rv⟩ := m4'.get hy
                obtain ⟨e2, fw2⟩ := e1.ownUpd hw (m4'.erase k.toNat)
                have rv2 := fw2.rep _ _ rv
                refine ⟨_, _, k, k.toNat, v, rfl, rfl, m3', by omega, by omega, seqIx_at hk.1 (by rw [← m4'.length]; exact hk.2.1), hv, ?_⟩
                have h2 := T.AllW.imp (fun _ _ y => PSq.later fw2 y) (fun _ _ _ y => y.fwd fw2) h1
                refine lift_thenS (P := fun c H => PSq X.K Γ c H D) e2 h2 (fun st p => p.later (.of st e2.wd)) @fun c b' u' H3 d3 st3 r3 e3 h3 => ?_
                obtain ⟨hz, h3⟩ := T.AllW.ite h3
                have rv3 := rv2.step st3 e2.st e2.ok
                refine ⟨by rw [sizeLine_eq]; show 2 ≤ 16777216; decide, fun p hp => ?_⟩
                have st4 : SG c c H3 (L2.upd H3 p (.tup [v, u'])) := .new hp
                have e4 := e3.step st4 (e3.st.new hp)
                have hjw' : (ρ.set i (.own (ws.eraseIdx k.toNat)))[j]? = some (.own as) := by rw [List.getElem?_set_ne ne]; exact hjw
                obtain ⟨n1', n2', us2, n3', n4'⟩ := e4.own j as hjw'
                have rt : Rep X.K c (L2.upd H3 p (.tup [v, u'])) (.tup [y, b']) (.ref p) := .tup (.of upd_same) (.cons (rv3.step st4 e3.st e3.ok) (.cons (r3.step st4 e3.st e3.ok) .nil))
                obtain ⟨e5, fw5⟩ := e4.ownUpd hjw' (n4'.append (.cons rt .nil))
                unfold roomOk at hz
                refine ⟨_, _, _, rfl, rfl, n3', by rw [← n4'.length, sizeLine_eq]; exact of_decide_eq_true hz, ?_⟩
                exact h3 _ _ _ _ ((Fwd.of st4 e3.wd).trans fw5) e5
              · cases hp'
            · cases hp'
          · exact h1.elim
        | _ => exact h1.elim
  · exact q.elim
end
end PF
namespace PF
open PySem PySem.Spec PyProof.Rows L2
section
variable {K : PySem.W.Frag} {c : Cc} {d : Dw} {oa : Nat → Addr} {ρ : En} {σ : L2.St} {H H' : Hp} {D : Addr} {i : Nat}
theorem EnvOk.mineD {xs : List (Key × V)} (e : EnvOk K Γ c d oa ρ σ H) (n : H D = none) : EnvOk K Γ (c.mine D) d oa ρ σ (L2.upd H D (.dK xs)) where
  ok := ⟨List.mem_cons_of_mem _ e.ok.inS, List.mem_cons_of_mem _ e.ok.inla, List.mem_cons_of_mem _ e.ok.inca⟩
  st := e.st.mine n
  av := (e.more n).av
  len := e.len
  val := fun i w h => by
    obtain ⟨v, h1, h2⟩ := e.val i w h
    exact ⟨v, h1, (h2.more n (.new n) e.st e.ok).mine⟩
  m := ⟨fun b hb => by
      rcases List.mem_cons.mp hb with rfl | hb
      · exact List.mem_cons_self ..
      · exact List.mem_cons_of_mem _ (e.m.inA b hb), fun b hb => by
      rcases List.mem_cons.mp hb with rfl | hb
      · exact st_ne (c := c) e.st n
      · exact e.m.nst b hb, fun b hb => by
      rcases List.mem_cons.mp hb with rfl | hb
      · exact ⟨_, upd_same, .inr ⟨_, rfl⟩⟩
      · obtain ⟨ys, h, w⟩ := e.m.ls b hb
        exact ⟨ys, by rw [upd_ne (ne_of_none h n)]; exact h, w⟩⟩
  own := fun i ws h => by
    obtain ⟨h1, h3, vs, h4, h5⟩ := e.own i ws h
    exact ⟨List.mem_cons_of_mem _ h1, h3, vs, by rw [upd_ne (ne_of_none h4 n)]; exact h4, (h5.more n (.new n) e.st e.ok).mine⟩
  inj := e.inj
  odc := fun i ws h => by
    obtain ⟨h1, h3, vs, h4, h5⟩ := e.odc i ws h
    exact ⟨List.mem_cons_of_mem _ h1, h3, vs, by rw [upd_ne (ne_of_none h4 n)]; exact h4, h5.1, (h5.2.more n (.new n) e.st e.ok).mine⟩
  ido := e.ido
  tT := e.tT
  cC := e.cC
  kK := e.kK
/-- a slot takes a dict of the frame's own -/
theorem EnvOk.odcSet {ws : List (Key × W)} {vs : List (Key × V)} (e : EnvOk K Γ c d oa ρ σ H) (hm : D ∈ c.M) (hl : H D = some (.dK vs)) (rl : RepD K c H ws vs) (ho : ∀ (j : Nat) (us : List (Key × W)), j ≠ i → ρ[j]? = some (.odc us) → oa j ≠ D) :
    EnvOk K Γ c d (fun j => if j = i then D else oa j) (ρ.set i (.odc ws)) (σ.set i (some (.ref D))) H where
  ok := e.ok
  st := e.st
  av := e.av
  m := e.m
  len := by rw [List.length_set, List.length_set]; exact e.len
  val := fun j x h => by
    rcases getElem?_set_or h with ⟨ej, ex⟩ | ⟨n, h'⟩
    · cases ex
    · obtain ⟨u, h1, h2⟩ := e.val j x h'
      exact ⟨u, by rw [List.getElem?_set_ne (Ne.symm n)]; exact h1, h2⟩
  odc := fun j x h => by
    rcases getElem?_set_or h with ⟨ej, ex⟩ | ⟨n, h'⟩
    · cases ex
      subst ej
      have hj : j < σ.length := by
        by_cases hl : j < ρ.length
        · rw [← e.len]
          exact hl
        · rw [List.getElem?_eq_none (by simpa using hl)] at h
          cases h
      rw [if_pos rfl]
      exact ⟨hm, by rw [List.getElem?_set_self hj], vs, hl, rl⟩
    · obtain ⟨h1, h3, h4⟩ := e.odc j x h'
      rw [if_neg n]
      exact ⟨h1, by rw [List.getElem?_set_ne (Ne.symm n)]; exact h3, h4⟩
  ido := fun a b x y h1 h2 he => by
    rcases getElem?_set_or h1 with ⟨ea, _⟩ | ⟨na, h1'⟩
    · rcases getElem?_set_or h2 with ⟨eb, _⟩ | ⟨nb, h2'⟩
      · rw [ea, eb]
      · rw [ea, if_pos rfl, if_neg nb] at he
        exact absurd he.symm (ho b y nb h2')
    · rcases getElem?_set_or h2 with ⟨eb, _⟩ | ⟨nb, h2'⟩
      · rw [eb, if_pos rfl, if_neg na] at he
        exact absurd he (ho a x na h1')
      · rw [if_neg na, if_neg nb] at he
        exact e.ido a b x y h1' h2' he
  own := fun j x h => by
    rcases getElem?_set_or h with ⟨ej, ex⟩ | ⟨n, h'⟩
    · cases ex
    · obtain ⟨h1, h3, h4⟩ := e.own j x h'
      rw [if_neg n]
      exact ⟨h1, by rw [List.getElem?_set_ne (Ne.symm n)]; exact h3, h4⟩
  inj := fun a b x y h1 h2 he => by
    rcases getElem?_set_or h1 with ⟨ea, ex⟩ | ⟨na, h1'⟩
    · cases ex
    · rcases getElem?_set_or h2 with ⟨eb, ex⟩ | ⟨nb, h2'⟩
      · cases ex
      · rw [if_neg na, if_neg nb] at he
        exact e.inj a b x y h1' h2' he
  tT := e.tT
  cC := e.cC
  kK := e.kK
theorem EnvOk.odcNe {a : Addr} (e : EnvOk K Γ c d oa ρ σ H) (n : H a = none) : ∀ (j : Nat) (us : List (Key × W)), j ≠ i → ρ[j]? = some (.odc us) → oa j ≠ a := fun j us _ h => by
  obtain ⟨_, _, zs, h4, _⟩ := e.odc j us h
  exact ne_of_none h4 n
/-- one of them is changed -/
theorem EnvOk.odcUpd {ws us : List (Key × W)} {ys : List (Key × V)} (e : EnvOk K Γ c d oa ρ σ H) (h : ρ[i]? = some (.odc ws)) (rl : RepD K c H us ys) :
    EnvOk K Γ c d oa (ρ.set i (.odc us)) σ (L2.upd H (oa i) (.dK ys)) ∧ Fwd K c H c (L2.upd H (oa i) (.dK ys)) := by
  obtain ⟨h1, h3, vs, h4, h5⟩ := e.odc i ws h
  have hA := e.m.inA _ h1
  have hn := e.m.nst _ h1
  have up : ∀ {w : W} {v : V}, Rep K c H w v → Rep K c (L2.upd H (oa i) (.dK ys)) w v := fun r => r.upd hA h4 (fun _ z => by cases z) (fun _ _ z => by cases z)
  have upl : ∀ {w : List W} {v : List V}, RepL K c H w v → RepL K c (L2.upd H (oa i) (.dK ys)) w v := fun r => r.upd hA h4 (fun _ z => by cases z) (fun _ _ z => by cases z)
  refine ⟨?_, rfl, rfl, rfl, rfl, rfl, rfl, List.prefix_rfl, fun b hb _ => hb, fun b hb => .inl hb, fun b o hb _ _ nm _ => ?_, fun b ps hb nm => ⟨#[], by rw [upd_ne (fun z => nm (by rw [z]; exact h1)), hb]; simp⟩, fun w v r => up r, fun a vs h => sqT_upd h4 (fun _ z => by cases z) (fun _ _ z => by cases z) h, fun b C dx fs hb _ => ⟨fs, by rw [upd_ne (ne_of hb h4 nofun)]; exact hb⟩⟩
  · exact {
      ok := e.ok
      st := e.st.updD hA hn h4
      av := fun b hb => by
        by_cases hb' : b = oa i
        · rw [hb']
          exact ⟨_, upd_same, .inr ⟨_, rfl⟩⟩
        · obtain ⟨o, h, w⟩ := e.av b hb
          exact ⟨o, by rw [upd_ne hb']; exact h, w⟩
      m := ⟨e.m.inA, e.m.nst, fun b hb => by
        by_cases hb' : b = oa i
        · rw [hb']
          exact ⟨_, upd_same, .inr ⟨_, rfl⟩⟩
        · obtain ⟨xs, h, w⟩ := e.m.ls b hb
          exact ⟨xs, by rw [upd_ne hb']; exact h, w⟩⟩
      len := by rw [List.length_set]; exact e.len
      val := fun j x hx => by
        rcases getElem?_set_or hx with ⟨ej, ex⟩ | ⟨n, h'⟩
        · cases ex
        · obtain ⟨u, g1, g2⟩ := e.val j x h'
          exact ⟨u, g1, up g2⟩
      odc := fun j x hx => by
        rcases getElem?_set_or hx with ⟨ej, ex⟩ | ⟨n, h'⟩
        · cases ex
          subst ej
          exact ⟨h1, h3, ys, upd_same, rl.1, upl rl.2⟩
        · obtain ⟨g1, g3, zs, g4, g5⟩ := e.odc j x h'
          exact ⟨g1, g3, zs, by rw [upd_ne (fun z => n (e.ido j i x ws h' h z))]; exact g4, g5.1, upl g5.2⟩
      ido := fun a b x y g1 g2 he => by
        have f : ∀ {a : Nat} {x : List (Key × W)}, (ρ.set i (.odc us))[a]? = some (.odc x) → ∃ x', ρ[a]? = some (.odc x') := fun g => by
          rcases getElem?_set_or g with ⟨ea, _⟩ | ⟨_, g'⟩
          · exact ⟨ws, by rw [ea]; exact h⟩
          · exact ⟨_, g'⟩
        obtain ⟨x', f1⟩ := f g1
        obtain ⟨y', f2⟩ := f g2
        exact e.ido a b x' y' f1 f2 he
      own := fun j x hx => by
        rcases getElem?_set_or hx with ⟨ej, ex⟩ | ⟨n, h'⟩
        · cases ex
        · obtain ⟨g1, g3, zs, g4, g5⟩ := e.own j x h'
          have ne : oa j ≠ oa i := fun z => by
            rw [z, h4] at g4
            cases g4
          exact ⟨g1, g3, zs, by rw [upd_ne ne]; exact g4, upl g5⟩
      inj := fun a b x y g1 g2 he => by
        rcases getElem?_set_or g1 with ⟨_, ex⟩ | ⟨_, g1'⟩
        · cases ex
        · rcases getElem?_set_or g2 with ⟨_, ex⟩ | ⟨_, g2'⟩
          · cases ex
          · exact e.inj a b x y g1' g2' he
      tT := e.tT
      cC := e.cC
      kK := e.kK }
  · rw [upd_ne (fun z => nm (by rw [z]; exact h1))]
    exact hb
end
def sOwnD (i : Nat) : En → T (Fl × En) := fun ρ => .ok (.nx, ρ.set i (.odc []))
theorem tr_ownD {X : Cx} {E : XK} {i : Nat} {x : Str} {pos pos' p2 : Pos} (hN : X.N.Nodup) (hi : X.N[i]? = some x) (hx : L2.Loc X.env.scope x) (hs : swapsWith (.Dict [] [] p2) (some (.Name x pos')) pos.line X.env = pure false := by rfl)
    (hf : X.fn x = true ∨ X.env.scope.names.lookup x = some .local := by first | exact .inl rfl | exact .inr rfl | assumption) : TrS Γ X E (.Assign [.Name x pos'] (.Dict [] [] p2) pos) (sOwnD i) := ps_imp (ps_set hN hi hx pe_dnewK hs hf) fun D σ H q => by
  obtain ⟨c, d, oa, ρ, e, q⟩ := q
  intro p hp
  exact q _ _ _ _ (Fwd.mine hp e.wd) ((e.mineD hp).odcSet (ws := []) (vs := []) (List.mem_cons_self ..) upd_same ⟨rfl, .nil⟩ (EnvOk.odcNe e hp))
@[irreducible] def dRoom (ws : List (Key × W)) : Bool := decide (ws.length < 16777216)
def sDPutO (i : Nat) (fk fv : En → T W) : En → T (Fl × En) := fun ρ => match ρ[i]? with
  | some (.odc ws) => (fv ρ).bind fun v => (fk ρ).bind fun k => match keyW k with
    | some kk => if dRoom ws then .ok (.nx, ρ.set i (.odc (putW ws kk v))) else .bad
    | none => .bad
  | _ => .bad
theorem tr_dput {X : Cx} {E : XK} {o x e : Expr} {fk fv : En → T W} {i : Nat} {pos pos2 : Pos} (hu : X.A.units + 1 < cLine) (ho : PE X o (tVar i)) (hi : TrE Γ X (wOf E) x fk) (he : TrE Γ X (wOf E) e fv)
    (hs : swapsWith e (some (.Subscript o x pos2)) pos.line X.env = pure false := by rfl) :
    TrS Γ X E (.Assign [.Subscript o x pos2] e pos) (sDPutO i fk fv) := ps_imp (ps_dput hu ho hi he hs) fun D σ H q => by
  obtain ⟨c, d, oa, ρ, e, q⟩ := q
  unfold sDPutO at q
  split at q
  · rename_i ws hw
    refine lift_thenS (P := fun c H => PSq X.K Γ c H D) e q (fun st p => p.later (.of st e.wd)) @fun c w v H1 d1 _ r1 e1 h1 => ?_
    obtain ⟨m1, m2, vs, m3, m4⟩ := e1.odc i ws hw
    refine ⟨_, m2, lift_thenS (P := fun c H => PSq X.K Γ c H D) e1 h1 (fun st p => p.later (.of st e1.wd)) @fun c k kv H2 d2 st2 r2 e2 h2 => ?_⟩
    cases hk : keyW k with
    | none =>
      rw [hk] at h2
      exact h2.elim
    | some kk =>
      rw [hk] at h2
      obtain ⟨hz, h2⟩ := T.AllW.ite h2
      have ek := r2.key hk
      subst ek
      obtain ⟨g1, g2, us, g3, g4⟩ := e2.odc i ws hw
      obtain ⟨e3, fw⟩ := e2.odcUpd hw (g4.put (k := kk) (r1.step st2 e1.st e1.ok))
      unfold dRoom at hz
      exact ⟨_, _, rfl, DPut.k g3 (by rw [← g4.len, sizeLine_eq]; exact of_decide_eq_true hz), h2 _ oa σ _ fw e3⟩
  · exact q.elim
def intKs : List Key → Option (List Int)
  | [] => some []
  | .inl i :: ks => (intKs ks).map (i :: ·)
  | .inr _ :: _ => none
theorem intKs_of : ∀ {ks : List Key} {ns : List Int}, intKs ks = some ns → ks = ns.map Sum.inl
  | [], ns, h => by
    cases h
    rfl
  | .inl i :: ks, ns, h => by
    unfold intKs at h
    cases hk : intKs ks with
    | none =>
      rw [hk] at h
      cases h
    | some ms =>
      rw [hk] at h
      cases h
      rw [intKs_of hk]
      rfl
  | .inr _ :: _, ns, h => by cases h
def sortedD : List W → T W
  | [.dct ks _] => match intKs ks with
    | some ns => if decide (ns.length < 64) then .ok (.lst ((sortI ns).map W.int)) else .bad
    | none => .bad
  | _ => .bad
theorem rep_intsL {K : PySem.W.Frag} {c : Cc} {H : Hp} : ∀ ns : List Int, RepL K c H (ns.map W.int) (ns.map V.int)
  | [] => .nil
  | n :: ns => .cons (.int n) (rep_intsL ns)
theorem sem_sortedD {K : PySem.W.Frag} : SemL K (fun xs H Q => ∃ (a : Addr) (kvs : List (Key × V)) (ks : List Int), xs = [.ref a] ∧ Rd H a (.dK kvs) ∧ kvs.map (·.1) = ks.map Sum.inl ∧ ks.length < 64 ∧
    ∀ (ys : List Int) (p : Addr), ys.Perm ks → ys.Pairwise (· ≤ ·) → H p = none → Q (.ref p) (L2.upd H p (.lst (ys.map V.int)))) sortedD := fun c d H x v Q E' wd rx q => by
  cases rx with
  | nil => exact q.elim
  | cons r rr =>
    cases rr with
    | cons _ _ => cases r <;> exact q.elim
    | nil =>
      cases r with
      | @dct a kvs ws n h rl =>
        unfold sortedD at q
        simp only at q
        cases hk : intKs (kvs.map (·.1)) with
        | none =>
          rw [hk] at q
          exact q.elim
        | some ns =>
          rw [hk] at q
          obtain ⟨hz, q⟩ := T.AllW.ite q
          refine ⟨a, kvs, ns, rfl, .inl h, intKs_of hk, of_decide_eq_true hz, fun ys p py as hp => ?_⟩
          have ey : ys = sortI ns := asc_uniq as (sortI_asc ns) (py.trans (sortI_perm ns).symm)
          subst ey
          exact PQ.lst wd q (rep_intsL _) hp
      | _ => exact q.elim
end PF
namespace PF
open PySem PySem.Spec PyProof.Rows L2
def wrI (w : W) : T W := .ok w
section
variable {X : Cx} {ns : List Nat} {c : Cc} {d : Dw} {H : Hp} {D : Ends} {n : Nat} {fs : List W} {cls : Value} {dx : Option Addr} {σ : L2.St} {Wo : WX} {E' : Dw → Nat → List W → Prop} {Q : VK} {j : Nat}
theorem wCl_set (hj : j < σ.length) (hD : ∀ (σ' : L2.St) (v : V) (H' : Hp), σ'[j]? = some (some v) → Q v H' → D.nx σ' H') (wd : Wd c d H) (rx : RepX X.K c H n fs cls dx) (hn : n ∈ ns) : ∀ {hds : List ExceptHandler} {hs : List Hd} {l : List Cla}, TrC X (.set j) ns hds hs l → (∀ x ∈ hs, ∀ i, x.io = some i → i < σ.length ∧ i ≠ j) → (hdlR hs n fs).AllW (PQ X.K c H Q) E' d → wCl X.K Wo D l cls dx σ H
  | _, _, _, .nil, _, q => q.elim
  | _, _, _, .cons (m := m) (io := io) (h := h) hc hi hio hm hms hsu r, hlt, q => by
    refine ⟨m n, by rw [rx.1]; exact hm n hn, fun hb a na => ?_, fun hb => ?_⟩
    · have q1 : (h n fs).AllW (PQ X.K c H Q) E' d := by
        have q2 : (if m n then h n fs else _ : T W).AllW (PQ X.K c H Q) E' d := q
        rw [if_pos hb] at q2
        exact q2
      clear q
      refine ⟨c, d, n, fs, hms n hn hb, wd, fun i hio' => ?_, rx, E', T.AllW.imp (fun d1 w1 y => ?_) (fun _ _ _ y => y) q1⟩
      · subst hio'
        show (σ.set i (some (.ref a)))[i]? = _
        rw [List.getElem?_set_self (hlt _ (List.mem_cons_self ..) i rfl).1]
      · intro _ v H1 st so rv
        have y1 := y v H1 st so rv
        cases io with
        | none => exact hD _ v H1 (List.getElem?_set_self hj) y1
        | some i =>
          have hi2 := hlt _ (List.mem_cons_self ..) i rfl
          refine hD _ v H1 ?_ y1
          show (((σ.set i (some (.ref a))).set j (some v)).set i none)[j]? = _
          rw [List.getElem?_set_ne hi2.2, List.getElem?_set_self (by rw [List.length_set]; exact hj)]
    · have q : (if m n then h n fs else hdlR _ n fs : T W).AllW (PQ X.K c H Q) E' d := q
      rw [if_neg (by rw [hb]; decide)] at q
      exact wCl_set hj hD wd rx hn r (fun x hx => hlt x (List.mem_cons_of_mem _ hx)) q
end
section
variable {P : Program} {w : World} {K : PySem.W.Frag} {mg : Str → Option Value} {base : Heap} {Ng : List Str} {x a y : Str} {sg : Scope} {g : Addr} {cdg : Value} {ns : List Nat} {hs : List Hd} {h0 : ExceptHandler} {hds : List ExceptHandler} {j : Nat}
theorem hears_S {p1 p2 p3 p4 p5 p6 p7 : Pos} (hN : Ng.Nodup) (h0' : ∀ f : Addr, (L2.start Ng [V.ref f])[0]? = some (some (V.ref f))) (hj0 : Ng[j]? = some y) (hjl : j < Ng.length) (hyl : sg.names.lookup y = some .local) (hl : ∀ x ∈ hs, ∀ i, x.io = some i → i < Ng.length ∧ i ≠ j) (hlen : ∀ f : Addr, (L2.start Ng [V.ref f]).length = Ng.length)
    (hsw : ∀ env : PySem.Env, swapsWith (.Call (.Name a p1) [] [] p2) (some (.Name y p3)) p4.line env = pure false)
    (hd : (y == ("__debug__" : Str)) = false) (hcd : (y == ("__classdict__" : Str)) = false)
    (hC : ∀ (A : Around) (stack : List PySem.Env) (s : Shared) (H : Hp), ∃ l, TrC (heCx P w K mg base Ng x sg g cdg A stack s H).nox (.set j) ns (h0 :: hds) hs l) :
    Hears P w K mg base Ng x sg g cdg [.Try [.Assign [.Name y p3] (.Call (.Name a p1) [] [] p2) p4] (h0 :: hds) [] [] p5, .Return (some (.Name y p6)) p7] a wrI ns hs := by
  intro q A stack f c' s H Q c d t tl E' htl act hco wd ht
  obtain ⟨l, hC⟩ := hC A stack s H
  refine ⟨_, pss_cons (ps_tryM (X := (heCx P w K mg base Ng x sg g cdg A stack s H).nox) (Wo := fun _ _ _ _ => False) rfl rfl hN LamX.takes0
    (tb := fun W => tAsg (fun σZ HZ Q' => ∃ Ech : XK, (∀ cls d H', Ech cls d H' → W cls d σZ H') ∧ σZ[0]? = some (some (.ref f)) ∧ HZ c' = some (LamX.CodeO c' q) ∧ tl Ech HZ Q') (gName j))
    (fun W pn xe tk _ => pss_one (ps_set hN hj0 (.inl hyl) ⟨fun pins s' σZ HZ Q' I h => ?_⟩ (hsw _) (.inr hyl))) hC.ok) (pss_one (ps_ret (pe_var (i := j) hj0 (.inl hyl) hd hcd))), ?_⟩
  · obtain ⟨Ech, h1, h2, h3, h4⟩ := h
    exact (act W pn xe Ech p1 p2 tk).run pins s' σZ HZ Q' I ⟨h1, h2, h3, h4⟩
  · refine ⟨fun cls dx H' => wCl K (fun _ _ _ _ => False) { nx := fun σ1 H1 => tRet (tVar j) { nx := fun _ H' => Q .non H', rt := Q } σ1 H1, rt := Q } l cls dx (L2.start Ng [.ref f]) H', fun _ _ _ z => z, h0' f, hco, htl _ _ (T.AllW.imp (fun d1 w1 y => ?_) (fun d1 n fs y => ?_) (T.allW_catch.mp ht))⟩
    · intro _ v H1 st so rv
      exact ⟨v, List.getElem?_set_self (by rw [hlen]; exact hjl), y v H1 st so rv⟩
    · intro _ cls dx H1 st so rx
      obtain ⟨hn, y⟩ := T.AllW.ite y
      exact wCl_set (X := (heCx P w K mg base Ng x sg g cdg A stack s H).nox) (Q := Q) (D := { nx := fun σ1 H1 => tRet (tVar j) { nx := fun _ H' => Q .non H', rt := Q } σ1 H1, rt := Q }) (by rw [hlen]; exact hjl) (fun σ' v H' h1 h2 => ⟨v, h1, h2⟩) (wd.step st so) rx (List.contains_iff_mem.mp hn) hC (fun x hx i hi => by rw [hlen]; exact hl x hx i hi) (T.AllW.imp (fun _ _ z => z.later st) (fun _ _ _ z => z) y)
end
theorem units1 {n : Nat} (h : n + 65 < cLine) : n + 1 < cLine := Nat.lt_of_le_of_lt (Nat.add_le_add_left (by decide) _) h
end PF
namespace PF
open PySem PySem.Spec PyProof.Rows L2
theorem tuple_mul0 (l : Addr) (a : Value) (r : List Value) (n : Nat) (dd : Option Addr) (sl : Array (Option Value)) (u : Tok) :
    Meets (Builtin.«tuple.__mul__» ⟨[.ref l, .int 0 u], []⟩) (fun _ R s => s.heap.get? l = some { cls := .type "tuple", dict := dd, data := .seq (a :: r).toArray n, slots := sl } ∧ R (.ok (.ret (Value.ref s.heap.objs.size))) { s with heap := s.heap.push { cls := Value.type "tuple", data := Data.seq #[] }, toks := s.toks }) :=
  .of_wp fun prog w A R s h => by
    obtain ⟨hp, g, d, tk, os⟩ := s
    obtain ⟨hl, h⟩ := h
    have f1 := AutoSeq1.idx_int
    wp_walk using wpAny_loadPart' hl
    exact ⟨_, rfl, h⟩
def rRep0 (K : PySem.W.Frag) : R2 := fun x y H Q => ∃ l xs, x = .ref l ∧ y = .int 0 ∧ SqT K H l xs ∧ xs ≠ [] ∧ ∀ p, H p = none → Q (.ref p) (L2.upd H p (.tup []))
theorem op_rep0 {X : Cx} : OpR X (binaryOp .Mult) (rRep0 X.K) := by
  intro pins s σ H x y v u Q I rx ry h
  obtain ⟨l, xs, rfl, rfl, hT, hne, q⟩ := h
  cases rx
  obtain ⟨t, rfl⟩ := ry
  obtain ⟨its, r, ⟨⟨cls, dd, data, sl⟩, ho, hc, n, hd⟩, hs⟩ := I.tuple hT
  simp only at hc hd
  subst hc hd
  cases its with
  | nil =>
    cases r
    exact absurd rfl hne
  | cons a rest =>
    exact wpAny_binaryOp_repeat_ref (T := "tuple") (U := "int") (by decide) ⟨_, ho, rfl⟩ (fun s' => typeIs_int s' 0 t) noFill_tuple_mul F.fills_int_mul F.slot_int_rmul repeat_tuple F.slot_int_index.lookup
      (call_meets F.slot_int_rmul (typeIs_int s 0 t) F.entry_int_rmul (F.args_int_rmul_2 _ _) (int_rmul_tuple 0 t l (a :: rest).toArray n dd sl)
        ⟨ho, rfl, ⟨_, ho, rfl⟩, call_meets F.slot_tuple_mul ⟨_, ho, rfl⟩ F.entry_tuple_mul (F.args_tuple_mul_2 _ _) (tuple_mul0 l a rest n dd sl t) ⟨ho, ⟨.ref s.heap.objs.size, L2.upd H s.heap.objs.size (.tup []), I.laid (t' := s.toks) (o := .tup []) (fun b ob q => Heap.get?_push_of_some _ q) (Nat.le_refl _) ⟨by simp, [], .nil, IsTup.new _ _⟩, rfl, q _ (I.hok.fresh (Nat.le_refl _))⟩⟩⟩)
def mul0 : W → W → T W
  | .tup (_ :: _), .int 0 => .ok (.tup [])
  | _, _ => .bad
theorem sem_mul0 {K : PySem.W.Frag} : Sem2 K (rRep0 K) mul0 := fun c d H x y v u Q E' wd rx ry q => by
  cases rx with
  | tup hq rl =>
    cases rl with
    | nil => exact q.elim
    | cons r rr =>
      cases ry with
      | int k =>
        by_cases hk : k = 0
        · subst hk
          exact ⟨_, _, rfl, rfl, hq, by simp, fun p hp => PQ.tup wd q .nil hp⟩
        · have nb : ∀ (w : W) (ws : List W), mul0 (.tup (w :: ws)) (.int k) = .bad := fun w ws => by
            unfold mul0
            split
            · rename_i e
              cases e
              exact absurd rfl hk
            · rfl
          rw [nb] at q
          exact q.elim
      | _ => exact q.elim
  | _ => exact q.elim
def mulTZ (x y : W) : T W := match y with
  | .int 0 => mul0 x (.int 0)
  | y => mulTA x y
theorem sem_mulTZ {K : PySem.W.Frag} : Sem2 K (fun x y H Q => rRep0 K x y H Q ∨ (rRep1 K x y H Q ∨ rRepT K x y H Q)) mulTZ := sem_or1 sem_mul0 sem_mulTA fun x y => by
  unfold mulTZ
  split
  · exact .inl rfl
  · exact .inr rfl
theorem op_mulTZ {X : Cx} : OpR X (binaryOp .Mult) (fun x y H Q => rRep0 X.K x y H Q ∨ (rRep1 X.K x y H Q ∨ rRepT X.K x y H Q)) := opR_or op_rep0 op_mulTA
end PF
namespace PF
open PySem PySem.Spec PyProof.Rows L2
/-- the objects at as are told, as they stand in h -/
def lay (H : Hp) (as : List Addr) (h : Heap) : Hp := fun b => if b ∈ as then (h.get? b).map (ObX b) else H b
def era (H : Hp) (as : List Addr) : Hp := fun b => if b ∈ as then none else H b
theorem lay_in {H : Hp} {as : List Addr} {h : Heap} {b : Addr} {o : Obj} (m : b ∈ as) (e : h.get? b = some o) : lay H as h b = some (ObX b o) := by
  unfold lay
  rw [if_pos m, e]
  rfl
theorem lay_out {H : Hp} {as : List Addr} {h : Heap} {b : Addr} (m : b ∉ as) : lay H as h b = H b := by
  unfold lay
  rw [if_neg m]
theorem era_in {H : Hp} {as : List Addr} {b : Addr} (m : b ∈ as) : era H as b = none := by
  unfold era
  rw [if_pos m]
theorem era_out {H : Hp} {as : List Addr} {b : Addr} (m : b ∉ as) : era H as b = H b := by
  unfold era
  rw [if_neg m]
theorem era_some {H : Hp} {as : List Addr} {b : Addr} {o : HO} (e : era H as b = some o) : b ∉ as ∧ H b = some o := by
  by_cases m : b ∈ as
  · rw [era_in m] at e
    cases e
  · rw [era_out m] at e
    exact ⟨m, e⟩
theorem obX_ok {P : Program} {w : World} {H : Hp} {h : Heap} {a : Addr} {o : Obj} (e : h.get? a = some o) : ObjOk P w H h a (ObX a o) := ⟨e, ⟨o, e⟩, fun _ _ q k => k o q⟩
theorem obX_at {P : Program} {w : World} {H : Hp} {h : Heap} {a : Addr} {o : Obj} (hok : HOk P w H h) (e : H a = some (ObX a o)) : h.get? a = some o := (hok a _ e).1
section
variable {P : Program} {w : World} {H H' : Hp} {h h' B : Heap} {as : List Addr} {fs : List Addr}
/-- told at all of as, as they stand in h -/
def Lent (H : Hp) (as : List Addr) (h : Heap) : Prop := ∀ a ∈ as, ∃ o, h.get? a = some o ∧ H a = some (ObX a o)
theorem hok_era (hok : HOk P w H' h') (l : Lent H' as h) : HOk P w (era H' as) h' := fun b o e => by
  obtain ⟨m, e⟩ := era_some e
  have no : ∀ c u, H' c = some u → (∀ φ, u ≠ .ext φ) → c ∉ as := fun c u q n z => by
    obtain ⟨o, _, q2⟩ := l c z
    rw [q] at q2
    exact n _ (Option.some.inj q2)
  exact (hok b o e).stay (fun _ _ _ q => q) (fun c q => by rw [era_out (no c _ q nofun)]; exact q) fun c xs q => by rw [era_out (no c _ q nofun)]; exact q
theorem hok_lay (hok : HOk P w H h') (n : ∀ a ∈ as, H a = none) (st : ∀ a ∈ as, ∃ o, h.get? a = some o ∧ h'.get? a = some o) : HOk P w (lay H as h) h' := fun b o e => by
  by_cases m : b ∈ as
  · obtain ⟨u, e1, e2⟩ := st b m
    rw [lay_in m e1] at e
    cases e
    exact obX_ok e2
  · rw [lay_out m] at e
    have no : ∀ c u, H c = some u → c ∉ as := fun c u q z => by
      rw [n c z] at q
      cases q
    exact (hok b o e).stay (fun _ _ _ q => q) (fun c q => by rw [lay_out (no c _ q)]; exact q) fun c xs q => by rw [lay_out (no c _ q)]; exact q
/-- lent, then taken back -/
theorem un_back (n : ∀ a ∈ as, H a = none) (st : ∀ a ∈ as, ∃ o, h.get? a = some o) (nf : ∀ a ∈ as, a ∉ fs) (un : Un fs [] (lay H as h) H' h h') (hok : HOk P w H' h') (l : Lent H' as h) : Un fs [] H (era H' as) h h' where
  keep := fun b o e1 e2 e3 e4 => by
    by_cases m : b ∈ as
    · obtain ⟨u, q1, q2⟩ := l b m
      rw [e1] at q1
      cases q1
      exact obX_at hok q2
    · exact un.keep b o e1 (by rw [lay_out m]; exact e2) e3 e4
  slot := fun b o e1 e2 e3 e4 => un.slot b o e1 (by rw [lay_out (fun z => nf b z e3)]; exact e2) e3 e4
  free := fun b o e1 e2 e4 => by
    by_cases m : b ∈ as
    · exact era_in m
    · rw [era_out m]
      exact un.free b o e1 (by rw [lay_out m]; exact e2) e4
  there := un.there
  tups := fun b xs q => by
    have m : b ∉ as := fun z => by rw [n b z] at q; cases q
    rw [era_out m]
    exact un.tups b xs (by rw [lay_out m]; exact q)
  frzs := fun b o xs q => by
    have m : b ∉ as := fun z => by rw [n b z] at q; cases q
    rw [era_out m]
    exact un.frzs b o xs (by rw [lay_out m]; exact q)
  tbls := fun b ps q => by
    have m : b ∉ as := fun z => by rw [n b z] at q; cases q
    rw [era_out m]
    exact un.tbls b ps (by rw [lay_out m]; exact q)
theorem ub_back (n : ∀ a ∈ as, H a = none) (nf : ∀ a ∈ as, a ∉ fs) (un : UB fs (lay H as h) H' h B h') (hok : HOk P w H' B) (l : Lent H' as h) : UB fs H (era H' as) h B h' where
  keep := fun b o e1 e2 e3 => by
    by_cases m : b ∈ as
    · obtain ⟨u, q1, q2⟩ := l b m
      rw [e1] at q1
      cases q1
      exact obX_at hok q2
    · exact un.keep b o e1 (by rw [lay_out m]; exact e2) e3
  slot := un.slot
  free := fun b o e1 e2 => by
    by_cases m : b ∈ as
    · exact era_in m
    · rw [era_out m]
      exact un.free b o e1 (by rw [lay_out m]; exact e2)
  there := un.there
  tups := fun b xs q => by
    have m : b ∉ as := fun z => by rw [n b z] at q; cases q
    rw [era_out m]
    exact un.tups b xs (by rw [lay_out m]; exact q)
  frzs := fun b o xs q => by
    have m : b ∉ as := fun z => by rw [n b z] at q; cases q
    rw [era_out m]
    exact un.frzs b o xs (by rw [lay_out m]; exact q)
  tbls := fun b ps q => by
    have m : b ∉ as := fun z => by rw [n b z] at q; cases q
    rw [era_out m]
    exact un.tbls b ps (by rw [lay_out m]; exact q)
theorem cr_back {outer : List PySem.Env} {s s' : Shared} {Q : VK} {E : XK} {r : Result} (n : ∀ a ∈ as, H a = none) (st : ∀ a ∈ as, ∃ o, s.heap.get? a = some o) (nf : ∀ a ∈ as, a ∉ frs outer)
    (hc : CR (L2.CX P w) outer P w (lay H as s.heap) s (fun v H' => Lent H' as s.heap ∧ Q v (era H' as)) (fun cls d H' => Lent H' as s.heap ∧ E cls d (era H' as)) r s') : CR (L2.CX P w) outer P w H s Q E r s' := by
  match r, hc with
  | .ok (.ret u), hc =>
    obtain ⟨v, H', os, bare, un, hok, rv, l, q⟩ := hc
    exact ⟨v, era H' as, os, bare, un_back n st nf un hok l, hok_era hok l, rv, q⟩
  | .ok .next, hc => exact False.elim hc
  | .ok .brk, hc => exact False.elim hc
  | .ok .cont, hc => exact False.elim hc
  | .error e, hc =>
    obtain ⟨a, B, H', cls, d, rfl, fl, hok, ub, na, os, ag, l, q⟩ := hc
    refine ⟨a, B, era H' as, cls, d, rfl, fl, hok_era hok l, ub_back n nf ub hok l, ?_, os, ag, q⟩
    unfold era
    split
    · rfl
    · exact na
/-- taken out, then told again -/
theorem un_fore (l : Lent H as h) (nf : ∀ a ∈ as, a ∉ fs) (un : Un fs [] (era H as) H' h h') : Un fs [] H (lay H' as h) h h' where
  keep := fun b o e1 e2 e3 e4 => un.keep b o e1 (by
    by_cases m : b ∈ as
    · exact era_in m
    · rw [era_out m]; exact e2) e3 e4
  slot := fun b o e1 e2 e3 e4 => un.slot b o e1 (by rw [era_out (fun z => nf b z e3)]; exact e2) e3 e4
  free := fun b o e1 e2 e4 => by
    have m : b ∉ as := fun z => by
      obtain ⟨_, _, q⟩ := l b z
      rw [e2] at q
      cases q
    rw [lay_out m]
    exact un.free b o e1 (by rw [era_out m]; exact e2) e4
  there := un.there
  tups := fun b xs q => by
    have m : b ∉ as := fun z => by
      obtain ⟨_, _, q2⟩ := l b z
      rw [q] at q2
      cases q2
    rw [lay_out m]
    exact un.tups b xs (by rw [era_out m]; exact q)
  frzs := fun b o xs q => by
    have m : b ∉ as := fun z => by
      obtain ⟨_, _, q2⟩ := l b z
      rw [q] at q2
      cases q2
    rw [lay_out m]
    exact un.frzs b o xs (by rw [era_out m]; exact q)
  tbls := fun b ps q => by
    have m : b ∉ as := fun z => by
      obtain ⟨_, _, q2⟩ := l b z
      rw [q] at q2
      cases q2
    rw [lay_out m]
    exact un.tbls b ps (by rw [era_out m]; exact q)
theorem ub_fore (l : Lent H as h) (un : UB fs (era H as) H' h B h') : UB fs H (lay H' as h) h B h' where
  keep := fun b o e1 e2 e3 => un.keep b o e1 (by
    by_cases m : b ∈ as
    · exact era_in m
    · rw [era_out m]; exact e2) e3
  slot := un.slot
  free := fun b o e1 e2 => by
    have m : b ∉ as := fun z => by
      obtain ⟨_, _, q⟩ := l b z
      rw [e2] at q
      cases q
    rw [lay_out m]
    exact un.free b o e1 (by rw [era_out m]; exact e2)
  there := un.there
  tups := fun b xs q => by
    have m : b ∉ as := fun z => by
      obtain ⟨_, _, q2⟩ := l b z
      rw [q] at q2
      cases q2
    rw [lay_out m]
    exact un.tups b xs (by rw [era_out m]; exact q)
  frzs := fun b o xs q => by
    have m : b ∉ as := fun z => by
      obtain ⟨_, _, q2⟩ := l b z
      rw [q] at q2
      cases q2
    rw [lay_out m]
    exact un.frzs b o xs (by rw [era_out m]; exact q)
  tbls := fun b ps q => by
    have m : b ∉ as := fun z => by
      obtain ⟨_, _, q2⟩ := l b z
      rw [q] at q2
      cases q2
    rw [lay_out m]
    exact un.tbls b ps (by rw [era_out m]; exact q)
theorem cr_fore {outer : List PySem.Env} {s s' : Shared} {Q : VK} {E : XK} {r : Result} (l : Lent H as s.heap) (nf : ∀ a ∈ as, a ∉ frs outer)
    (hc : CR (L2.CX P w) outer P w (era H as) s (fun v H' => (∀ a ∈ as, H' a = none) → Q v (lay H' as s.heap)) (fun cls d H' => (∀ a ∈ as, H' a = none) → E cls d (lay H' as s.heap)) r s') : CR (L2.CX P w) outer P w H s Q E r s' := by
  match r, hc with
  | .ok (.ret u), hc =>
    obtain ⟨v, H', os, bare, un, hok, rv, q⟩ := hc
    have fr : ∀ a ∈ as, H' a = none := fun a m => by
      obtain ⟨o, e, _⟩ := l a m
      exact un.free a o e (era_in m) (by simp)
    refine ⟨v, lay H' as s.heap, os, bare, un_fore l nf un, hok_lay hok fr fun a m => ?_, rv, q fr⟩
    obtain ⟨o, e, _⟩ := l a m
    exact ⟨o, e, un.keep a o e (era_in m) (nf a m) (by simp)⟩
  | .ok .next, hc => exact False.elim hc
  | .ok .brk, hc => exact False.elim hc
  | .ok .cont, hc => exact False.elim hc
  | .error e, hc =>
    obtain ⟨a, B, H', cls, d, rfl, fl, hok, ub, na, os, ag, q⟩ := hc
    have fr : ∀ a ∈ as, H' a = none := fun a m => by
      obtain ⟨o, e, _⟩ := l a m
      exact ub.free a o e (era_in m)
    have kp : ∀ a ∈ as, ∃ o, s.heap.get? a = some o ∧ B.get? a = some o := fun a m => by
      obtain ⟨o, e, _⟩ := l a m
      exact ⟨o, e, ub.keep a o e (era_in m) (nf a m)⟩
    refine ⟨a, B, lay H' as s.heap, cls, d, rfl, fl, hok_lay hok fr kp, ub_fore l ub, ?_, os, ag, q fr⟩
    have m : a ∉ as := fun z => by
      obtain ⟨o, _, e⟩ := kp a z
      rw [fl.2.1] at e
      cases e
    rw [lay_out m]
    exact na
end
end PF
namespace PF
open PySem PySem.Spec PyProof.Rows L2
abbrev adr (cl : Cl) : List Addr := cl.map fun x => x.2
section
variable {K : PySem.W.Frag} {c : Cc} {d : Dw} {H H' : Hp}
mutual
theorem Rep.mono (k : ∀ b o, H b = some o → H' b = some o) : ∀ {w : W} {v : V}, Rep K c H w v → Rep K c H' w v
  | _, _, .non => .non
  | _, _, .bl b => .bl b
  | _, _, .int i => .int i
  | _, _, .str x => .str x
  | _, _, .tup h r => .tup (by
      rcases h with (h | ⟨o, h⟩) | h
      · exact .inl (.inl (k _ _ h))
      · exact .inl (.inr ⟨o, k _ _ h⟩)
      · exact .inr h) (RepL.mono k r)
  | _, _, .lst n h r => .lst n (k _ _ h) (RepL.mono k r)
  | _, _, .dct n h r => .dct n (k _ _ h) (RepL.mono k r)
  | _, _, .obj h => .obj h
  | _, _, .dcu n h r => .dcu n (k _ _ h) (RepL.mono k r)
  | _, _, .scr h => .scr (h.imp (fun ⟨n, r⟩ => ⟨n, r.imp (fun e => k _ _ e) fun ⟨o, e⟩ => ⟨o, k _ _ e⟩⟩) id)
  | _, _, .stt => .stt
  | _, _, .lam h => .lam (h.kp ⟨fun b φ e => k _ _ e, fun b φ e => k _ _ e⟩)
  | _, _, .clo h g n m pl r => .clo (h.kp ⟨fun b φ e => k _ _ e, fun b φ e => k _ _ e⟩) g n (m.kp ⟨fun b φ e => k _ _ e, fun b φ e => k _ _ e⟩) pl (RepL.mono k r)
  | _, _, .exo h1 h2 h3 r => .exo (k _ _ h1) (k _ _ h2) h3 (RepL.mono k r)
theorem RepL.mono (k : ∀ b o, H b = some o → H' b = some o) : ∀ {ws : List W} {vs : List V}, RepL K c H ws vs → RepL K c H' ws vs
  | _, _, .nil => .nil
  | _, _, .cons h r => .cons (Rep.mono k h) (RepL.mono k r)
end
mutual
theorem Rep.plain (k : ∀ b o, H b = some o → (∀ φ, o ≠ .ext φ) → H' b = some o) : ∀ {w : W} {v : V}, PF.plain w = true → Rep K c H w v → Rep K c H' w v
  | _, _, _, .non => .non
  | _, _, _, .bl b => .bl b
  | _, _, _, .int i => .int i
  | _, _, _, .str x => .str x
  | _, _, p, .tup h r => .tup (by
      rcases h with (h | ⟨o, h⟩) | h
      · exact .inl (.inl (k _ _ h nofun))
      · exact .inl (.inr ⟨o, k _ _ h nofun⟩)
      · exact .inr h) (RepL.plain k (by unfold PF.plain at p; exact p) r)
  | _, _, p, .lst n h r => .lst n (k _ _ h nofun) (RepL.plain k (by unfold PF.plain at p; exact p) r)
  | _, _, p, .dct n h r => .dct n (k _ _ h nofun) (RepL.plain k (by unfold PF.plain at p; exact p) r)
  | _, _, _, .obj h => .obj h
  | _, _, p, .dcu n h r => .dcu n (k _ _ h nofun) (RepL.plain k (by unfold PF.plain at p; exact p) r)
  | _, _, _, .scr h => .scr (h.imp (fun ⟨n, r⟩ => ⟨n, r.imp (fun e => k _ _ e nofun) fun ⟨o, e⟩ => ⟨o, k _ _ e nofun⟩⟩) id)
  | _, _, _, .stt => .stt
  | _, _, p, .lam h => by cases p
  | _, _, p, .clo h g n m pl r => by cases p
  | _, _, p, .exo h1 h2 h3 r => by cases p
theorem RepL.plain (k : ∀ b o, H b = some o → (∀ φ, o ≠ .ext φ) → H' b = some o) : ∀ {ws : List W} {vs : List V}, plainL ws = true → RepL K c H ws vs → RepL K c H' ws vs
  | _, _, _, .nil => .nil
  | _, _, p, .cons h r => by
    unfold plainL at p
    obtain ⟨p1, p2⟩ := Bool.and_eq_true_iff.mp p
    exact .cons (Rep.plain k p1 h) (RepL.plain k p2 r)
end
theorem RepX.mono {n : Nat} {fs : List W} {cls : Value} {dx : Option Addr} (k : ∀ b o, H b = some o → H' b = some o) (r : RepX K c H n fs cls dx) : RepX K c H' n fs cls dx := by
  obtain ⟨r1, d', vs, r2, r3, r4, r5⟩ := r
  exact ⟨r1, d', vs, r2, k _ _ r3, r4, r5.mono k⟩
theorem StOk.mono {d : Dw} (k : ∀ b o, H b = some o → H' b = some o) (s : StOk c d H) : StOk c d H' := by
  obtain ⟨⟨cells, lefts, kk, r, h1, h2, h3, h4, h5, h6, h7, h8, h9⟩, ob⟩ := s
  exact ⟨⟨cells, lefts, kk, r, k _ _ h1, k _ _ h2, k _ _ h3, h4, h5, h6, h7, h8, h9.ext k⟩, ob.same ob.ok rfl rfl (fun a C dx fl h => k _ _ h) fun ws vs q => q.mono k⟩
end
section
variable {P : Program} {w : World} {K : PySem.W.Frag} {c : Cc} {d : Dw} {H H' : Hp} {h : Heap} {as : List Addr}
/-- cells, told -/
def CellsX (H : Hp) (as : List Addr) (h : Heap) : Prop := ∀ a ∈ as, ∃ o u, h.get? a = some o ∧ H a = some (ObX a o) ∧ o.data = .cell u
theorem CellsX.lent (l : CellsX H as h) : Lent H as h := fun a m => by
  obtain ⟨o, u, h1, h2, _⟩ := l a m
  exact ⟨o, h1, h2⟩
theorem CellsX.no (l : CellsX H as h) {b : Addr} {o : HO} (e : H b = some o) (n : ∀ φ, o ≠ .ext φ) : b ∉ as := fun z => by
  obtain ⟨_, _, _, q, _⟩ := l b z
  rw [e] at q
  exact n _ (Option.some.inj q)
theorem code_ne {a : Addr} {q : Str} {o : Obj} {u : Option Value} (g1 : h.get? a = some o) (g3 : o.data = .cell u) : LamX.CodeO a q ≠ ObX a o := fun z => by
  unfold LamX.CodeO ObX at z
  injection z with z
  have z := congrFun z h
  have z : ∃ (oc : Obj) (vs : Array Value) (t : Tok), h.get? a = some oc ∧ oc.data = .fields vs ∧ vs[1]? = some (.str q t) := by rw [z]; exact g1
  obtain ⟨oc, vs, t, e1, e2, _⟩ := z
  rw [g1] at e1
  cases e1
  rw [g3] at e2
  cases e2
theorem StOk.era (s : StOk c d H) (l : CellsX H as h) : StOk c d (era H as) := by
  obtain ⟨⟨cells, lefts, kk, r, h1, h2, h3, h4, h5, h6, h7, h8, h9⟩, ob⟩ := s
  refine ⟨?_, ⟨ob.ok, ob.len, ob.nd, fun i a o q1 q2 => (by
    obtain ⟨dx, vs, g1, g2, g3, g4⟩ := ob.at_ i a o q1 q2
    exact ⟨dx, vs, by rw [era_out (l.no g1 nofun)]; exact g1, g2.plain (fun b o e n => by rw [era_out (l.no e n)]; exact e) g4, g3, g4⟩), ob.no⟩⟩
  refine ⟨cells, lefts, kk, r, by rw [era_out (l.no h1 nofun)]; exact h1, by rw [era_out (l.no h2 nofun)]; exact h2, by rw [era_out (l.no h3 nofun)]; exact h3, h4, h5, h6, h7, h8, fun p hp => ?_⟩
  obtain ⟨ps, q1, q2, q3⟩ := h9 p hp
  refine ⟨ps, by rw [era_out (l.no q1 nofun)]; exact q1, q2, fun pos cv hc => ?_⟩
  obtain ⟨c', e, q⟩ := q3 pos cv hc
  refine ⟨c', e, ?_⟩
  rw [era_out]
  · exact q
  · intro z
    obtain ⟨o, u, g1, g2, g3⟩ := l c' z
    rw [q] at g2
    exact code_ne g1 g3 (Option.some.inj g2)
theorem Wd.era (wd : Wd c d H) (l : CellsX H as h) : Wd c d (era H as) := ⟨wd.ok, wd.st.era l, fun b hb => by
  obtain ⟨o, e, ow⟩ := wd.av b hb
  refine ⟨o, ?_, ow⟩
  rw [era_out (l.no e (by rcases ow with ⟨_, rfl⟩ | ⟨_, rfl⟩ <;> exact nofun))]
  exact e⟩
theorem Step.lay (st : Step c (era H as) H') (l : Lent H as h) : Step c H (lay H' as h) := ⟨fun b o e h1 h2 nt => by
    by_cases m : b ∈ as
    · obtain ⟨u, e1, e2⟩ := l b m
      rw [e] at e2
      cases e2
      exact lay_in m e1
    · rw [lay_out m]
      exact st.keep b o (by rw [era_out m]; exact e) h1 h2 nt, fun b ps e => by
    have m : b ∉ as := fun z => by
      obtain ⟨_, _, q⟩ := l b z
      rw [e] at q
      cases q
    rw [lay_out m]
    exact st.tbl b ps (by rw [era_out m]; exact e), fun b C dx fs e => by
    have m : b ∉ as := fun z => by
      obtain ⟨_, _, q⟩ := l b z
      rw [e] at q
      cases q
    rw [lay_out m]
    exact st.ins b C dx fs (by rw [era_out m]; exact e)⟩
theorem lay_mono (n : ∀ a ∈ as, H' a = none) : ∀ b o, H' b = some o → lay H' as h b = some o := fun b o e => by
  rw [lay_out]
  · exact e
  · intro z
    rw [n b z] at e
    cases e
end
theorem caps_cells {P : Program} {w : World} {H : Hp} {h : Heap} (hok : HOk P w H h) : ∀ {cl : Cl} {vs : List V}, CapsAt H cl vs → CellsX H (adr cl) h
  | _, _, .nil, a, m => by cases m
  | _, _, .cons h1 h2 h3 r, a, m => by
    rcases List.mem_cons.mp m with e | m
    · subst e
      exact ⟨_, _, obX_at hok h1, h1, h2⟩
    · exact caps_cells hok r a m
theorem caps_get {P : Program} {w : World} {H : Hp} {h : Heap} (hok : HOk P w H h) : ∀ {cl : Cl} {vs : List V}, CapsAt H cl vs → ∀ {i : Nat} {v : V}, vs[i]? = some v → ∃ y a u, cl[i]? = some (y, a) ∧ RelV v u ∧ h.IsCell a (some u)
  | _, _, .nil, i, v, e => by simp at e
  | _, _, .cons (y := y) (a := a) (u := u) h1 h2 h3 r, 0, v, e => by
    simp only [List.getElem?_cons_zero, Option.some.injEq] at e
    subst e
    exact ⟨y, a, u, rfl, h3, _, obX_at hok h1, h2⟩
  | _, _, .cons h1 h2 h3 r, i + 1, v, e => by
    obtain ⟨y, a, u, q⟩ := caps_get hok r (i := i) (v := v) (by simpa using e)
    exact ⟨y, a, u, by simpa using q⟩
theorem caps_mem {P : Program} {w : World} {H : Hp} {h : Heap} (hok : HOk P w H h) : ∀ {cl : Cl} {vs : List V}, CapsAt H cl vs → ∀ {y : Str} {a : Addr}, (y, a) ∈ cl → ∃ u, h.IsCell a u
  | _, _, .nil, y, a, e => by cases e
  | _, _, .cons (u := u) h1 h2 h3 r, y, a, m => by
    rcases List.mem_cons.mp m with e | m
    · cases e
      exact ⟨some u, _, obX_at hok h1, h2⟩
    · exact caps_mem hok r m
theorem caps_len {H : Hp} : ∀ {cl : Cl} {vs : List V}, CapsAt H cl vs → cl.length = vs.length
  | _, _, .nil => rfl
  | _, _, .cons _ _ _ r => congrArg (· + 1) (caps_len r)
theorem caps_rel {H : Hp} : ∀ {cl : Cl} {vs : List V}, CapsAt H cl vs → ∀ {y : Str} {a : Addr}, (y, a) ∈ cl → ∃ o, H a = some (ObX a o)
  | _, _, .nil, y, a, e => by cases e
  | _, _, .cons h1 h2 h3 r, y, a, m => by
    rcases List.mem_cons.mp m with e | m
    · cases e
      exact ⟨_, h1⟩
    · exact caps_rel r m
structure LmC (l : LamD) (N : List Str) : Prop where
  kind : l.scope.kind = .function
  co : l.scope.isCoroutine = false
  gen : l.scope.isGenerator = false
  own : ∀ y ∈ l.scope.names, y.2 ≠ .cell ∧ (y.2 = .local → y.1 ∉ N)
  par : ∀ a ∈ l.params.args, l.scope.names.lookup a.arg = some .local
  nm : N = (cloFrom [] l.scope.names []).map (·.1)
  nd : N.Nodup
def lmcB (l : LamD) (N : List Str) : Bool := decide (l.scope.kind = .function) && (!l.scope.isCoroutine && (!l.scope.isGenerator && ((l.scope.names.all fun y => !decide (y.2 = .cell) && (!decide (y.2 = .local) || !N.contains y.1)) && ((l.params.args.all fun a => decide (l.scope.names.lookup a.arg = some .local)) && (decide (N = (cloFrom [] l.scope.names []).map (·.1)) && decide N.Nodup)))))
theorem lmC_by {l : LamD} {N : List Str} (h : lmcB l N = true) : LmC l N := by
  unfold lmcB at h
  simp only [Bool.and_eq_true, Bool.or_eq_true, Bool.not_eq_true', decide_eq_true_eq, decide_eq_false_iff_not, List.all_eq_true] at h
  obtain ⟨h1, h2, h3, h4, h5, h6, h7⟩ := h
  refine ⟨h1, h2, h3, fun y hy => ⟨(h4 y hy).1, fun e z => ?_⟩, h5, h6, h7⟩
  rcases (h4 y hy).2 with q | q
  · exact q e
  · rw [List.contains_iff_mem.mpr z] at q
    cases q
abbrev cloEnv (q : Str) (scope : Scope) (L f c' : Addr) (cl : Cl) : PySem.Env := PySem.W.envX q scope L f (.ref c') cl
def cloCx (P : Program) (w : World) (K : PySem.W.Frag) (mg : Str → Option Value) (base : Heap) (N : List Str) (A : Around) (outer : List PySem.Env) (s : Shared) (H : Hp) (E : XK) (q : Str) (scope : Scope) (f c' : Addr) (cl : Cl) : Cx where
  prog := P
  w := w
  K := K
  mg := mg
  base := base
  A := A.deeper (cloEnv q scope s.heap.objs.size f c' cl)
  N := N
  s_0 := s
  H_0 := H
  env := cloEnv q scope s.heap.objs.size f c' cl
  outer := outer
  stack := cloEnv q scope s.heap.objs.size f c' cl :: outer
  ex := []
  fn := fun _ => false
  calm := true
  pn := []
  xe := fun e s' => wpAny (model P w) (A.deeper (cloEnv q scope s.heap.objs.size f c' cl)) (leaving (cloEnv q scope s.heap.objs.size f c' cl) e) (fun _ s'' => L2.CX P w outer H s E e s'') (fun e' s'' => L2.CX P w outer H s E e' s'') s'
theorem lookup_nd : ∀ {cl : Cl} {i : Nat} {y : Str} {a : Addr}, (cl.map (·.1)).Nodup → cl[i]? = some (y, a) → cl.lookup y = some a
  | [], i, y, a, _, e => by simp at e
  | (z, b) :: cl, 0, y, a, _, e => by
    simp only [List.getElem?_cons_zero, Option.some.injEq, Prod.mk.injEq] at e
    obtain ⟨rfl, rfl⟩ := e
    simp [List.lookup]
  | (z, b) :: cl, i + 1, y, a, nd, e => by
    rw [List.map_cons, List.nodup_cons] at nd
    have e : cl[i]? = some (y, a) := by simpa using e
    have ne : (y == z) = false := by
      rw [beq_eq_false_iff_ne]
      intro q
      subst q
      exact nd.1 (List.mem_map.mpr ⟨_, List.mem_of_getElem? e, rfl⟩)
    rw [List.lookup_cons, ne]
    exact lookup_nd nd.2 e
theorem lookup_inj : ∀ {cl : Cl} {x y : Str} {a : Addr}, (adr cl).Nodup → cl.lookup x = some a → cl.lookup y = some a → x = y
  | [], x, y, a, _, e, _ => by cases e
  | (z, b) :: cl, x, y, a, nd, e1, e2 => by
    have nd := List.nodup_cons.mp nd
    rw [List.lookup_cons] at e1 e2
    have mm : ∀ {x : Str}, cl.lookup x = some a → a ∈ adr cl := fun {x} e => List.mem_map.mpr ⟨_, PySem.mem_of_lookup e, rfl⟩
    cases h1 : (x == z) <;> cases h2 : (y == z) <;> rw [h1] at e1 <;> rw [h2] at e2
    · exact lookup_inj nd.2 e1 e2
    · cases e2
      exact absurd (mm e1) nd.1
    · cases e1
      exact absurd (mm e2) nd.1
    · rw [eq_of_beq h1, eq_of_beq h2]
section
variable {P : Program} {w : World} {K : PySem.W.Frag} {mg : Str → Option Value} {base : Heap} {A : Around} {outer : List PySem.Env} {s : Shared} {H : Hp} {l : LamD} {N : List Str} {cl : Cl} {vs : List V}
theorem clo_start {E : XK} {q : Str} {f c' : Addr} {h1 : Heap} {tk : Nat} {bs : List (Str × Value)} (L : LmC l N) (e0 : Env0 P w K mg base A outer s (era H (adr cl))) (hok : HOk P w H s.heap) (hd : A.handled = none) (nm : cl.map (·.1) = N) (na : (adr cl).Nodup) (ca : CapsAt H cl vs)
    (hns : h1.Ns s.heap.objs.size fun y => bs.reverse.lookup y) (kp : ∀ b o, s.heap.get? b = some o → h1.get? b = some o) :
    Inv (cloCx P w K mg base N A outer s (era H (adr cl)) E q l.scope f c' cl) [] (L2.start N vs) (era H (adr cl)) { s with heap := h1, toks := tk } := by
  have hl : vs.length = N.length := by rw [← caps_len ca, ← nm, List.length_map]
  have es : L2.start N vs = vs.map some := by
    unfold L2.start
    rw [hl, Nat.sub_self]
    simp
  have nd : (cl.map (·.1)).Nodup := by rw [nm]; exact L.nd
  have cellK : ∀ {a : Addr} {v : Option Value}, s.heap.IsCell a v → h1.IsCell a v := fun {a v} z => by
    obtain ⟨o, ho, hdt⟩ := z
    exact ⟨o, kp _ _ ho, hdt⟩
  have noA : ∀ b : Addr, b ∉ (cloCx P w K mg base N A outer s (era H (adr cl)) E q l.scope f c' cl).ex := fun b z => by
    have z : b ∈ ([] : List Addr) := z
    cases z
  have ina : ∀ {y : Str} {a : Addr}, cl.lookup y = some a → a ∈ adr cl := fun {y a} e => List.mem_map.mpr ⟨_, PySem.mem_of_lookup e, rfl⟩
  refine ⟨⟨e0.mod, L.kind, rfl, rfl, Nat.le_refl _, fun y z c e1 e2 => lookup_inj na e1 e2, fun y hy => ?_, fun y c z _ => ?_, fun _ => hd, Around.frames_deeper e0.frames, .inr ⟨rfl, rfl⟩, fun b z => absurd z (noA b), e0.bs, e0.bsz, fun b _ _ => noA b, fun b z => absurd z (noA b), e0.funs, e0.frf⟩,
    rfl, e0.bare, Un.kept kp, ⟨_, hns, fun i y v e1 e2 e3 => ?_⟩, fun y c e => ?_, e0.hok.fresh (Nat.le_refl _), fun y c e => era_in (ina e), fun q hq => absurd (show q ∈ ([] : List (Addr × Obj)) ++ [] from hq) (by simp), e0.hok.kept kp, by rw [es, List.length_map]; exact hl⟩
  · have hy : l.scope.names.lookup y = some .cell ∨ l.scope.names.lookup y = some .free := hy
    rcases hy with hy | hy
    · exact absurd rfl (L.own _ (PySem.mem_of_lookup hy)).1
    · have m : y ∈ cl.map (·.1) := by
        rw [nm, L.nm]
        exact List.mem_map.mpr ⟨_, cloFrom_has (cells := []) (acc := []) (PySem.mem_of_lookup hy), rfl⟩
      obtain ⟨⟨y', a⟩, hm, rfl⟩ := List.mem_map.mp m
      exact mem_lookup hm
  · have z : false = true := z
    cases z
  · have e1 : N[i]? = some y := e1
    have e3 : Vis l.scope y := e3
    rw [es, List.getElem?_map] at e2
    cases hv : vs[i]? with
    | none =>
      rw [hv] at e2
      cases e2
    | some v' =>
      rw [hv] at e2
      cases e2
      obtain ⟨y', a, u, q1, q2, q3⟩ := caps_get hok ca hv
      have ey : y' = y := by
        have : (cl.map (·.1))[i]? = some y' := by rw [List.getElem?_map, q1]; rfl
        rw [nm, e1] at this
        exact (Option.some.inj this).symm
      subst ey
      refine ⟨u, q2, .inr ⟨?_, a, lookup_nd nd q1, cellK q3⟩⟩
      rcases e3 with k | k | k
      · exact absurd (List.mem_of_getElem? e1) ((L.own _ (PySem.mem_of_lookup k)).2 rfl)
      · exact .inl k
      · exact .inr k
  · obtain ⟨u, z⟩ := caps_mem hok ca (PySem.mem_of_lookup (show cl.lookup y = some c from e))
    exact ⟨u, cellK z⟩
end
theorem par_of {one : Option Str} {ps : Arguments} (po : ParOk one ps) : ∀ y, one = some y → ∃ a ∈ ps.args, a.arg = y := fun y hy => by
  cases po with
  | zero => cases hy
  | one z p1 p2 i j =>
    cases hy
    exact ⟨_, List.mem_cons_self .., rfl⟩
/-- what a lambda does, its captured things at hand -/
def lamF (n : Nat) (fb : En → T W) : List W → T W := fun ws => if ws.length == n then fb (startE n ws) else .bad
def LamOk (P : Program) (w : World) (K : PySem.W.Frag) (mg : Str → Option Value) (base : Heap) (k : Nat) (x : Str) (p : List Nat) (r : List W → T W) : Prop :=
  ∃ (l : LamD) (N : List Str) (fb : En → T W), lamK K x p = some l ∧ LmC l N ∧ r = lamF N.length fb ∧
    ∀ (Γ : Cl) (A : Around) (outer : List PySem.Env) (s : Shared) (H : Hp) (E : XK) (f c' : Addr) (cl : Cl), A.guards = some [] → Room k (A.deeper (cloEnv (lamQ x) l.scope s.heap.objs.size f c' cl)) → TrE Γ (cloCx P w K mg base N A outer s H E (lamQ x) l.scope f c' cl) (wOf E) l.body fb
section
variable {P : Program} {w : World} {K : PySem.W.Frag} {mg : Str → Option Value} {base : Heap} {A : Around} {outer : List PySem.Env} {s : Shared} {H : Hp} {c : Cc} {d : Dw} {k : Nat} {x : Str} {p : List Nat} {ws : List W} {f : Addr} {Q : VK} {E : XK} {r : List W → T W}
theorem clo_call (R : Rep K c H (.clo x p ws) (.ref f)) (wd : Wd c d H) (hT : c.T = tabL K ∧ c.K = K) (e0 : Env0 P w K mg base A outer s H) (hg : A.guards = some []) (hr : Room (k + 1) A) (lo : LamOk P w K mg base k x p r)
    (h : (r ws).AllW (PQ K c H Q) (PX K c H E) d) : codeAny (model P w) A (.call (.ref f) ⟨[], []⟩) (CR (L2.CX P w) outer P w H s Q E) s := by
  obtain ⟨l0, N, fb, hl0, L, rfl, hbody⟩ := lo
  cases R with
  | @clo f x p l cl ws vs la nm na ca pl rl =>
    obtain ⟨hk, dV, pm, ctv, c', one, hf, hco, po, d1, d2⟩ := la
    rw [hk] at hl0
    obtain rfl := Option.some.inj hl0
    have nm' : cl.map (·.1) = N := by rw [nm, ← L.nm]
    have cx := caps_cells e0.hok ca
    have nfr : ∀ a ∈ adr cl, a ∉ frs outer := fun a m z => by
      obtain ⟨_, _, _, q, _⟩ := cx a m
      rw [e0.frf a z] at q
      cases q
    have e1 : Env0 P w K mg base A outer s (era H (adr cl)) := ⟨e0.frames, e0.mod, fun b o e => ⟨(e0.bs b o e).1, by
      by_cases m : b ∈ adr cl
      · exact era_in m
      · rw [era_out m]
        exact (e0.bs b o e).2⟩, e0.bsz, e0.funs, fun b hb => by
      by_cases m : b ∈ adr cl
      · exact era_in m
      · rw [era_out m]
        exact e0.frf b hb, hok_era e0.hok cx.lent, e0.bare⟩
    have of1 := obX_at e0.hok hf
    obtain ⟨⟨oc, xs, t, hoc, hdc, hvc⟩, _, _⟩ := e0.hok c' _ hco
    have dok : DOk one dV (fun _ => none) [] s.heap := by
      cases one with
      | none => exact d1 rfl
      | some y =>
        obtain ⟨D, u, e, hD⟩ := d2 y rfl
        exact ⟨D, u, e, obX_at e0.hok hD, rfl, by simp⟩
    have nol : s.heap.NoLimit := e0.mod.nolimit.keeps fun b u e => (e0.bs b u e).1
    have hlw : ws.length = N.length := by rw [rl.length, ← caps_len ca, ← nm', List.length_map]
    have h : (fb (startE N.length ws)).AllW (PQ K c H Q) (PX K c H E) d := by
      unfold lamF at h
      rw [if_pos (by rw [hlw]; exact beq_self_eq_true _)] at h
      exact h
    refine codeAny_mono (R := CR (L2.CX P w) outer P w (era H (adr cl)) s (fun v H' => (∀ a ∈ adr cl, H' a = none) → Q v (lay H' (adr cl) s.heap)) (fun cls d H' => (∀ a ∈ adr cl, H' a = none) → E cls d (lay H' (adr cl) s.heap))) ?_ fun r s' hc => cr_fore cx.lent nfr hc
    refine PySem.W.kla_callFunE hr.depth of1 rfl L.co L.gen rfl ⟨c', oc, xs, t, rfl, hoc, hdc, hvc⟩ (lam_bind po dok fun bs hbs => ?_)
    have par : ∀ y, one = some y → l.scope.names.lookup y = some .local := fun y hy => by
      obtain ⟨a, ha, e⟩ := par_of po y hy
      rw [← e]
      exact L.par a ha
    refine wpAny_newFunctionEnv (fun y hy => (L.own y hy).1) (fun y hy => par y.1 (hbs y hy)) (fun h1 hns hsb => ⟨nol.fresh _ hsb, ?_⟩) L.kind
    show codeAny _ _ (.expr l.body (cloEnv (lamQ x) l.scope s.heap.objs.size f c' cl)) _ _
    have kp : ∀ b o, s.heap.get? b = some o → h1.get? b = some o := fun b o e => hsb.extBut b o (Nat.ne_of_lt (Heap.lt_size e)) (Heap.get?_push_of_some _ e)
    have J := clo_start (q := lamQ x) (f := f) (c' := c') (tk := s.toks + bs.length) (E := fun cls d H' => (∀ a ∈ adr cl, H' a = none) → E cls d (lay H' (adr cl) s.heap)) L e1 e0.hok hr.hd nm' na ca hns kp
    have wd1 := wd.era cx
    have wdb : Wd c.bare d (era H (adr cl)) := ⟨⟨wd1.ok.inS, wd1.ok.inla, wd1.ok.inca⟩, wd1.st.bare, wd1.av⟩
    have gw : ∀ {c' : Cc} {H' : Hp}, SG c.bare c' (era H (adr cl)) H' → SG c (c.wide c') H (lay H' (adr cl) s.heap) := fun st => ⟨(Fwd.of (K := K) st wdb).wide, Step.lay ⟨fun b o e h1 h2 => st.st.keep b o e h1 h2, st.st.tbl, st.st.ins⟩ cx.lent⟩
    have ht : liftE K c.bare.C (wOf fun cls d H' => (∀ a ∈ adr cl, H' a = none) → E cls d (lay H' (adr cl) s.heap)) fb (L2.start N vs) (era H (adr cl)) (fun v H' => (∀ a ∈ adr cl, H' a = none) → Q v (lay H' (adr cl) s.heap)) := by
      refine ⟨c.bare, d, fun _ => 0, startE N.length ws, start_ok (c := c.bare) wdb hT rfl (RepL.weak (c := c.bare) (c1 := c) rfl rfl (fun _ h => h) (rl.plain (fun b o e n => by rw [era_out (cx.no e n)]; exact e) pl)), T.AllW.imp (fun d1 w1 hq => ?_) (fun d1 n fs hq => ?_) h⟩
      · intro c1 v H' st so rv fr
        have fw := Fwd.of (K := K) st wdb
        exact hq v _ (gw st) (StOk.mono (lay_mono fr) (so.to fw wd.ok)) ((Rep.back fw rv).mono (lay_mono fr))
      · intro c1 cls dx H' st so rv fr
        have fw := Fwd.of (K := K) st wdb
        obtain ⟨r1, d', vs', r2, r3, r4, r5⟩ := rv
        exact hq cls dx _ (gw st) (StOk.mono (lay_mono fr) (so.to fw wd.ok)) (RepX.mono (lay_mono fr) ⟨r1, d', vs', r2, r3, r4, RepL.back fw r5⟩)
    refine PySem.W.kla_codeExpr (wpAny_mono ((hbody c.bare.C A outer s (era H (adr cl)) (fun cls d H' => (∀ a ∈ adr cl, H' a = none) → E cls d (lay H' (adr cl) s.heap)) f c' cl hg (hr.deeper _)).run [] _ _ (era H (adr cl)) _ J ht) (fun v s' hq => ?_) fun e s' hq => hq)
    obtain ⟨w', H', J', rv, q⟩ := hq
    exact ⟨w', H', J'.os, J'.bare, J'.base, J'.hok, rv, q⟩
end
end PF
namespace PF
open PySem PySem.Spec PyProof.Rows L2
/-- all lambdas of the text that are called -/
def LamsOk (P : Program) (w : World) (K : PySem.W.Frag) (mg : Str → Option Value) (base : Heap) (k : Nat) (R : Str → List Nat → List W → T W) : Prop := ∀ x p ws, R x p ws = .bad ∨ LamOk P w K mg base k x p (R x p)
def fCallV (R : Str → List Nat → List W → T W) (i : Nat) : En → T W := fun ρ => match ρ[i]? with
  | some (.val (.clo x p ws)) => R x p ws
  | _ => .bad
theorem tr_callV {X : Cx} {E : WX} {R : Str → List Nat → List W → T W} {i k : Nat} {a : Str} {p1 p2 : Pos} (lo : LamsOk X.prog X.w X.K X.mg X.base k R) (hgd : X.A.guards = some []) (hr : Room (k + 1) X.A) (tk : Takes X E) (hN : X.N[i]? = some a) (hv : Vis X.env.scope a)
    (hd : (a == ("__debug__" : Str)) = false := by decide) (hcd : (a == ("__classdict__" : Str)) = false := by decide) : TrE Γ X E (.Call (.Name a p1) [] [] p2) (fCallV R i) := by
  constructor
  intro pins s σ H Q I h
  obtain ⟨c, d, oa, ρ, e, h⟩ := h
  unfold fCallV at h
  split at h
  · rename_i x p ws hρ
    obtain ⟨v, h1, rv⟩ := e.val i _ hρ
    have hf : ∃ f, v = .ref f := by
      cases rv with
      | clo => exact ⟨_, rfl⟩
    obtain ⟨f, rfl⟩ := hf
    refine wpAny_Call_Name_kw (thn ((pe_var (pos := p1) (i := i) hN hv hd hcd).run pins s σ H (fun v H1 => v = .ref f ∧ H1 = H) I ⟨.ref f, h1, rfl, rfl⟩) fun u s1 z => ?_)
    obtain ⟨v, H1, I1, r1, ev, eH⟩ := z
    subst ev
    subst eH
    obtain rfl : u = Value.ref f := r1
    rcases lo x p ws with z | z
    · rw [z] at h
      exact h.elim
    · have rv2 := rv
      cases rv2 with
      | clo la nm na ca pl rl =>
        obtain ⟨_, dV, pm, ctv, c', one, hf, _⟩ := la
        refine PySem.W.callWith_F0 ⟨_, _, _, _, obX_at I1.hok hf⟩ ?_
        refine wpAny_call (codeAny_mono (clo_call rv e.wd ⟨e.tT, e.kK⟩ I1.env0 hgd hr z h) fun r s' hq => ?_)
        match r, hq with
        | .error er, hq => exact tk _ _ (XE.of_call I1 (fun _ _ _ z => z) hq)
        | .ok (.ret u), hq => exact I1.after hq
        | .ok .next, hq => exact False.elim hq
        | .ok .brk, hq => exact False.elim hq
        | .ok .cont, hq => exact False.elim hq
  · exact h.elim
section
variable {X : Cx} {pins : List (Addr × Obj)} {σ : L2.St} {H : Hp} {s : Shared}
theorem Inv.adopt {a : Addr} {o : Obj} (I : Inv X pins σ H s) (e : s.heap.get? a = some o) (n : H a = none) (n0 : X.s_0.heap.get? a = none) (nL : a ≠ X.env.locals) (nC : ∀ y c, X.env.cells.lookup y = some c → c ≠ a) (nP : ∀ p ∈ X.pn ++ pins, p.1 ≠ a) : Inv X pins σ (upd H a (ObX a o)) s where
  ok := I.ok
  os := I.os
  bare := I.bare
  base := {
    keep := I.base.keep
    slot := I.base.slot
    free := fun b o e1 e2 e3 => by
      rw [upd_ne (fun z => by rw [z, n0] at e1; cases e1)]
      exact I.base.free b o e1 e2 e3
    there := I.base.there
    tups := fun b xs q => by
      have := I.base.tups b xs q
      rw [upd_ne (ne_of_none this n)]
      exact this
    frzs := fun b o xs q => by
      have := I.base.frzs b o xs q
      rw [upd_ne (ne_of_none this n)]
      exact this
    tbls := fun b ps q => by
      obtain ⟨m, this⟩ := I.base.tbls b ps q
      exact ⟨m, by rw [upd_ne (ne_of_none this n)]; exact this⟩ }
  loc := I.loc
  cell := I.cell
  free := by rw [upd_ne (Ne.symm nL)]; exact I.free
  freeC := fun y c h => by rw [upd_ne (nC y c h)]; exact I.freeC y c h
  pin := fun p hp => by
    obtain ⟨h1, h2, h3⟩ := I.pin p hp
    exact ⟨h1, by rw [upd_ne (nP p hp)]; exact h2, h3⟩
  hok := HOk.laidN I.hok (fun _ _ q => q) n (obX_ok e)
  len := I.len
/-- new since the state s -/
theorem Inv.adoptN {s' : Shared} {H' : Hp} {a : Addr} {o : Obj} (I : Inv X pins σ H s) (I' : Inv X pins σ H' s') (e : s'.heap.get? a = some o) (n : H' a = none) (hz : s.heap.objs.size ≤ a) : Inv X pins σ (upd H' a (ObX a o)) s' := by
  have ge : ∀ {b : Addr} {u : Obj}, s.heap.get? b = some u → b ≠ a := fun {b u} q z => by
    rw [z] at q
    exact Nat.lt_irrefl _ (Nat.lt_of_lt_of_le (Heap.lt_size q) hz)
  refine Inv.adopt I' e n ?_ (fun z => ?_) (fun y c h => ?_) fun p hp => ?_
  · cases q : X.s_0.heap.get? a with
    | none => rfl
    | some u => exact absurd (Nat.lt_of_lt_of_le (Heap.lt_size q) (Nat.le_trans I.sz hz)) (Nat.lt_irrefl _)
  · have := I.lt
    rw [← z] at this
    exact Nat.lt_irrefl _ (Nat.lt_of_lt_of_le this hz)
  · obtain ⟨v, u, q, _⟩ := I.cell y c h
    exact ge q
  · exact ge (I.pin p hp).1
end
theorem cloFrom_eq {c1 c2 : Cl} : ∀ (names : List (Str × NameKind)) (acc : Cl), (∀ y, (y, NameKind.free) ∈ names → c1.lookup y = c2.lookup y) → cloFrom c1 names acc = cloFrom c2 names acc
  | [], acc, _ => rfl
  | (n, k) :: r, acc, h => by
    unfold cloFrom
    by_cases hk : (k == NameKind.free) = true
    · have e : k = .free := eq_of_beq hk
      subst e
      rw [h n (List.mem_cons_self ..)]
      simp only [hk, if_true]
      exact cloFrom_eq r _ fun y hy => h y (List.mem_cons_of_mem _ hy)
    · simp only [hk, if_false]
      exact cloFrom_eq r acc fun y hy => h y (List.mem_cons_of_mem _ hy)
/-- its free names are cells of the maker, or free there -/
def FreeIn (sc scope : Scope) : Prop := ∀ y ∈ scope.names, y.2 = .free → sc.names.lookup y.1 = some .cell ∨ sc.names.lookup y.1 = some .free
def freeB (sc scope : Scope) : Bool := scope.names.all fun y => !decide (y.2 = .free) || (decide (sc.names.lookup y.1 = some .cell) || decide (sc.names.lookup y.1 = some .free))
theorem free_by {sc scope : Scope} (h : freeB sc scope = true) : FreeIn sc scope := fun y hy e => by
  unfold freeB at h
  have := List.all_eq_true.mp h y hy
  simp only [Bool.or_eq_true, Bool.not_eq_true', decide_eq_true_eq, decide_eq_false_iff_not] at this
  rcases this with z | z
  · exact absurd e z
  · exact z
theorem tr_lam {X : Cx} {E : WX} {x : Str} {p : List Nat} {params : Arguments} {body : Expr} {scope : Scope} {pos : Pos} {one : Option Str} (mk : MkT X.K X.mg X.base X.env.code (X.env.qual ++ "<lambda>")) (hq : X.env.qual ++ "<lambda>" = lamQ x) (hl : lamK X.K x p = some ⟨params, body, scope⟩) (po : ParOk one params) (fr : FreeIn X.env.scope scope)
    (hΓ : ∀ y a, X.env.cells.lookup y = some a → Γ.lookup y = some a) : TrE Γ X E (.Lambda params body scope pos) (fun _ => .ok (.lam x p)) := by
  obtain ⟨cc, PP, hcode, TB, hmT, hu⟩ := mk
  constructor
  intro pins s σ H Q I h
  obtain ⟨c, d, oa, ρ, e, h⟩ := h
  have hT : LamX.Tabs (tabL X.K) H := by rw [← e.tT]; exact e.st.tab
  have has : ∀ y ∈ scope.names, y.2 = .free → ∃ c, X.env.cells.lookup y.1 = some c := fun y hy ey => by
    rcases fr y hy ey with k | k
    · exact I.ok.has _ (.inl k)
    · exact I.ok.has _ (.inr k)
  refine lam_make I TB hcode hmT hu hT po has fun f c' dV pm ctv H1 s' zf zD I1 gr T1 hD hf hfn hfr hco => ?_
  have ecl : cloFrom X.env.cells scope.names [] = cloFrom c.C scope.names [] := cloFrom_eq _ _ fun y hy => by
    obtain ⟨a, ha⟩ := has _ hy rfl
    have ha : X.env.cells.lookup y = some a := ha
    rw [ha, e.cC, hΓ y a ha]
  rw [ecl, hq] at hf
  rw [hq] at hco
  -- the function's object
  have I2 := Inv.adoptN I I1 hf hfn zf
  have nf : ∀ {b : Addr} {o : HO}, H1 b = some o → upd H1 f (ObX f (lob (lamQ x) params body scope (cloFrom c.C scope.names []) dV pm c' ctv)) b = some o := fun {b o} q => by
    rw [upd_ne (ne_of_none q hfn)]
    exact q
  have so : ∀ (H2 : Hp), (∀ b o, H1 b = some o → H2 b = some o) → StOk c d H2 := fun H2 k => by
    exact (e.st.grow gr (by rw [e.tT]; exact T1)).mono k
  have stp : ∀ (H2 : Hp), (∀ b o, H1 b = some o → H2 b = some o) → SG c c H H2 := fun H2 k => .of (gr.step.trans (.same k))
  cases one with
  | none =>
    have hD : dV = .none := hD
    subst hD
    refine ⟨.ref f, _, I2, rfl, h (.ref f) _ (stp _ fun b o q => nf q) (so _ fun b o q => nf q) (.lam (l := ⟨params, body, scope⟩) ⟨hl, .none, pm, ctv, c', none, upd_same, nf hco, po, fun _ => rfl, fun y hy => (by cases hy)⟩)⟩
  | some y0 =>
    obtain ⟨D, u, rfl, gD, nD, _⟩ := hD
    obtain ⟨zD1, zD2⟩ := zD D rfl
    have nD2 : upd H1 f (ObX f (lob (lamQ x) params body scope (cloFrom c.C scope.names []) (.ref D) pm c' ctv)) D = none := by rw [upd_ne zD2]; exact nD
    have I3 := Inv.adoptN I I2 gD nD2 zD1
    have nn : ∀ {b : Addr} {o : HO}, H1 b = some o → upd (upd H1 f (ObX f (lob (lamQ x) params body scope (cloFrom c.C scope.names []) (.ref D) pm c' ctv))) D (ObX D { cls := .type "tuple", data := .seq #[u] }) b = some o := fun {b o} q => by
      rw [upd_ne (ne_of_none q nD)]
      exact nf q
    refine ⟨.ref f, _, I3, rfl, h (.ref f) _ (stp _ fun b o q => nn q) (so _ fun b o q => nn q) (.lam (l := ⟨params, body, scope⟩) ⟨hl, .ref D, pm, ctv, c', some y0, by rw [upd_ne (Ne.symm zD2)]; exact upd_same, nn hco, po, fun z => (by cases z), fun y hy => ⟨D, u, rfl, upd_same⟩⟩)⟩
end PF
namespace PF
open PySem PySem.Spec PyProof.Rows L2
def capV (ρ : En) : List Nat → Option (List W)
  | [] => some []
  | i :: r => match ρ[i]?, capV ρ r with
    | some (.val w), some ws => some (w :: ws)
    | _, _ => none
mutual
/-- lambdas with what they hold -/
def frW (S : Str → List Nat → Option (List Nat)) (ρ : En) : W → Option W
  | .lam x p => match S x p with
    | some ss => match capV ρ ss with
      | some ws => if plainL ws then some (.clo x p ws) else none
      | none => none
    | none => none
  | .lst ws => (frWs S ρ ws).map .lst
  | w => some w
def frWs (S : Str → List Nat → Option (List Nat)) (ρ : En) : List W → Option (List W)
  | [] => some []
  | w :: ws => match frW S ρ w, frWs S ρ ws with
    | some u, some us => some (u :: us)
    | _, _ => none
end
/-- plain ends alone -/
def plT : T W → T W
  | .ok w => if plain w then .ok w else .bad
  | .exc n fs => if plainL fs then .exc n fs else .bad
  | .bad => .bad
  | .ask n k => .ask n fun i => plT (k i)
  | .get i k => .get i fun c fs => plT (k c fs)
  | .put i fs k => .put i fs (plT k)
  | .new c fs k => .new c fs fun i => plT (k i)
theorem plT_all {P : Dw → W → Prop} {E : Dw → Nat → List W → Prop} : ∀ {t : T W} {d : Dw}, (plT t).AllW P E d → t.AllW (fun d w => plain w = true ∧ P d w) (fun d n fs => plainL fs = true ∧ E d n fs) d
  | .ok w, d, h => T.AllW.ite h
  | .exc n fs, d, h => T.AllW.ite h
  | .bad, _, h => h
  | .ask n k, d, h => by
    obtain ⟨e, he, x⟩ := h
    exact ⟨e, he, fun i hi => plT_all (x i hi)⟩
  | .get i k, d, h => by
    obtain ⟨c, fs, e, x⟩ := h
    exact ⟨c, fs, e, plT_all x⟩
  | .put i fs k, d, h => by
    obtain ⟨c, gs, e, x⟩ := h
    exact ⟨c, gs, e, plT_all x⟩
  | .new c fs k, d, h => plT_all (t := k d.os.length) h
def fLz (S : Str → List Nat → Option (List Nat)) (fs : En → T (List W)) (F : List W → T W) : En → T W := fun ρ => (fs ρ).bind fun ws => match frWs S ρ ws with
  | some us => plT (F us)
  | none => .bad
section
variable {K : PySem.W.Frag} {c c1 : Cc} {H : Hp}
mutual
theorem Rep.weakP (hS : c1.S = c.S) (hO : c1.O = c.O) (sub : ∀ b ∈ c.A, b ∈ c1.A) : ∀ {w : W} {v : V}, PF.plain w = true → Rep K c1 H w v → Rep K c H w v
  | _, _, _, .non => .non
  | _, _, _, .bl b => .bl b
  | _, _, _, .int i => .int i
  | _, _, _, .str x => .str x
  | _, _, p, .tup h r => .tup h (RepL.weakP hS hO sub (by unfold PF.plain at p; exact p) r)
  | _, _, p, .lst n h r => .lst (fun z => n (sub _ z)) h (RepL.weakP hS hO sub (by unfold PF.plain at p; exact p) r)
  | _, _, p, .dct n h r => .dct (fun z => n (sub _ z)) h (RepL.weakP hS hO sub (by unfold PF.plain at p; exact p) r)
  | _, _, p, .dcu n h r => .dcu (fun z => n (sub _ z)) h (RepL.weakP hS hO sub (by unfold PF.plain at p; exact p) r)
  | _, _, _, .obj h => .obj (by rw [← hO]; exact h)
  | _, _, _, .scr h => .scr (h.imp (fun ⟨n, r⟩ => ⟨fun z => n (sub _ z), r⟩) id)
  | _, _, _, .stt => by rw [hS]; exact .stt
  | _, _, p, .lam h => by cases p
  | _, _, p, .clo h g n m pl r => by cases p
  | _, _, p, .exo h1 h2 h3 r => by cases p
theorem RepL.weakP (hS : c1.S = c.S) (hO : c1.O = c.O) (sub : ∀ b ∈ c.A, b ∈ c1.A) : ∀ {ws : List W} {vs : List V}, plainL ws = true → RepL K c1 H ws vs → RepL K c H ws vs
  | _, _, _, .nil => .nil
  | _, _, p, .cons h r => by
    unfold plainL at p
    obtain ⟨p1, p2⟩ := Bool.and_eq_true_iff.mp p
    exact .cons (Rep.weakP hS hO sub p1 h) (RepL.weakP hS hO sub p2 r)
end
end
theorem StOk.weakN {c c1 : Cc} {d : Dw} {H : Hp} (s : StOk c1 d H) (hS : c1.S = c.S) (hca : c1.ca = c.ca) (hla : c1.la = c.la) (hT : c1.T = c.T) (hK : c1.K = c.K) (hO : c1.O = c.O) (sub : ∀ b ∈ c.A, b ∈ c1.A) (ok : CcOk c) : StOk c d H := by
  obtain ⟨⟨cells, lefts, kk, r, h1, h2, h3, h4, h5, h6, h7, h8, h9⟩, ob⟩ := s
  rw [hS, hca, hla] at h1
  rw [hca] at h2
  rw [hla] at h3
  rw [hca, hla] at h8
  rw [hT] at h9
  exact ⟨⟨cells, lefts, kk, r, h1, h2, h3, h4, h5, h6, h7, h8, h9⟩, ⟨ok, by rw [← hO]; exact ob.len, by rw [← hO]; exact ob.nd, fun i a o q1 q2 => (by
    rw [← hO] at q1
    obtain ⟨dx, vs, g1, g2, g3, g4⟩ := ob.at_ i a o q1 q2
    rw [hK] at g1 g2
    exact ⟨dx, vs, g1, g2.weakP hS hO sub g4, g3, g4⟩), fun z => ob.no (by rw [hK]; exact z)⟩⟩
/-- what the names lead to -/
def lks (cl : Cl) : List Addr := cl.filterMap fun x => cl.lookup x.1
theorem lks_mem {cl : Cl} {a : Addr} (h : a ∈ lks cl) : ∃ y, cl.lookup y = some a := by
  obtain ⟨x, _, e⟩ := List.mem_filterMap.mp h
  exact ⟨x.1, e⟩
theorem mem_lks {cl : Cl} {y : Str} {a : Addr} (h : cl.lookup y = some a) : a ∈ lks cl := List.mem_filterMap.mpr ⟨(y, a), PySem.mem_of_lookup h, h⟩
/-- the slots that lambdas of this frame hold -/
def SlOk (X : Cx) (S : Str → List Nat → Option (List Nat)) : Prop := ∀ x p ss, S x p = some ss → ∃ l, lamK X.K x p = some l ∧ FreeIn X.env.scope l.scope ∧ ((cloFrom [] l.scope.names []).map (·.1)).Nodup ∧ ss.map (fun i => X.N[i]?) = ((cloFrom [] l.scope.names []).map (·.1)).map some
theorem cloFrom_fst {c1 c2 : Cl} : ∀ (names : List (Str × NameKind)) (a1 a2 : Cl), a1.map (·.1) = a2.map (·.1) → (cloFrom c1 names a1).map (·.1) = (cloFrom c2 names a2).map (·.1)
  | [], a1, a2, h => h
  | (n, k) :: r, a1, a2, h => by
    unfold cloFrom
    by_cases hk : (k == NameKind.free) = true
    · simp only [hk, if_true]
      exact cloFrom_fst r _ _ (by simp [h])
    · simp only [hk, if_false]
      exact cloFrom_fst r _ _ h
section
variable {X : Cx} {pins : List (Addr × Obj)} {σ : L2.St} {H : Hp} {s : Shared} {c : Cc} {d : Dw} {oa : Nat → Addr} {ρ : En} {S : Str → List Nat → Option (List Nat)}
theorem lks_none (I : Inv X pins σ H s) : ∀ a ∈ lks X.env.cells, H a = none := fun a m => by
  obtain ⟨y, e⟩ := lks_mem m
  exact I.freeC y a e
theorem lks_cell (I : Inv X pins σ H s) : ∀ a ∈ lks X.env.cells, ∃ o u, s.heap.get? a = some o ∧ o.data = .cell u := fun a m => by
  obtain ⟨y, e⟩ := lks_mem m
  obtain ⟨v, o, h1, h2⟩ := I.cell y a e
  exact ⟨o, v, h1, h2⟩
theorem lks_frs (I : Inv X pins σ H s) (hf : ∀ y, X.fn y = true) (hs : X.stack = X.env :: X.outer) (hl : X.env.frame = some X.env.locals) : ∀ a ∈ lks X.env.cells, a ∉ frs X.stack := fun a m z => by
  rw [hs] at z
  obtain ⟨y, e⟩ := lks_mem m
  rcases List.mem_cons.mp (show a ∈ X.env.locals :: frs X.outer from by
      unfold frs at z
      rw [List.filterMap_cons, hl] at z
      exact z) with z | z
  · obtain ⟨o, u, h1, h2⟩ := lks_cell I a m
    obtain ⟨mm, ⟨o', es, ep, q1, q2, _⟩, _⟩ := I.loc
    rw [← z, h1] at q1
    cases q1
    rw [h2] at q2
    cases q2
  · have h1 := I.ok.cab y a (hf y) e
    obtain ⟨_, o, h2, _⟩ := I.ok.funs.mem z
    exact Nat.lt_irrefl _ (Nat.lt_of_lt_of_le (Heap.lt_size h2) h1)
theorem caps_at (I : Inv X pins σ H s) (e : EnvOk X.K Γ c d oa ρ σ H) : ∀ (cl : Cl) (ss : List Nat) (ws : List W), (∀ x ∈ cl, X.env.cells.lookup x.1 = some x.2 ∧ Vis X.env.scope x.1 ∧ X.env.scope.names.lookup x.1 ≠ some .local) → ss.map (fun i => X.N[i]?) = (cl.map (·.1)).map some → capV ρ ss = some ws →
    ∃ vs, CapsAt (lay H (lks X.env.cells) s.heap) cl vs ∧ RepL X.K c H ws vs
  | [], [], ws, _, _, h => by
    cases h
    exact ⟨[], .nil, .nil⟩
  | [], i :: ss, ws, _, h, _ => by cases h
  | x :: cl, [], ws, _, h, _ => by cases h
  | (y, a) :: cl, i :: ss, ws, hc, hN, h => by
    unfold capV at h
    split at h
    · rename_i w ws' hw hr
      cases h
      simp only [List.map_cons, List.cons.injEq] at hN
      obtain ⟨vs, ca, rl⟩ := caps_at I e cl ss ws' (fun x hx => hc x (List.mem_cons_of_mem _ hx)) hN.2 hr
      obtain ⟨v, h1, h2⟩ := e.val i w hw
      obtain ⟨g1, g2, g3⟩ := hc (y, a) (List.mem_cons_self ..)
      obtain ⟨m, _, hl⟩ := I.loc
      obtain ⟨u, ru, lk⟩ := hl i y v hN.1 h1 g2
      rcases lk with ⟨k, _⟩ | ⟨_, c2, e2, o, ho, hd⟩
      · exact absurd k g3
      · have g1 : X.env.cells.lookup y = some a := g1
        rw [g1] at e2
        cases e2
        exact ⟨v :: vs, .cons (lay_in (mem_lks g1) ho) hd ru ca, .cons h2 rl⟩
    · cases h
theorem adr_nd (inj : ∀ x y a, X.env.cells.lookup x = some a → X.env.cells.lookup y = some a → x = y) : ∀ (cl : Cl), (cl.map (·.1)).Nodup → (∀ x ∈ cl, X.env.cells.lookup x.1 = some x.2) → (adr cl).Nodup
  | [], _, _ => .nil
  | (y, a) :: cl, nd, h => by
    have nd := List.nodup_cons.mp nd
    refine List.nodup_cons.mpr ⟨fun z => ?_, adr_nd inj cl nd.2 fun x hx => h x (List.mem_cons_of_mem _ hx)⟩
    obtain ⟨⟨y2, a2⟩, hm, ez⟩ := List.mem_map.mp z
    have ez : a2 = a := ez
    subst ez
    have e1 := h (y, a2) (List.mem_cons_self ..)
    have e2 := h (y2, a2) (List.mem_cons_of_mem _ hm)
    have : y = y2 := inj _ _ _ e1 e2
    subst this
    exact nd.1 (List.mem_map.mpr ⟨_, hm, rfl⟩)
mutual
theorem frz_rep (I : Inv X pins σ H s) (e : EnvOk X.K Γ c d oa ρ σ H) (hΓ : c.C = X.env.cells) (sl : SlOk X S) : ∀ {w w' : W} {v : V}, Rep X.K c H w v → frW S ρ w = some w' → Rep X.K c (lay H (lks X.env.cells) s.heap) w' v := fun {w w' v} r h => by
  have mono := lay_mono (h := s.heap) (lks_none I)
  cases r with
  | lam la =>
    rename_i f x p l
    unfold frW at h
    split at h
    · rename_i ss hs
      split at h
      · rename_i ws hw
        split at h
        · rename_i pl
          cases h
          obtain ⟨l', hl, fi, nd, hN⟩ := sl x p ss hs
          have : l = l' := by
            have := la.1
            rw [hl] at this
            exact (Option.some.inj this).symm
          subst this
          have fst := cloFrom_fst (c1 := c.C) (c2 := []) l.scope.names [] [] rfl
          have look : ∀ z ∈ cloFrom c.C l.scope.names [], X.env.cells.lookup z.1 = some z.2 ∧ Vis X.env.scope z.1 ∧ X.env.scope.names.lookup z.1 ≠ some .local := fun z hz => by
            obtain ⟨y, a⟩ := z
            rcases cloFrom_mem hz with q | ⟨q1, q2⟩
            · cases q
            · have k := fi _ q1 rfl
              have k : X.env.scope.names.lookup y = some .cell ∨ X.env.scope.names.lookup y = some .free := k
              obtain ⟨b, hb⟩ := I.ok.has y k
              rw [hΓ, hb] at q2
              have q2 : a = b := q2
              subst q2
              refine ⟨hb, .inr k, fun z => ?_⟩
              have z : X.env.scope.names.lookup y = some .local := z
              rcases k with k | k <;> rw [k] at z <;> cases z
          obtain ⟨vs, ca, rl⟩ := caps_at I e _ ss ws look (by rw [fst]; exact hN) hw
          exact .clo (la.kp ⟨fun b φ q => mono _ _ q, fun b φ q => mono _ _ q⟩) fst (adr_nd I.ok.inj _ (by rw [fst]; exact nd) fun x hx => (look x hx).1) ca pl (rl.mono mono)
        · cases h
      · cases h
    · cases h
  | lst n hq rl =>
    rename_i a vs ws
    unfold frW at h
    cases hu : frWs S ρ ws with
    | none =>
      rw [hu] at h
      cases h
    | some us =>
      rw [hu] at h
      cases h
      exact .lst n (mono _ _ hq) (frzs_rep I e hΓ sl rl hu)
  | non => cases h; exact .non
  | bl b => cases h; exact .bl b
  | int i => cases h; exact .int i
  | str x => cases h; exact .str x
  | tup hq rl => cases h; exact (Rep.tup hq rl).mono mono
  | dct n hq rl => cases h; exact (Rep.dct n hq rl).mono mono
  | dcu n hq rl => cases h; exact (Rep.dcu n hq rl).mono mono
  | obj hq => cases h; exact .obj hq
  | scr hq => cases h; exact (Rep.scr hq).mono mono
  | stt => cases h; exact .stt
  | clo la g n k pl rl => cases h; exact (Rep.clo la g n k pl rl).mono mono
  | exo h1 h2 h3 rl => cases h; exact (Rep.exo h1 h2 h3 rl).mono mono
theorem frzs_rep (I : Inv X pins σ H s) (e : EnvOk X.K Γ c d oa ρ σ H) (hΓ : c.C = X.env.cells) (sl : SlOk X S) : ∀ {ws us : List W} {vs : List V}, RepL X.K c H ws vs → frWs S ρ ws = some us → RepL X.K c (lay H (lks X.env.cells) s.heap) us vs := fun {ws us vs} r h => by
  cases r with
  | nil =>
    cases h
    exact .nil
  | cons q r =>
    unfold frWs at h
    split at h
    · rename_i u us' h1 h2
      cases h
      exact .cons (frz_rep I e hΓ sl q h1) (frzs_rep I e hΓ sl r h2)
    · cases h
end
end
section
variable {X : Cx} {E : WX} {e : Expr} {es : List Expr} {fs : En → T (List W)} {pos p : Pos} {F : List W → T W} {k : Nat} {ps : List Str} {x : Str} {S : Str → List Nat → Option (List Nat)}
theorem tr_callZ (h : FnGs X.prog X.w X.K X.mg X.base k x ps F) (hgd : X.A.guards = some []) (hr : Room k X.A) (tk : Takes X E) (hg : Gl X x) (hΓ : Γ = X.env.cells) (sl : SlOk X S) (ha : TrA Γ X E (e :: es) fs) (hfn : ∀ y, X.fn y = true) (hst : X.stack = X.env :: X.outer) (hlo : X.env.frame = some X.env.locals)
    (hdb : (x == ("__debug__" : Str)) = false := by decide) (he : starEach (e :: es) X.env = (false, eval e X.env) :: starEach es X.env := by rfl) (hpl : (backTo pos (starEach es X.env)).any (·.1) = false := by rfl) :
    TrE Γ X E (.Call (.Name x p) (e :: es) [] pos) (fLz S fs F) := by
  obtain ⟨f, fd, G, hm, hk, hb⟩ := h
  constructor
  intro pins s σ H Q I h
  obtain ⟨c, d, oa, ρ, ev, h⟩ := h
  have hA : liftA X.K Γ E fs σ H (fun vs H1 => ∃ c d1 ws, EnvOk X.K Γ c d1 oa ρ σ H1 ∧ RepL X.K c H1 ws vs ∧ (match frWs S ρ ws with | some us => plT (F us) | none => T.bad).AllW (PQ X.K c H1 Q) (PX X.K c H1 fun cls dx H' => E cls dx σ H') d1) :=
    liftA_then (P := fun c H => PQ X.K c H Q) ev h (fun st p => p.later st) @fun c1 w v H1 d1 _ r1 e1 h1 => ⟨c1, d1, w, e1, r1, h1⟩
  refine wpAny_Call_Name_kw (ld_glob I hg hm (PySem.W.callWith_K (h₀ := X.base) I.ok.mod.kin hk (thn (ha.run pos pins s σ H _ I hA) fun us s1 z => ?_) he hpl) hdb)
  obtain ⟨vs, H1, I1, r, c, d1, ws, e1, rl, q⟩ := z
  refine ⟨I1.kIn, ?_⟩
  have hC : c.C = X.env.cells := by rw [e1.cC, hΓ]
  have non := lks_none I1
  have cel := lks_cell I1
  have nfr := lks_frs I1 hfn hst hlo
  have mono := lay_mono (h := s1.heap) non
  cases hu : frWs S ρ ws with
  | none =>
    rw [hu] at q
    exact q.elim
  | some us' =>
    rw [hu] at q
    have rl' := frzs_rep I1 e1 hC sl rl hu
    have lay_at : ∀ a ∈ lks X.env.cells, ∃ o u, s1.heap.get? a = some o ∧ lay H1 (lks X.env.cells) s1.heap a = some (ObX a o) ∧ o.data = .cell u := fun a m => by
      obtain ⟨o, u, h1, h2⟩ := cel a m
      exact ⟨o, u, h1, lay_in m h1, h2⟩
    have n0 := I1.env0
    have e0 : Env0 X.prog X.w X.K X.mg X.base X.A X.stack s1 (lay H1 (lks X.env.cells) s1.heap) := ⟨n0.frames, n0.mod, fun b o eb => ⟨(n0.bs b o eb).1, by
      rw [lay_out]
      · exact (n0.bs b o eb).2
      · intro m
        obtain ⟨y, ey⟩ := lks_mem m
        have h1 := I1.ok.cab y b (hfn y) ey
        exact Nat.lt_irrefl _ (Nat.lt_of_lt_of_le (Nat.lt_of_lt_of_le (Heap.lt_size eb) I1.ok.bsz) h1)⟩, n0.bsz, n0.funs, fun b hb => by
      rw [lay_out (fun m => nfr b m hb)]
      exact n0.frf b hb, hok_lay n0.hok non fun a m => by
      obtain ⟨o, u, h1, _⟩ := cel a m
      exact ⟨o, h1, h1⟩, n0.bare⟩
    have wd : Wd c d1 (lay H1 (lks X.env.cells) s1.heap) := ⟨e1.ok, e1.st.mono mono, fun b hb => by
      obtain ⟨o, h1, h2⟩ := e1.av b hb
      exact ⟨o, mono _ _ h1, h2⟩⟩
    have keepL : ∀ {c2 : Cc} {H' : Hp}, SG c c2 (lay H1 (lks X.env.cells) s1.heap) H' → CellsX H' (lks X.env.cells) s1.heap := fun {c2 H'} st a m => by
      obtain ⟨o, u, h1, h2, h3⟩ := lay_at a m
      obtain ⟨kvs, hS⟩ := e1.st.S
      obtain ⟨xs, hl⟩ := e1.st.la
      exact ⟨o, u, h1, st.st.keep a _ h2 (Ne.symm (ne_of_none hS (non a m))) (Ne.symm (ne_of_none hl (non a m))) nofun, h3⟩
    have backS : ∀ {c2 : Cc} {H' : Hp}, SG c c2 (lay H1 (lks X.env.cells) s1.heap) H' → SG c c2 H1 (era H' (lks X.env.cells)) := fun {c2 H'} st => ⟨st.g, fun b o eb h1 h2 nt => by
      have m : b ∉ lks X.env.cells := fun z => by rw [non b z] at eb; cases eb
      rw [era_out m]
      exact st.st.keep b o (mono _ _ eb) h1 h2 nt, fun b qs eb => by
      have m : b ∉ lks X.env.cells := fun z => by rw [non b z] at eb; cases eb
      rw [era_out m]
      exact st.st.tbl b qs (mono _ _ eb), fun b C dx fs eb => by
      have m : b ∉ lks X.env.cells := fun z => by rw [non b z] at eb; cases eb
      rw [era_out m]
      exact st.st.ins b C dx fs (mono _ _ eb)⟩
    have sp : SpF X.K F vs (lay H1 (lks X.env.cells) s1.heap) (fun v H' => Lent H' (lks X.env.cells) s1.heap ∧ Q v (era H' (lks X.env.cells))) (fun cls dx H' => Lent H' (lks X.env.cells) s1.heap ∧ E cls dx σ (era H' (lks X.env.cells))) := by
      refine ⟨c, d1, us', ⟨e1.tT, e1.kK⟩, wd, rl', T.AllW.imp (fun d2 w hw => ?_) (fun d2 n fs hw => ?_) (plT_all q)⟩
      · intro c2 v H' st so rv
        have cx := keepL st
        exact ⟨cx.lent, hw.2 v _ (backS st) (so.era cx) (rv.plain (fun b o eb n => by rw [era_out (cx.no eb n)]; exact eb) hw.1)⟩
      · intro c2 cls dx H' st so rv
        have cx := keepL st
        obtain ⟨r1, d', vs', r2, r3, r4, r5⟩ := rv
        exact ⟨cx.lent, hw.2 cls dx _ (backS st) (so.era cx) ⟨r1, d', vs', r2, by rw [era_out (cx.no r3 nofun)]; exact r3, r4, r5.plain (fun b o eb n => by rw [era_out (cx.no eb n)]; exact eb) hw.1⟩⟩
    have hl : (us ++ []).length = ps.length := by rw [List.append_nil, ← r.length]; exact G.len _ _ _ _ sp
    have bt := hb s1 us I1.kIn hl
    rw [List.append_nil] at bt
    refine wpAny_call (codeAny_mono (G.go X.A X.stack s1 _ ⟨us, []⟩ us vs _ _ hgd hr e0 bt r sp) fun r s' hq => ?_)
    have hq := cr_back (E := fun cls dx H' => E cls dx σ H') non (fun a m => by
      obtain ⟨o, u, h1, _⟩ := cel a m
      exact ⟨o, h1⟩) nfr hq
    match r, hq with
    | .error er, hq => exact tk _ _ (XE.of_call I1 (fun _ _ _ z => z) hq)
    | .ok (.ret u), hq => exact I1.after hq
    | .ok .next, hq => exact False.elim hq
    | .ok .brk, hq => exact False.elim hq
    | .ok .cont, hq => exact False.elim hq
end
def defL (n np : Nat) (g : En → T (Fl × En)) : List W → T W := fun ws => if plainL ws then plT (defF n np g ws) else .bad
section
variable {P : Program} {w : World} {K : PySem.W.Frag} {mg : Str → Option Value} {base : Heap} {x qual : Str} {params : Arguments} {body : List Stmt} {scope : Scope} {f : Addr} {fd : FuncData}
theorem fn_trL {k : Nat} {N ps : List Str} {g : En → T (Fl × En)} (F : FunD K x qual params body scope [] [] f fd) (S : FnScope N ps scope)
    (hb : ∀ (cdv : Value) (A : Around) (o : List PySem.Env) (s : Shared) (H : Hp) (E : XK), fd.code = cdv → A.guards = some [] → Room k (A.deeper (envOfC qual scope s.heap.objs.size f cdv)) → TrSs (envOfC qual scope s.heap.objs.size f cdv).cells (cxOf (L2.CX P w) P w K mg base N qual scope f cdv A o s H E) E body g) :
    FnG P w K mg base (k + 1) f fd ps (SpF K (defL N.length ps.length g)) := by
  refine gdef F S (SpF.len fun ws h => ?_) fun cdv A o s H vs Q E hcd hg hr h => ⟨_, hb cdv A o s H E hcd hg hr, ?_⟩
  · unfold defL defF
    rw [if_neg (fun z => h (eq_of_beq z))]
    split <;> rfl
  · obtain ⟨c, d, ws, hT, wd, r, h⟩ := h
    obtain ⟨pl, h⟩ := T.AllW.ite h
    obtain ⟨_, h⟩ := T.AllW.ite (plT_all h)
    have wdb : Wd { c with M := [], C := (envOfC qual scope s.heap.objs.size f cdv).cells } d H := ⟨⟨wd.ok.inS, wd.ok.inla, wd.ok.inca⟩, wd.st.weakN rfl rfl rfl rfl rfl rfl (fun _ h => h) ⟨wd.ok.inS, wd.ok.inla, wd.ok.inca⟩, wd.av⟩
    have so1 : ∀ {c' : Cc} {d1 : Dw} {H' : Hp}, Fwd K { c with M := [], C := (envOfC qual scope s.heap.objs.size f cdv).cells } H c' H' → StOk c' d1 H' → StOk (c.wide c') d1 H' := fun fw e => e.weakN fw.S fw.ca fw.la fw.T fw.KK rfl (fun b hb => fw.sub b hb fun z => by cases z) ⟨wd.ok.inS, wd.ok.inla, wd.ok.inca⟩
    have st1 : ∀ {c' : Cc} {H' : Hp}, Fwd K { c with M := [], C := (envOfC qual scope s.heap.objs.size f cdv).cells } H c' H' → SG c (c.wide c') H H' := fun fw => ⟨⟨rfl, rfl, rfl, rfl, rfl, rfl, rfl, rfl, fw.O⟩, fun b o hb h1 h2 h3 => fw.step b o hb h1 h2 (fun z => by cases z) h3, fun b ps hb => fw.tbl b ps hb fun z => (by cases z), fun b C dx fs hb => fw.ins b C dx fs hb fun z => by cases z⟩
    refine ⟨_, d, fun _ => 0, startE N.length ws, start_ok wdb hT rfl (RepL.weakP (c := { c with M := [], C := (envOfC qual scope s.heap.objs.size f cdv).cells }) (c1 := c) rfl rfl (fun _ h => h) pl r), T.AllW.imp (fun d1 x hx => ?_) (fun d1 n fs y => ?_) (T.allW_bind.mp h)⟩
    · obtain ⟨fl, ρ'⟩ := x
      intro c' oa' σ' H' fw e'
      cases fl with
      | nx => exact hx.2 _ H' (st1 fw) (so1 fw e'.st) .non
      | rt w => exact fun v rv => hx.2 v H' (st1 fw) (so1 fw e'.st) (Rep.weakP (c := c.wide c') (c1 := c') fw.S rfl (fun b hb => fw.sub b hb fun z => by cases z) hx.1 rv)
      | bk => exact hx.elim
      | ct => exact hx.elim
    · intro c' cls dx H' fw so r
      obtain ⟨r1, dd, vs, r2, r3, r4, r5⟩ := r
      exact y.2 cls dx H' (st1 fw) (so1 fw so) ⟨r1, dd, vs, r2, r3, r4, RepL.weakP (c := c.wide c') (c1 := c') fw.S rfl (fun b hb => fw.sub b hb fun z => by cases z) y.1 r5⟩
end
end PF
namespace PF
open PySem PySem.Spec PyProof.Rows L2
def TyT (X : Cx) (ty : Expr) (m : Value → Option Bool) : Prop := ∀ (a : Addr) (oe : Obj) (pn pins : List (Addr × Obj)) (s : Shared) (σ : L2.St) (H : Hp), Inv (X.suite a ((a, oe) :: pn)) pins σ H s → ∀ (R : Value → Shared → Prop) (E : Value → Shared → Prop),
  (∀ (c : Value) (h' : Heap), (∀ b o, s.heap.get? b = some o → h'.get? b = some o) → (∀ cls b, m cls = some b → PySem.W.Looks (model X.prog X.w) h' (typeOf (.ref a)) cls → PySem.W.Looks (model X.prog X.w) h' (excMatches (.ref a) c) b) → R c { s with heap := h' }) →
  wpAny (model X.prog X.w) (X.A.mark (some (.ref a))) (eval ty X.env) R E s
theorem tyT_name {X : Cx} {x : Str} {np : Pos} {c : Value} (hg : Gl X x) (hm : X.mg x = some c) (hdb : (x == ("__debug__" : Str)) = false := by decide) : TyT X (.Name x np) (fun cls => PySem.W.exmOne X.K cls c) := fun a oe pn pins s σ H S R E h =>
  ld_glob (X := X.suite a ((a, oe) :: pn)) S hg hm (h c s.heap (fun _ _ q => q) fun cls b hb LT => PySem.W.exm_one (M := model X.prog X.w) S.kIn LT hb) hdb
theorem tyT_two {X : Cx} {x y : Str} {np nq tp : Pos} {k : Nat} {c d : Value} (hg : Gl X x) (hm : X.mg x = some c) (hg' : Gl X y) (hm' : X.mg y = some d) (hdb : (x == ("__debug__" : Str)) = false := by decide) (hdb' : (y == ("__debug__" : Str)) = false := by decide)
    (h1 : starEach [Expr.Name x np, .Name y nq] X.env = (false, eval (.Name x np) X.env) :: starEach [.Name y nq] X.env := by rfl) (h2 : starEach [Expr.Name y nq] X.env = (false, eval (.Name y nq) X.env) :: starEach [] X.env := by rfl) : TyT X (.Tuple [.Name x np, .Name y nq] k tp) (fun cls => PySem.W.exmAny X.K cls [c, d]) := fun a oe pn pins s σ H S R E h => by
  refine wpAny_Tuple_spliced ?_
  rw [h1]
  show wpAny _ _ (spliced ((false, eval (.Name x np) X.env) :: backTo tp (starEach [Expr.Name y nq] X.env))) _ _ s
  refine Calls.spliced_cons (ld_glob (X := X.suite a ((a, oe) :: pn)) S hg hm ?_ hdb)
  rw [h2]
  show wpAny _ _ (spliced ((false, eval (.Name y nq) X.env) :: backTo tp (starEach [] X.env))) _ _ s
  refine Calls.spliced_cons (ld_glob (X := X.suite a ((a, oe) :: pn)) S hg' hm' ?_ hdb')
  refine Calls.spliced_nil ⟨by rw [sizeLine_eq]; show 2 ≤ 16777216; decide, ?_⟩
  refine h _ _ (fun b o q => Heap.get?_push_of_some _ q) fun cls b hb LT => ?_
  exact PySem.W.exm_tup2 (S.kIn.keeps fun b o q => Heap.get?_push_of_some _ q) LT (Heap.get?_push_size _ rfl) hb
def wK (m : Value → Option Bool) (D : Ends) (i j : Nat) : WX := fun cls dx σ H => m cls = some true ∧ ∀ a, H a = none → D.nx (((σ.set i (some (.ref a))).set j (some (.ref a))).set i none) (upd H a (ExV a cls dx))
section
variable {X : Cx} {pins : List (Addr × Obj)} {σ : L2.St} {H : Hp} {s : Shared}
theorem Inv.adoptO {a : Addr} {o : HO} (I : Inv X pins σ H s) (new : ObjOk X.prog X.w (upd H a o) s.heap a o) (n : H a = none) (n0 : X.s_0.heap.get? a = none) (nL : a ≠ X.env.locals) (nC : ∀ y c, X.env.cells.lookup y = some c → c ≠ a) (nP : ∀ p ∈ X.pn ++ pins, p.1 ≠ a) : Inv X pins σ (upd H a o) s where
  ok := I.ok
  os := I.os
  bare := I.bare
  base := {
    keep := I.base.keep
    slot := I.base.slot
    free := fun b o e1 e2 e3 => by
      rw [upd_ne (fun z => by rw [z, n0] at e1; cases e1)]
      exact I.base.free b o e1 e2 e3
    there := I.base.there
    tups := fun b xs q => by
      have := I.base.tups b xs q
      rw [upd_ne (ne_of_none this n)]
      exact this
    frzs := fun b o xs q => by
      have := I.base.frzs b o xs q
      rw [upd_ne (ne_of_none this n)]
      exact this
    tbls := fun b ps q => by
      obtain ⟨m, this⟩ := I.base.tbls b ps q
      exact ⟨m, by rw [upd_ne (ne_of_none this n)]; exact this⟩ }
  loc := I.loc
  cell := I.cell
  free := by rw [upd_ne (Ne.symm nL)]; exact I.free
  freeC := fun y c h => by rw [upd_ne (nC y c h)]; exact I.freeC y c h
  pin := fun p hp => by
    obtain ⟨h1, h2, h3⟩ := I.pin p hp
    exact ⟨h1, by rw [upd_ne (nP p hp)]; exact h2, h3⟩
  hok := HOk.laidN I.hok (fun _ _ q => q) n new
  len := I.len
end
theorem exV_ok {P : Program} {w : World} {H : Hp} {h : Heap} {a : Addr} {cls : Value} {dx : Option Addr} {oe : Obj} {vs : Array Value} (e : h.get? a = some oe) (z : Zc cls dx oe) (d : oe.data = .fields vs) : ObjOk P w H h a (ExV a cls dx) :=
  ⟨⟨oe, vs, e, z, d⟩, ⟨oe, e⟩, fun _ _ ⟨o, v, q, r⟩ k => ⟨o, v, k o q, r⟩⟩
theorem flyZ_kp {B : Heap} {l : List PySem.Env} {e : Addr} {Z : Obj → Prop} {L : Addr} {h h' : Heap} (kp : ∀ b o, h.get? b = some o → h'.get? b = some o) (fl : HandSPX.HeldZ B l e Z L h) : HandSPX.HeldZ B l e Z L h' := by
  obtain ⟨k1, k2, k3, oe, vs, T, oT, ts, h1, h2, h3, h4, h5, h6, h7, h8, h9⟩ := fl
  exact ⟨fun b o q => kp _ _ (k1 b o q), k2, k3.of_keeps fun b o q _ => ⟨o, kp _ _ q, rfl⟩, oe, vs, T, oT, ts, kp _ _ h1, h2, h3, h4, h5, h6, kp _ _ h7, h8, h9⟩
theorem flyZ_kpN {B : Heap} {l : List PySem.Env} {e : Addr} {Z : Obj → Prop} {h h' : Heap} (kp : ∀ b o, h.get? b = some o → h'.get? b = some o) (fl : HandSPX.FlyingZ B l e Z h) : HandSPX.FlyingZ B l e Z h' := by
  obtain ⟨k1, k2, k3, oe, vs, T, oT, ts, h1, h2, h3, h4, h5, h6, h7, h8, h9⟩ := fl
  exact ⟨fun b o q => kp _ _ (k1 b o q), k2, k3.of_keeps fun b o q _ => ⟨o, kp _ _ q, rfl⟩, oe, vs, T, oT, ts, kp _ _ h1, h2, h3, h4, h5, h6, kp _ _ h7, h8, h9⟩
section
variable {X : Cx} {body : List Stmt} {ty : Expr} {n y : Str} {i j : Nat} {m : Value → Option Bool} {p2 p3 p4 ps pos : Pos} {tb : WX → TS}
theorem ps_tryK (hs : X.stack = X.env :: X.outer) (hf : X.env.frame = some X.env.locals) (hN : X.N.Nodup) (hex : X.ex = []) (hi : X.N[i]? = some n) (hl : X.env.kindOf n = some .local) (hj : X.N[j]? = some y) (hy : X.env.scope.names.lookup y = some .local)
    (hb : ∀ (W : WX) (pn : List (Addr × Obj)) (xe : Value → Shared → Prop), Takes (X.tr pn xe) W → PassesOwn (model X.prog X.w) X.A X.env xe → PSs (X.tr pn xe) body (tb W)) (ht : TyT X ty m)
    (hsw : swapsWith (.Name n p2) (some (.Name y p3)) p4.line X.env = pure false := by rfl) (hd : (n == ("__debug__" : Str)) = false := by decide) (hcd : (n == ("__classdict__" : Str)) = false := by decide) :
    PS X (.Try body [.ExceptHandler (some ty) (some n) [.Assign [.Name y p3] (.Name n p2) p4] ps] [] [] pos) (fun D σ H => tb (wK m D i j) D σ H) := by
  constructor
  intro pins s σ H D I h
  have ok := I.ok
  have hfr : X.A.frames = some (X.env :: X.outer) := by rw [ok.frames, hs]
  refine wpAny_Try_except (wpAny_mono ((hb (wK m D i j) (X.pn ++ pins) (fun e s1 => wpAny (model X.prog X.w) X.A (noteFrame e X.env) (fun _ s2 => wpAny (model X.prog X.w) X.A (setFlight e none) (fun _ s3 =>
    wpAny (model X.prog X.w) X.A (handleBy e X.env [.ExceptHandler (some ty) (some n) [.Assign [.Name y p3] (.Name n p2) p4] ps]) (SP X pins D) X.xe s3) X.xe s2) X.xe s1) (fun u s' xx => ?_) PassesOwn.looking).run [] s σ H D (I.toTry _) h) (fun f s1 hsp => ?_) (fun e s1 he => he))
  · obtain ⟨a, B, sI, pins', σ1, H1, cls, dx, rfl, J', nb, up, sky, na, os, ag, w⟩ := xx
    have J : Inv X pins σ1 H1 sI := J'.ofTry ok
    have sky1 : Sky B (X.env :: X.outer) a (Zc cls dx) X.env.locals s'.heap := by rw [← hs]; exact sky
    have Ba : B.get? a = none := by
      rcases sky1 with z | z | z
      · exact z.2.1
      · exact z.2.1
      · exact z.2.1
    show wpAny (model X.prog X.w) X.A (noteFrame (.ref a) X.env) _ _ _
    refine Sky.land Zc.steady hfr hf sky1 fun h3 fl3 up3 => ?_
    have J3 : Inv X pins σ1 H1 { s' with heap := h3 } := J.landed nb fl3.1 (up.trans up3) os ag
    obtain ⟨oe3, vs3, he3, hz3, hd3⟩ := fl3.there
    have nfr : a ∉ frs (X.env :: X.outer) := fun hm => by
      obtain ⟨_, o', e', hnf⟩ := fl3.2.2.1.mem hm
      rw [he3] at e'
      cases e'
      exact hnf _ hd3
    have nL : a ≠ X.env.locals := fun z => nfr (List.mem_filterMap.mpr ⟨X.env, List.mem_cons_self, by rw [hf, z]⟩)
    have nF : a ∉ X.fs := fun hm => by
      obtain ⟨e, he, q⟩ := List.mem_filterMap.mp hm
      exact nfr (List.mem_filterMap.mpr ⟨e, List.mem_cons_of_mem _ he, q⟩)
    have sIa : ∀ b o, sI.heap.get? b = some o → b ≠ a := fun b o q z => by
      rw [z] at q
      have := nb a o q (by rw [hs]; exact nfr)
      rw [Ba] at this
      cases this
    have n0 : X.s_0.heap.get? a = none := by
      cases q : X.s_0.heap.get? a with
      | none => rfl
      | some o =>
        obtain ⟨o', q'⟩ := J.base.there a o q (by rw [hex]; exact fun z => nomatch z)
        exact absurd rfl (sIa a o' q')
    have nC : ∀ y c, X.env.cells.lookup y = some c → c ≠ a := fun y c hc => by
      obtain ⟨v, o, q, _⟩ := J.cell y c hc
      exact sIa c o q
    have nP : ∀ p ∈ X.pn ++ pins, p.1 ≠ a := fun p hp => sIa p.1 p.2 (J.pin p hp).1
    have S3 := J3.suite he3 hd3 na nL nF
    obtain ⟨hb1, yes⟩ := w
    refine wpAny_handleBy_cons (codeAny_handlers_test (ht a oe3 _ _ _ _ _ S3 _ _ fun c h5 kp5 mt => ?_)) (by intro q; cases q)
    have LT : PySem.W.Looks (model X.prog X.w) h5 (typeOf (.ref a)) cls := fun A Q E s k q => wpAny_typeOf_ref (k _ _ (kp5 _ _ he3)) (by rw [hz3.1]; exact q)
    refine (mt cls true hb1 LT).here ?_
    have fl5 := flyZ_kpN kp5 fl3
    refine codeAny_handlers_suite_as (HandSPX.lands_againZ fl5 fun h4 fl4 up4 => ?_)
    have J4 : Inv X pins σ1 H1 { s' with heap := h4 } := J.landed nb fl4.1 (((up.trans up3).trans (Heap.UpToSlots.of_keeps kp5)).trans up4) os ag
    obtain ⟨oe4, vs4, he4, hz4, hd4⟩ := fl4.there
    refine store_ok (X := X.suite a ((a, oe4) :: (X.pn ++ pins))) (v := .ref a) (J4.suite he4 hd4 na nL nF) hN hi (.inl hl) rfl (fun s5 S5 => ?_) (.inr hl)
    have il : i < σ1.length := by rw [J.len]; exact (List.getElem?_eq_some_iff.mp hi).1
    have su : PSs (X.suite a ((a, oe4) :: (X.pn ++ pins))) [.Assign [.Name y p3] (.Name n p2) p4] (tAsg (tVar i) (gName j)) := pss_one (ps_set (X := X.suite a ((a, oe4) :: (X.pn ++ pins))) hN hj (.inl hy) (pe_var (X := X.suite a ((a, oe4) :: (X.pn ++ pins))) (i := i) hi (.inl hl) hd hcd) hsw (.inr hy))
    refine wpAny_mono (su.run [] s5 (σ1.set i (some (.ref a))) H1 { nx := fun σ6 H6 => σ6 = (σ1.set i (some (.ref a))).set j (some (.ref a)) ∧ H6 = H1, rt := fun _ _ => False, bk := fun _ _ => False, ct := fun _ _ => False } S5 ⟨.ref a, List.getElem?_set_self il, rfl, rfl⟩) (fun f s6 hsp => ?_) (fun _ _ z => False.elim z)
    match f, hsp with
    | .next, ⟨σ6, H6, S6, e6, e7⟩ =>
      subst e6
      subst e7
      obtain ⟨g6, _⟩ := S6.pin (a, oe4) (List.mem_append.mpr (.inl List.mem_cons_self))
      have J6 : Inv X pins ((σ1.set i (some (.ref a))).set j (some (.ref a))) H6 s6 := S6.unsuite ok
      have J7 := Inv.adoptO (o := ExV a cls dx) J6 (exV_ok g6 hz4 hd4) na n0 nL nC nP
      exact gone_ok J7 hN hi hl fun s7 J8 => ⟨_, _, J8, yes a na⟩
    | .brk, ⟨σ6, H6, S6, q6⟩ => exact q6.elim
    | .cont, ⟨σ6, H6, S6, q6⟩ => exact q6.elim
    | .ret u, ⟨v6, σ6, H6, S6, r6, q6⟩ => exact q6.elim
  · match f, hsp with
    | .next, ⟨σ', H', J', q⟩ => exact wpAny_execs_nil ⟨σ', H', J'.ofTry ok, q⟩
    | .brk, ⟨σ', H', J', q⟩ => exact ⟨σ', H', J'.ofTry ok, q⟩
    | .cont, ⟨σ', H', J', q⟩ => exact ⟨σ', H', J'.ofTry ok, q⟩
    | .ret u, ⟨v, σ', H', J', r, q⟩ => exact ⟨v, σ', H', J'.ofTry ok, r, q⟩
end
end PF
namespace PF
open PySem PySem.Spec PyProof.Rows L2
def putO (ks : Option Nat) (w : W) (ρ : En) : En := match ks with
  | some q => ρ.set q (.val w)
  | none => ρ
def sTryK (ks : Option Nat) (f : En → T W) (ns : List Nat) (i j : Nat) : En → T (Fl × En) := fun ρ => (f ρ).catch (fun w => .ok (.nx, putO ks w ρ)) fun n fs => if ns.contains n then .ok (.nx, (ρ.set j (.val (.exo n fs))).set i .un) else .bad
theorem set_three {α : Type} (σ : List α) {i j : Nat} (h : i ≠ j) (x y z : α) : ((σ.set i x).set j y).set i z = (σ.set j y).set i z := by
  rw [List.set_comm _ _ h, List.set_set]
section
variable {X : Cx} {E : XK} {e ty : Expr} {f : En → T W} {n y : Str} {i j : Nat} {m : Value → Option Bool} {ns : List Nat} {p1 p2 p3 p4 ps pos : Pos}
theorem tryK_exc {c : Cc} {d d0 : Dw} {oa : Nat → Addr} {ρ : En} {σ : L2.St} {H : Hp} {D : Ends} (hij : i ≠ j) (hm : ∀ n ∈ ns, m (.ref (He.ga X.K (xName n))) = some true) (ev : EnvOk X.K Γ c d oa ρ σ H) {n : Nat} {fs : List W} (hx : (if ns.contains n then .ok (.nx, (ρ.set j (.val (.exo n fs))).set i .un) else .bad : T (Fl × En)).AllW (PSq X.K Γ c H D) (PXs X.K c H E) d0) :
    PX X.K c H (fun cls dx H' => wK m D i j cls dx σ H') d0 n fs := fun c cls dx H1 st so rx => by
  obtain ⟨hn, hx⟩ := T.AllW.ite hx
  obtain ⟨r1, d', vs, r2, r3, r4, r5⟩ := rx
  subst r1
  subst r2
  refine ⟨hm n (List.contains_iff_mem.mp hn), fun a na => ?_⟩
  have e1 := ev.step st so
  have e2 := e1.step (H' := upd H1 a (ExV a (.ref (He.ga X.K (xName n))) (some d'))) (.new na) (e1.st.new na)
  have rep : Rep X.K c (upd H1 a (ExV a (.ref (He.ga X.K (xName n))) (some d'))) (.exo n fs) (.ref a) := .exo upd_same (by rw [upd_ne (ne_of_none r3 na)]; exact r3) r4 (r5.step (.new na) e1.st e1.ok)
  have e3 := (e2.set (i := j) rep).un (v := i)
  rw [set_three σ hij]
  exact hx _ oa _ _ (.of (st.trans (.new na)) ev.wd) e3
theorem tr_tryK (hs : X.stack = X.env :: X.outer) (hf : X.env.frame = some X.env.locals) (hN : X.N.Nodup) (hex : X.ex = []) (hi : X.N[i]? = some n) (hl : X.env.kindOf n = some .local) (hj : X.N[j]? = some y) (hy : X.env.scope.names.lookup y = some .local) (hij : i ≠ j) (ht : TyT X ty m) (hm : ∀ n ∈ ns, m (.ref (He.ga X.K (xName n))) = some true)
    (he : ∀ (W : WX) (pn : List (Addr × Obj)) (xe : Value → Shared → Prop), Takes (X.tr pn xe) W → TrE Γ (X.tr pn xe) W e f) (hse : swapsWith e none p1.line X.env = pure false := by rfl)
    (hsw : swapsWith (.Name n p2) (some (.Name y p3)) p4.line X.env = pure false := by rfl) (hd : (n == ("__debug__" : Str)) = false := by decide) (hcd : (n == ("__classdict__" : Str)) = false := by decide) :
    TrS Γ X E (.Try [.Expr e p1] [.ExceptHandler (some ty) (some n) [.Assign [.Name y p3] (.Name n p2) p4] ps] [] [] pos) (sTryK none f ns i j) := by
  refine ps_imp (ps_tryK (tb := fun W => tDrop (liftE X.K Γ W f)) hs hf hN hex hi hl hj hy (fun W pn xe tk' _ => pss_one (ps_expr (X := X.tr pn xe) (he W pn xe tk') hse)) ht hsw hd hcd) fun D σ H qq => ?_
  obtain ⟨c, d, oa, ρ, ev, qq⟩ := qq
  refine ⟨c, d, oa, ρ, ev, T.AllW.imp (fun d1 w hx => ?_) (fun d1 n fs hx => tryK_exc hij hm ev hx) (T.allW_catch.mp qq)⟩
  intro _ v H1 st so rv
  exact hx _ oa _ H1 (.of st ev.wd) (ev.step st so)
theorem tr_tryKA {q : Nat} {z : Str} {pz : Pos} (hs : X.stack = X.env :: X.outer) (hf : X.env.frame = some X.env.locals) (hN : X.N.Nodup) (hex : X.ex = []) (hi : X.N[i]? = some n) (hl : X.env.kindOf n = some .local) (hj : X.N[j]? = some y) (hy : X.env.scope.names.lookup y = some .local) (hij : i ≠ j) (ht : TyT X ty m) (hm : ∀ n ∈ ns, m (.ref (He.ga X.K (xName n))) = some true)
    (hq : X.N[q]? = some z) (hz : X.env.scope.names.lookup z = some .local) (he : ∀ (W : WX) (pn : List (Addr × Obj)) (xe : Value → Shared → Prop), Takes (X.tr pn xe) W → TrE Γ (X.tr pn xe) W e f) (hse : swapsWith e (some (.Name z pz)) p1.line X.env = pure false := by rfl)
    (hsw : swapsWith (.Name n p2) (some (.Name y p3)) p4.line X.env = pure false := by rfl) (hd : (n == ("__debug__" : Str)) = false := by decide) (hcd : (n == ("__classdict__" : Str)) = false := by decide) :
    TrS Γ X E (.Try [.Assign [.Name z pz] e p1] [.ExceptHandler (some ty) (some n) [.Assign [.Name y p3] (.Name n p2) p4] ps] [] [] pos) (sTryK (some q) f ns i j) := by
  refine ps_imp (ps_tryK (tb := fun W => tAsg (liftE X.K Γ W f) (gName q)) hs hf hN hex hi hl hj hy (fun W pn xe tk' _ => pss_one (ps_set (X := X.tr pn xe) hN hq (.inl hz) (he W pn xe tk') hse (.inr hz))) ht hsw hd hcd) fun D σ H qq => ?_
  obtain ⟨c, d, oa, ρ, ev, qq⟩ := qq
  refine ⟨c, d, oa, ρ, ev, T.AllW.imp (fun d1 w hx => ?_) (fun d1 n fs hx => tryK_exc hij hm ev hx) (T.allW_catch.mp qq)⟩
  intro _ v H1 st so rv
  exact hx _ oa _ H1 (.of st ev.wd) ((ev.step st so).set rv)
end
structure KxC (K : PySem.W.Frag) (C : Addr) : Prop where
  cl : (PySem.W.clsIn K C).isSome = true
  ha : PySem.W.findIn K (.ref C) "__class__" = some (some (.builtin "object.__class__"))
  hn : PySem.W.specialIn K (.builtin "object.__class__") "__get__" = some (some (.builtin "getset_descriptor.__get__"))
  ht : PySem.W.takesIn K (.builtin "object.__class__") = some true
  hm : PySem.W.mroIn K C (.type "object") = some true
  xf : XfC K C
def kxB (K : PySem.W.Frag) (C : Addr) : Bool := (PySem.W.clsIn K C).isSome && (decide (PySem.W.findIn K (.ref C) "__class__" = some (some (.builtin "object.__class__"))) && (decide (PySem.W.specialIn K (.builtin "object.__class__") "__get__" = some (some (.builtin "getset_descriptor.__get__"))) && (decide (PySem.W.takesIn K (.builtin "object.__class__") = some true) && (decide (PySem.W.mroIn K C (.type "object") = some true) && xfB K C))))
theorem kxB_ok {K : PySem.W.Frag} {C : Addr} (h : kxB K C = true) : KxC K C := by
  unfold kxB at h
  simp only [Bool.and_eq_true, decide_eq_true_eq] at h
  exact ⟨h.1, h.2.1, h.2.2.1, h.2.2.2.1, h.2.2.2.2.1, xfB_ok h.2.2.2.2.2⟩
/-- n: which of the errors, b: whether it is one of the class y -/
def IsX (K : PySem.W.Frag) (y : Str) (n : Nat) (b : Bool) : Prop := KxC K (He.ga K (xName n)) ∧ PySem.W.kitOne K (.ref (He.ga K (xName n))) (.ref (He.ga K y)) = some b
def isxW (m : List (Nat × Bool)) : W → T W
  | .exo n _ => match m.lookup n with
    | some b => .ok (.bl b)
    | none => .bad
  | _ => .bad
theorem exo_inst {P : Program} {w : World} {K : PySem.W.Frag} {H : Hp} {h : Heap} {a d : Addr} {C : Addr} {fs : List (Str × V)} (hok : HOk P w H h) (h1 : H a = some (ExV a (.ref C) (some d))) (h2 : H d = some (.xd fs)) : ∃ oe od mA, PySem.W.InstAt h a oe C (some od) ∧ h.Ns1 d mA ∧ h.get? d = some od ∧ ∀ f, RelO (fs.lookup f) (mA f) := by
  obtain ⟨⟨oe, vs, e1, hz, hd⟩, _⟩ := hok a _ h1
  obtain ⟨mA, hns, hr⟩ := (show ObjOk P w H h d (.xd fs) from hok d _ h2)
  obtain ⟨od, ho, hl⟩ := lookIn_ns hns
  exact ⟨oe, od, mA, ⟨e1, hz.1, by unfold PySem.W.notCls; rw [hd] <;> rfl, by rw [hz.2]; exact ho⟩, hns, ho, hr⟩
theorem call_isX {X : Cx} : CallR X (.builtin "isinstance") (fun xs H Q => ∃ (a d C : Addr) (fs : List (Str × V)) (c : Addr) (b : Bool), xs = [.ref a, .ref c] ∧ KxC X.K C ∧ PySem.W.kitOne X.K (.ref C) (.ref c) = some b ∧ H a = some (ExV a (.ref C) (some d)) ∧ H d = some (.xd fs) ∧ Q (.bl b) H) := by
  intro pins s σ H xs us Q I r h
  obtain ⟨a, d, C, fs, c, b, rfl, k, e, h1, h2, q⟩ := h
  cases r with
  | cons rx rr =>
    cases rr with
    | cons rt rr =>
      cases rr
      cases rx
      cases rt
      obtain ⟨oe, od, mA, J, _⟩ := exo_inst (K := X.K) I.hok h1 h2
      exact PySem.W.kia_one (PySem.W.kitx_exc k.cl k.xf.ga k.xf.gg k.xf.exC k.ha k.hn k.ht k.hm) I.kIn J e (fun z => nomatch z) fun tk => ⟨.bl b, H, I.kept (t' := tk) fun _ _ z => z, rfl, q⟩
theorem tr_isx {X : Cx} {E : WX} {a : Expr} {fa : En → T W} {y : Str} {p p2 pos : Pos} {m : List (Nat × Bool)} (hi : ∀ n b, m.lookup n = some b → IsX X.K y n b) (hg : Gl X "isinstance") (hm : X.mg "isinstance" = none) (hgY : Gl X y) (hmY : X.mg y = some (.ref (He.ga X.K y))) (ha : TrE Γ X E a fa)
    (hd : (y == ("__debug__" : Str)) = false := by decide)
    (hs1 : starEach [a, .Name y p2] X.env = (false, eval a X.env) :: starEach [.Name y p2] X.env := by rfl) (hs2 : starEach [.Name y p2] X.env = (false, eval (.Name y p2) X.env) :: starEach [] X.env := by rfl) (hpl : (backTo pos (starEach [.Name y p2] X.env)).any (·.1) = false := by rfl) :
    TrE Γ X E (.Call (.Name "isinstance" p) [a, .Name y p2] [] pos) (f1 (isxW m) fa) := pe_imp (pe_callB (id := "isinstance") call_isX hg hm (by decide +kernel) (pa_cons ha (pa_cons (pe_glob (v := .ref (He.ga X.K y)) hgY hmY rfl hd) pa_nil hs2) hs1) (by decide) (by decide) hs1 hpl) fun σ H Q h => by
  obtain ⟨c, d, oa, ρ, e, h⟩ := h
  refine lift_then (P := fun c H => PQ X.K c H Q) e h (fun st p => p.later st) @fun c1 w v H1 d1 _ r1 e1 h1 => ?_
  cases r1 with
  | exo g1 g2 g3 g4 =>
    rename_i a' d' n fs vs
    have h1 : (match m.lookup n with | some b => T.ok (W.bl b) | none => T.bad).AllW (PQ X.K c1 H1 Q) _ d1 := h1
    cases hl : m.lookup n with
    | none =>
      rw [hl] at h1
      exact h1.elim
    | some b =>
      rw [hl] at h1
      obtain ⟨k1, k2⟩ := hi n b hl
      exact ⟨_, _, _, _, _, b, rfl, k1, k2, g1, g2, PQ.now e1.wd h1 (.bl b)⟩
  | _ => exact h1.elim
def xfW (f : Str) (ns : List Nat) : W → T W
  | .exo n fs => if ns.contains n then (match fs[(xFlds n).idxOf f]? with
    | some w => .ok w
    | none => .bad) else .bad
  | _ => .bad
theorem zip_lk : ∀ (ks : List Str) (vs : List V) (k : Nat) (f : Str) (hk : ks[k]? = some f) (hv : k < vs.length), ks.Nodup → ((ks.zip vs).reverse).lookup f = some vs[k] := by
  intro ks
  induction ks with
  | nil => intro vs k f hk; simp at hk
  | cons x ks ih =>
    intro vs k f hk hv hu
    cases vs with
    | nil => simp at hv
    | cons v vs =>
      rw [List.zip_cons_cons, List.reverse_cons, List.lookup_append]
      cases k with
      | zero =>
        have hx : x = f := by simpa using hk
        subst hx
        have hnone : ((ks.zip vs).reverse).lookup x = none := by
          rw [List.lookup_eq_none_iff]
          intro p hp
          have hp2 := List.of_mem_zip (List.mem_reverse.mp hp)
          have : x ≠ p.1 := fun z => (List.nodup_cons.mp hu).1 (z ▸ hp2.1)
          simpa using this
        rw [hnone]
        simp [List.lookup]
      | succ k =>
        rw [ih vs k f (by simpa using hk) (by simpa using hv) (List.nodup_cons.mp hu).2]
        simp
/-- what must be known of the classes whose field f is read -/
def FldX (K : PySem.W.Frag) (f : Str) (n : Nat) : Prop := XfC K (He.ga K (xName n)) ∧ PySem.W.findIn K (.ref (He.ga K (xName n))) f = some none ∧ (xFlds n)[(xFlds n).idxOf f]? = some f ∧ (xFlds n).Nodup
theorem tr_xattr {X : Cx} {E : WX} {a : Expr} {fa : En → T W} {f : Str} {pos : Pos} {ns : List Nat} (hi : ∀ n ∈ ns, FldX X.K f n) (ha : TrE Γ X E a fa) (hb : attributeBase a f X.env (eval a X.env) = eval a X.env := by rfl) : TrE Γ X E (.Attribute a f pos) (f1 (xfW f ns) fa) := by
  constructor
  intro pins s σ H Q I h
  obtain ⟨c, d, oa, ρ, e, h⟩ := h
  have hA : liftE X.K Γ E fa σ H (fun v H1 => ∃ (a' d' : Addr) (n : Nat) (vs : List V) (v' : V), v = .ref a' ∧ H1 a' = some (ExV a' (.ref (He.ga X.K (xName n))) (some d')) ∧ H1 d' = some (.xd ((xFlds n).zip vs).reverse) ∧ ((xFlds n).zip vs).reverse.lookup f = some v' ∧ n ∈ ns ∧ Q v' H1) := by
    refine lift_then (P := fun c H => PQ X.K c H Q) e h (fun st p => p.later st) @fun c1 w v H1 d1 _ r1 e1 h1 => ?_
    cases r1 with
    | exo g1 g2 g3 g4 =>
      rename_i a' d' n fs vs
      obtain ⟨hn, h1⟩ := T.AllW.ite (show (if ns.contains n then _ else T.bad : T W).AllW (PQ X.K c1 H1 Q) _ d1 from h1)
      have hn := List.contains_iff_mem.mp hn
      obtain ⟨k1, k2, k3, k4⟩ := hi n hn
      cases hw : fs[(xFlds n).idxOf f]? with
      | none =>
        rw [hw] at h1
        exact h1.elim
      | some w' =>
        rw [hw] at h1
        obtain ⟨v', hv1, hv2⟩ := g4.get hw
        have hkv : (xFlds n).idxOf f < vs.length := (List.getElem?_eq_some_iff.mp hv1).1
        have hlk := zip_lk (xFlds n) vs _ f k3 hkv k4
        rw [List.getElem?_eq_getElem hkv] at hv1
        cases hv1
        exact ⟨a', d', n, vs, _, rfl, g1, g2, hlk, hn, PQ.now e1.wd h1 hv2⟩
    | _ => exact h1.elim
  refine attr_of hb (thn (ha.run pins s σ H _ I hA) fun u s1 hh => ?_)
  obtain ⟨x, H1, I1, rx, a', d', n, vs, v', ex, g1, g2, hlk, hn, q⟩ := hh
  subst ex
  obtain rfl : u = Value.ref a' := rx
  obtain ⟨k1, k2, k3, k4⟩ := hi n hn
  obtain ⟨oe, od, mA, J, hns, ho, hr⟩ := exo_inst (K := X.K) I1.hok g1 g2
  obtain ⟨od', ho', hl⟩ := lookIn_ns hns
  rw [ho] at ho'
  cases ho'
  obtain ⟨u, hu, ru⟩ := RelO.some_of (v := v') (o := mA f) (by rw [← hlk]; exact hr f)
  exact HandSPX.exc_get I1.kIn J k1.ga k1.gg k1.exC (PySem.W.findObj_own k1.hdC k2 rfl (by rw [hl, hu])) (handed_of ru) ⟨v', H1, I1.tok _, ru, q⟩
end PF
namespace PF
open PySem PySem.Spec PyProof.Rows L2
theorem tr_badE {X : Cx} {E : WX} {e : Expr} : TrE Γ X E e (fun _ => .bad) := ⟨fun pins s σ H Q I h => by
  obtain ⟨c, d, oa, ρ, _, h⟩ := h
  exact h.elim⟩
theorem tr_d0 {X : Cx} {E : WX} {pos : Pos} : TrE Γ X E (.Dict [] [] pos) (fun _ => .ok (.dct [] [])) := pe_imp pe_dnewK fun σ H Q h => by
  obtain ⟨c, d, oa, ρ, e, h⟩ := h
  intro p hp
  exact h _ _ (.new hp) (e.st.new hp) (.dct (kvs := []) (e.wd.fresh hp) upd_same .nil)
def sysB (K : PySem.W.Frag) : Bool := match K.lookup sysModules with
  | some o => decide (o.cls = .type "dict")
  | none => false
mutual
def W.toR : W → Option PyData
  | .non => some .none
  | .bl b => some (.bool b)
  | .int i => some (.int i)
  | .str x => some (.str x)
  | .tup ws => match toRs ws with
    | some ds => some (.tuple ds)
    | none => none
  | .lst ws => match toRs ws with
    | some ds => some (.list ds)
    | none => none
  | .dct [] [] => some (.dict [])
  | _ => none
def toRs : List W → Option (List PyData)
  | [] => some []
  | w :: ws => match W.toR w, toRs ws with
    | some d, some ds => some (d :: ds)
    | _, _ => none
end
theorem pairs_nil {prog : Program} {w : World} {κ : Type} [DecidableEq κ] {knd : PySem.KeyKind prog w κ} {es : List DictEntry} (h : Pairs knd es []) : es = [] := by
  cases h
  rfl
section
variable {X : Cx} {pins : List (Addr × Obj)} {σ : L2.St} {H : Hp} {s : Shared} {c : Cc}
theorem sys_at (I : Inv X pins σ H s) (sy : sysB X.K = true) : ∃ o, s.heap.get? sysModules = some o ∧ o.cls = .type "dict" := by
  unfold sysB at sy
  split at sy
  · rename_i o e
    exact ⟨o, I.kIn _ _ e, of_decide_eq_true sy⟩
  · cases sy
mutual
theorem Rep.reads (I : Inv X pins σ H s) (sy : sysB X.K = true) : ∀ {w : W} {v : V} {u : Value} {d : PyData}, Rep X.K c H w v → w.toR = some d → RelV v u → ∃ as, Reads s.heap u d as ∧ sysModules ∉ as := fun {w v u d} r e ru => by
  cases r with
  | non => cases e; cases ru; exact ⟨_, Reads.none, by simp⟩
  | bl b => cases e; cases ru; exact ⟨_, Reads.bool b, by simp⟩
  | int i => cases e; obtain ⟨t, rfl⟩ := ru; exact ⟨_, Reads.int i t, by simp⟩
  | str x => cases e; obtain ⟨t, rfl⟩ := ru; exact ⟨_, Reads.str x t, by simp⟩
  | tup h rl =>
    unfold W.toR at e
    split at e
    · rename_i ds hd
      cases e
      cases ru
      obtain ⟨its, o, n, rv, ho, hc, hdt⟩ : ∃ (its : List Value) (o : Obj) (n : Nat), Vals _ its ∧ s.heap.get? _ = some o ∧ o.cls = .type "tuple" ∧ o.data = .seq its.toArray n := by
        rcases h with h | ⟨o, its, n, e, hc, hd, _, hv⟩
        · obtain ⟨_, its, hv, o, e, hc, n, hd⟩ := h.ok I.hok
          exact ⟨its, o, n, hv, e, hc, hd⟩
        · exact ⟨its.toList, o, n, hv, I.kIn _ _ e, hc, by simp [hd]⟩
      obtain ⟨as, q1, q2⟩ := RepL.reads I sy rl hd rv
      exact ⟨_, Reads.tuple ho hc hdt (by simpa using q1), q2⟩
    · cases e
  | lst n0 h rl =>
    unfold W.toR at e
    split at e
    · rename_i ds hd
      cases e
      cases ru
      obtain ⟨_, its, n, rv, ho⟩ := I.hok _ _ h
      have hc : (({ cls := .type "list", data := .seq its.toArray n } : Obj)).cls = .type "list" := rfl
      have hdt : (({ cls := .type "list", data := .seq its.toArray n } : Obj)).data = .seq its.toArray n := rfl
      obtain ⟨as, q1, q2⟩ := RepL.reads I sy rl hd rv
      refine ⟨_, Reads.list ho hc hdt (by simpa using q1), ?_⟩
      simp only [List.mem_cons, not_or]
      refine ⟨fun z => ?_, q2⟩
      obtain ⟨o', e1, e2⟩ := sys_at I sy
      rw [z, ho] at e1
      cases e1
      exact absurd (show Value.type "list" = Value.type "dict" from e2) (by decide)
    · cases e
  | @dct a kvs ws n0 h rl =>
    cases kvs with
    | cons kv kvs =>
      unfold W.toR at e
      split at e <;> first | cases e | skip
      all_goals rename_i q; cases q
    | nil =>
      cases rl
      cases e
      cases ru
      obtain ⟨_, ne, vs, kv, o, es, ep, ho, hx, hdt, _, hes, _⟩ := I.hok a _ h
      cases kv
      have ez : es.toList = [] := pairs_nil hes
      refine ⟨_, Reads.dict (kvs := []) ho hx.1 hdt (by rw [ez]; exact .nil) (by rw [ez]; exact .nil), ?_⟩
      simp only [List.append_nil, List.mem_cons, List.not_mem_nil, or_false]
      intro z
      rw [z] at ne
      simp at ne
  | scr h => cases e
  | stt => cases e
  | obj h => cases e
  | dcu _ _ _ => cases e
  | lam _ => cases e
  | clo _ _ _ _ _ _ => cases e
  | exo _ _ _ _ => cases e
theorem RepL.reads (I : Inv X pins σ H s) (sy : sysB X.K = true) : ∀ {ws : List W} {vs : List V} {us : List Value} {ds : List PyData}, RepL X.K c H ws vs → toRs ws = some ds → Vals vs us → ∃ as, ReadsAll s.heap us ds as ∧ sysModules ∉ as := fun {ws vs us ds} r e ru => by
  cases r with
  | nil =>
    cases e
    cases ru
    exact ⟨_, ReadsAll.nil, by simp⟩
  | cons q r =>
    unfold toRs at e
    split at e
    · rename_i d ds' e1 e2
      cases e
      cases ru with
      | cons r1 r2 =>
        obtain ⟨as, g1, g2⟩ := Rep.reads I sy q e1 r1
        obtain ⟨bs, g3, g4⟩ := RepL.reads I sy r e2 r2
        refine ⟨_, ReadsAll.cons g1 g3, ?_⟩
        simp only [List.mem_append, not_or]
        exact ⟨g2, g4⟩
    · cases e
end
end
@[irreducible] def reprOkD (d : PyData) : Bool := d.showable && decide (d.depth ≤ 60) && decide (d.shown.length ≤ 16777216)
def reprR : List W → T W
  | [w] => match w.toR with
    | some d => if reprOkD d then .ok (.str d.shown) else .bad
    | none => .bad
  | _ => .bad
theorem tr_repr {X : Cx} {E : WX} {a : Expr} {fa : En → T (List W)} {p pos : Pos} (hgd : X.A.guards = some []) (hu : X.A.units + 64 < cLine) (sy : sysB X.K = true) (hg : Gl X "repr") (hm : X.mg "repr" = none) (ha : TrA Γ X E [a] fa)
    (hs1 : starEach [a] X.env = (false, eval a X.env) :: starEach [] X.env := by rfl) (hpl : (backTo pos (starEach [] X.env)).any (·.1) = false := by rfl) : TrE Γ X E (.Call (.Name "repr" p) [a] [] pos) (fL fa reprR) := by
  have hc : CallR X (.builtin "repr") (fun vs H Q => ∃ (c : Cc) (w : W) (v : V) (d : PyData), vs = [v] ∧ Rep X.K c H w v ∧ w.toR = some d ∧ d.showable = true ∧ d.depth ≤ 60 ∧ d.shown.length ≤ sizeLine ∧ Q (.str d.shown) H) := by
    intro pins s σ H vs us Q I r h
    obtain ⟨c, w, v, d, rfl, rv, e, h1, h3, h4, q⟩ := h
    obtain ⟨u, rfl, ru⟩ := vals1 r
    have big : ∀ a, u = .ref a → wpAny (model X.prog X.w) X.A (call (.builtin "repr") [u]) (EP X pins σ Q) X.xe s := fun a eu => by
      subst eu
      obtain ⟨as, rd, na⟩ := rv.reads I sy e ru
      exact repr_of_reads' rd h1 (fun _ => na) hgd (by omega) (fun _ _ e => e) (fun h' u tk hk => ⟨.str _, H, I.kept hk, ⟨_, rfl⟩, q⟩) h4
    cases rv with
    | non =>
      cases e
      cases ru
      refine PySem.P.repr_of_none ⟨.str _, H, I.tok _, ⟨_, rfl⟩, ?_⟩
      simpa [PyData.shown] using q
    | bl b =>
      cases e
      cases ru
      refine PySem.P.repr_of_bool ⟨.str _, H, I.tok _, ⟨_, rfl⟩, ?_⟩
      simpa [PyData.shown] using q
    | int i =>
      cases e
      obtain ⟨t, rfl⟩ := ru
      refine PySem.P.repr_of_int (by simpa [PyData.showable] using h1) ⟨.str _, H, I.tok _, ⟨_, rfl⟩, ?_⟩
      simpa [PyData.shown] using q
    | str x =>
      cases e
      obtain ⟨t, rfl⟩ := ru
      refine PySem.P.repr_of_str ⟨.str _, H, I.tok _, ⟨_, rfl⟩, ?_⟩ (by simpa [PyData.shown] using h4)
      simpa [PyData.shown] using q
    | tup _ _ => cases ru; exact big _ rfl
    | lst _ _ _ => cases ru; exact big _ rfl
    | dct _ _ _ => cases ru; exact big _ rfl
    | scr _ => cases e
    | stt => cases e
    | obj _ => cases e
    | dcu _ _ _ => cases e
    | lam _ => cases e
    | clo _ _ _ _ _ _ => cases e
    | exo _ _ _ _ => cases e
  refine pe_imp (pe_callB (id := "repr") hc hg hm (by decide +kernel) ha (by decide) (by decide) hs1 hpl) fun σ H Q h => ?_
  obtain ⟨c, d, oa, ρ, e, h⟩ := h
  refine liftA_then (P := fun c H => PQ X.K c H Q) e h (fun st p => p.later st) @fun c1 w v H1 d1 _ r1 e1 h1 => ?_
  cases r1 with
  | nil => exact h1.elim
  | cons r rr =>
    cases rr with
    | cons _ _ => exact h1.elim
    | nil =>
      rename_i w1 v1
      have h1 : (match w1.toR with | some d => if reprOkD d then T.ok (W.str d.shown) else .bad | none => .bad).AllW (PQ X.K c1 H1 Q) _ d1 := h1
      cases hw : w1.toR with
      | none =>
        rw [hw] at h1
        exact h1.elim
      | some dd =>
        rw [hw] at h1
        obtain ⟨ok, h1⟩ := T.AllW.ite h1
        unfold reprOkD at ok
        simp only [Bool.and_eq_true, decide_eq_true_eq] at ok
        exact ⟨c1, w1, v1, dd, rfl, r, hw, ok.1.1, ok.1.2, by rw [sizeLine_eq]; exact ok.2, PQ.now e1.wd h1 (.str _)⟩
structure LamE where
  x : Str
  p : List Nat
  f : List W → T W
def tabR (l : List LamE) (x : Str) (p : List Nat) (ws : List W) : T W := match l.find? fun e => e.p == p && e.x == x with
  | some e => e.f ws
  | none => .bad
theorem lams_of {P : Program} {w : World} {K : PySem.W.Frag} {mg : Str → Option Value} {base : Heap} {k : Nat} {l : List LamE} (h : ∀ e ∈ l, LamOk P w K mg base k e.x e.p e.f) : LamsOk P w K mg base k (tabR l) := fun x p ws => by
  cases q : l.find? fun e => e.p == p && e.x == x with
  | none =>
    left
    unfold tabR
    rw [q]
  | some e =>
    right
    have m := List.mem_of_find?_eq_some q
    have z := List.find?_some q
    obtain ⟨z1, z2⟩ := Bool.and_eq_true_iff.mp z
    have e1 : e.x = x := eq_of_beq z2
    have e2 : e.p = p := eq_of_beq z1
    have : tabR l x p = e.f := by
      funext us
      unfold tabR
      rw [q]
    rw [this, ← e1, ← e2]
    exact h e m
theorem LamOk.mono {P : Program} {w : World} {K : PySem.W.Frag} {mg : Str → Option Value} {base : Heap} {k k' : Nat} {x : Str} {p : List Nat} {f : List W → T W} (h : LamOk P w K mg base k x p f) (hk : k ≤ k') : LamOk P w K mg base k' x p f := by
  obtain ⟨l, N, fb, h1, h2, h3, h4⟩ := h
  exact ⟨l, N, fb, h1, h2, h3, fun Γ A outer s H E f c' cl hg hr => h4 Γ A outer s H E f c' cl hg (hr.mono hk)⟩
theorem lamK_of {K : PySem.W.Frag} {x q : Str} {params : Arguments} {body : List Stmt} {scope : Scope} {dvs : List V} {kws : List (Str × V)} {f : Addr} {fd : FuncData} {p : List Nat} {l : LamD} (F : FunD K x q params body scope dvs kws f fd) (ga : f = He.ga K x) (h : lamAt body p = some l) : lamK K x p = some l := by
  obtain ⟨oc, od, dV, kV, dc, pm, an, cdv, ct, osl, rfl, lk, _⟩ := F.ex
  unfold lamK
  rw [← ga, lk]
  exact h
def lamGet (ss : List Stmt) (p : List Nat) : LamD := match lamAt ss p with
  | some l => l
  | none => ⟨⟨[], [], none, [], [], none, []⟩, .Name "" ⟨0, 0, 0, 0⟩, ⟨.function, [], false, false, []⟩⟩
/-- the slots that a frame's lambdas hold -/
def slotR (x0 : Str) (tab : List (List Nat × List Nat)) : Str → List Nat → Option (List Nat) := fun x p => if x == x0 then tab.lookup p else none
def slB (ss : List Stmt) (sc : Scope) (N : List Str) (tab : List (List Nat × List Nat)) : Bool := tab.all fun e => match lamAt ss e.1 with
  | some l => freeB sc l.scope && (decide ((cloFrom [] l.scope.names []).map (·.1)).Nodup && decide (e.2.map (fun i => N[i]?) = ((cloFrom [] l.scope.names []).map (·.1)).map some))
  | none => false
theorem lk_mem {α β : Type} [BEq α] [LawfulBEq α] {a : α} {b : β} : ∀ {l : List (α × β)}, l.lookup a = some b → (a, b) ∈ l
  | [], h => by cases h
  | (x, y) :: l, h => by
    rw [List.lookup_cons] at h
    cases hx : (a == x) with
    | true =>
      rw [hx] at h
      cases h
      rw [eq_of_beq hx]
      exact List.mem_cons_self ..
    | false =>
      rw [hx] at h
      exact List.mem_cons_of_mem _ (lk_mem h)
theorem slOk_by {X : Cx} {x q : Str} {params : Arguments} {body : List Stmt} {dvs : List V} {kws : List (Str × V)} {f : Addr} {fd : FuncData} {tab : List (List Nat × List Nat)} {scope : Scope} (F : FunD X.K x q params body scope dvs kws f fd) (ga : f = He.ga X.K x) (h : slB body X.env.scope X.N tab = true) : SlOk X (slotR x tab) := fun y p ss e => by
  unfold slotR at e
  split at e
  · rename_i hx
    have ex : y = x := eq_of_beq hx
    subst ex
    have m : (p, ss) ∈ tab := lk_mem e
    have z := List.all_eq_true.mp h _ m
    cases hl : lamAt body p with
    | none =>
      simp only [hl] at z
      cases z
    | some l =>
      simp only [hl, Bool.and_eq_true, decide_eq_true_eq] at z
      exact ⟨l, lamK_of F ga hl, free_by z.1, z.2.1, z.2.2⟩
  · cases e
end PF
namespace PF
open PySem PySem.Spec PyProof.Rows L2
theorem exm_any2 {K : PySem.W.Frag} {cls c d : Value} {b1 b2 : Bool} (h1 : PySem.W.exmOne K cls c = some b1) (h2 : PySem.W.exmOne K cls d = some b2) (h : (b1 || b2) = true) : PySem.W.exmAny K cls [c, d] = some true := by
  simp only [PySem.W.exmAny, h1, h2]
  cases b1 <;> cases b2 <;> first | rfl | cases h
theorem lkX_nil {p : Nat → Bool → Prop} : ∀ n b, ([] : List (Nat × Bool)).lookup n = some b → p n b := fun _ _ h => by cases h
theorem lkX_cons {p : Nat → Bool → Prop} {n0 : Nat} {b0 : Bool} {m : List (Nat × Bool)} (h : p n0 b0) (r : ∀ n b, m.lookup n = some b → p n b) : ∀ n b, ((n0, b0) :: m).lookup n = some b → p n b := fun n b e => by
  rw [List.lookup_cons] at e
  cases hx : (n == n0) with
  | true =>
    rw [hx] at e
    cases e
    rw [eq_of_beq hx]
    exact h
  | false =>
    rw [hx] at e
    exact r n b e
theorem allE_nil {p : LamE → Prop} : ∀ e ∈ ([] : List LamE), p e := fun _ h => by cases h
theorem allE_cons {p : LamE → Prop} {a : LamE} {l : List LamE} (h : p a) (r : ∀ e ∈ l, p e) : ∀ e ∈ a :: l, p e := fun n hn => by
  rcases List.mem_cons.mp hn with rfl | hn
  · exact h
  · exact r n hn
end PF
namespace PF
open PySem PySem.Spec PyProof.Rows L2
section
variable {K : PySem.W.Frag} {c : Cc} {d : Dw} {oa : Nat → Addr} {ρ : En} {σ : L2.St} {H H' : Hp} {D : Addr}
theorem Step.backN {c1 : Cc} {d' : Dw} (st : SG c c1 H H') (so : StOk c1 d' H') (n : H' D = none) : H D = none := by
  cases h : H D with
  | none => rfl
  | some o =>
    have h1 : D ≠ c.S := fun z => by
      obtain ⟨kvs, q⟩ := so.S
      rw [st.g.S, ← z, n] at q
      cases q
    have h2 : D ≠ c.la := fun z => by
      obtain ⟨xs, q⟩ := so.la
      rw [st.g.la, ← z, n] at q
      cases q
    obtain ⟨o', q⟩ := st.st.there h h1 h2
    rw [n] at q
    cases q
theorem Gr.more {c c1 : Cc} (g : Gr c c1) (D : Addr) : Gr (c.more D) (c1.more D) := ⟨g.S, g.ca, g.la, congrArg (D :: ·) g.A, g.M, g.T, g.C, g.KK, g.O⟩
/-- what is wanted of a list that is made anew -/
def PQF (K : PySem.W.Frag) (c : Cc) (H : Hp) (Q : VK) : Dw → W → Prop := fun d w => ∀ ⦃cm : Cc⦄ D acc us H', w = .lst acc → H D = none → Gr (c.more D) cm → Step c H H' → StOk cm d H' → H' D = some (.lst us) → RepL K cm H' acc us → Q (.ref D) H'
theorem PQF.later {c1 : Cc} {d' : Dw} {Q : VK} {w : W} {H1 : Hp} {d0 d1 : Dw} (st : SG c c1 H H1) (s0 : StOk c d0 H) (s1 : StOk c1 d1 H1) (h : PQF K c H Q d' w) : PQF K c1 H1 Q d' w := fun cm D acc us H' e n g s o hD r => h D acc us H' e (Step.backN st s1 n) ((st.g.more D).trans g) (st.st.trans (s.gr st.g)) o hD r
theorem own_ne {oa : Nat → Addr} {j : Nat} {xs : List W} (e : EnvOk K Γ c d oa ρ σ H) (n : D ∉ c.M) (h : ρ[j]? = some (.own xs)) : oa j ≠ D := fun z => n (z ▸ (e.own j xs h).1)
theorem new_notM (e : EnvOk K Γ c d oa ρ σ H) (n : H D = none) : D ∉ c.M := fun h => by
  obtain ⟨o, q, _⟩ := e.m.ls D h
  rw [n] at q
  cases q
end
section
variable {X : Cx} {E : WX} {elt tg iter : Expr} {ifs : List Expr} {scope : Scope} {own : List (Str × Nat)} {pos : Pos} {fi : En → T (List W)} {ns : List Nat} {G : W → En → Option En} {tt : En → T Bool} {fe : En → T W}
theorem comp_okF (hs : ∀ i ∈ ns, i ∈ own.map (·.2)) : ∀ σ H Q, (∃ c d oa ρ, EnvOk X.K Γ c d oa ρ σ H ∧ (fComp (own.map (·.2)) fi G tt fe ρ).AllW (PQF X.K c H Q) (PX X.K c H fun cls dx H' => E cls dx σ H') d) → tLc (liftI X.K Γ E fi) (liftG X.K Γ ns G) (liftB X.K Γ noW tt) (liftE X.K Γ noW fe) (own.map (·.2)) σ H Q := fun σ H Q h => by
  obtain ⟨c, d, oa, ρ, e, h⟩ := h
  refine ⟨c, d, oa, ρ, e, T.AllW.imp (fun d1 ws hx => ?_) (fun _ _ _ y => y) (T.allW_bind.mp h)⟩
  intro c1 J H1 st1 so1 jo D nD
  have e1 := e.step st1 so1
  obtain ⟨hz, hx⟩ := T.AllW.ite hx
  have hz := sizeOk_of hz
  generalize hvs : own.map (·.2) = vs at hs hx
  have hx : ((compL G tt fe (wipeE ρ vs) ws).bind fun xs => T.ok (W.lst xs)).AllW (PQF X.K c1 H1 Q) (PX X.K c1 H1 fun cls dx H' => E cls dx σ H') d1 := T.AllW.imp (fun _ _ y => y.later st1 e.st so1) (fun _ _ _ y => y.later st1) hx
  -- the turn's word
  refine ⟨fun i m H' => m = ws.length - i ∧ ∃ cm d' acc us, Gr (c1.more D) cm ∧ Step c1 H1 H' ∧ EnvOk X.K Γ cm d' oa (wipeE ρ vs) (wipe σ vs) H' ∧ H' D = some (.lst us) ∧ RepL X.K cm H' acc us ∧ us.length ≤ i ∧
    ((compL G tt fe (wipeE ρ vs) (ws.drop i)).bind fun xs => T.ok (W.lst (acc ++ xs))).AllW (PQF X.K c1 H1 Q) (PX X.K c1 H1 fun cls dx H' => E cls dx σ H') d',
    ⟨_, rfl, _, d1, [], [], .refl _, .new nD, (e1.more nD).wipe vs, upd_same, .nil, Nat.le_refl _, hx⟩, ?_⟩
  rintro i m H' ⟨rfl, cm, d', acc, us, gm, st', e', hD, ra, hl, h'⟩
  have fw : Fwd X.K c1 H1 cm H' := (Fwd.more nD st' e1.wd).gr gm
  obtain ⟨ji, js⟩ := jo cm H' d' i fw e'.wd
  have nst : D ∉ [cm.S, cm.ca, cm.la] := by
    rw [gm.S, gm.ca, gm.la]
    obtain ⟨⟨cells, lefts, k, r, h1, h2, h3, _⟩, _⟩ := so1
    simp only [List.mem_cons, not_or, List.not_mem_nil, not_false_eq_true, and_true]
    exact ⟨Ne.symm (ne_of_none h1 nD), Ne.symm (ne_of_none h2 nD), Ne.symm (ne_of_none h3 nD)⟩
  have inA : ∀ {ck : Cc}, Gr cm ck → D ∈ ck.A := fun g => by
    rw [g.A, gm.A]
    exact List.mem_cons_self ..
  have nstg : ∀ {ck : Cc}, Gr cm ck → D ∉ [ck.S, ck.ca, ck.la] := fun g => by
    rw [g.S, g.ca, g.la]
    exact nst
  have ho : ∀ (j : Nat) (xs : List W), (wipeE ρ vs)[j]? = some (.own xs) → oa j ≠ D := fun j xs hj => by
    obtain ⟨_, _, zs, h4, _⟩ := e1.own j xs (wipeE_own hj)
    exact ne_of_none h4 nD
  have c1m : ∀ {Ha Hb : Hp} {ck ck' : Cc}, Gr cm ck → SG ck ck' Ha Hb → Step c1 Ha Hb := fun g st => Step.to st.st (g.S.trans gm.S) (g.la.trans gm.la)
  by_cases hi : i < ws.length
  · have hw : ws[i]? = some ws[i] := List.getElem?_eq_getElem hi
    rw [List.drop_eq_getElem_cons hi] at h'
    obtain ⟨jg, jy⟩ := ji _ hw
    refine .inr ⟨jg, fun H2 => ∃ cm d' acc us, Gr (c1.more D) cm ∧ Step c1 H1 H2 ∧ EnvOk X.K Γ cm d' oa (wipeE ρ vs) (wipe σ vs) H2 ∧ H2 D = some (.lst us) ∧ RepL X.K cm H2 acc us ∧ us.length ≤ i + 1 ∧
      ((compL G tt fe (wipeE ρ vs) (ws.drop (i + 1))).bind fun xs => T.ok (W.lst (acc ++ xs))).AllW (PQF X.K c1 H1 Q) (PX X.K c1 H1 fun cls dx H' => E cls dx σ H') d', fun H2 h2 => ⟨ws.length - (i + 1), by omega, rfl, h2⟩, fun x H2 y => ?_⟩
    obtain ⟨st2, so2, rx⟩ := jy x H2 y
    have e2 := e'.step st2 so2
    have keep : ∀ {Ha Hb : Hp} {ck ck' : Cc}, Gr cm ck → SG ck ck' Ha Hb → ∀ {us}, Ha D = some (.lst us) → Hb D = some (.lst us) := fun g st us h => by
      have n0 := nstg g
      simp only [List.mem_cons, not_or] at n0
      exact st.st.keep _ _ h n0.1 n0.2.2.1 nofun
    unfold compL at h'
    cases g : G ws[i] (wipeE ρ vs) with
    | none =>
      rw [g] at h'
      exact h'.elim
    | some ρ1 =>
      rw [g] at h'
      refine ⟨cm, d', oa, wipeE ρ vs, ws[i], ρ1, e2, rx, g, fun σ3 b3 e3 => ⟨wipe_but b3 hs, cm, d', oa, ρ1, e3, ?_⟩⟩
      refine noX_all (T.AllW.imp (fun d4 b hb => ?_) (fun _ _ _ y => y) (T.allW_bind.mp (T.allW_bind.mp h')))
      intro c4 H4 st4 so4
      have e4 := e3.step st4 so4
      have e4' := e2.step st4 so4
      have hD4 := keep st4.g (.refl c4 H4) (keep (.refl cm) st4 (keep (.refl cm) st2 hD))
      have ra4 := (ra.step st2 e'.st e'.ok).step st4 e2.st e2.ok
      have stt4 : Step c1 H1 H4 := st'.trans ((c1m (.refl cm) st2).trans (c1m (.refl cm) st4))
      cases b with
      | false => exact iteF ⟨c4, d4, acc, us, gm.trans st4.g, stt4, e4', hD4, ra4, Nat.le_succ_of_le hl, T.allW_bind.mpr (show (compL G tt fe (wipeE ρ vs) (ws.drop (i + 1))).AllW _ _ d4 from hb)⟩
      | true =>
        refine iteT ⟨c4, d4, oa, ρ1, e4, ?_⟩
        refine noX_all (T.AllW.imp (fun d5 w5 h5 => ?_) (fun _ _ _ y => y) (T.allW_bind.mp (show ((noX (fe ρ1)).bind fun x => (compL G tt fe (wipeE ρ vs) (ws.drop (i + 1))).bind fun xs => .ok (x :: xs)).AllW _ _ d4 from hb)))
        intro c5 v5 H5 st5 so5 r5
        have e5 := e4'.step st5 so5
        have g5 := st4.g.trans st5.g
        have hD5 := keep st4.g st5 hD4
        have ra5 := ra4.step st5 e4'.st e4'.ok
        refine ⟨us, hD5, by omega, c5, d5, acc ++ [w5], us ++ [v5], gm.trans g5, (stt4.trans (c1m st4.g st5)).past nD, e5.upd (inA g5) (nstg g5) hD5 ho, upd_same, ?_, by rw [List.length_append]; exact Nat.succ_le_succ hl, ?_⟩
        · exact (ra5.append (.cons r5 .nil)).upd (inA g5) hD5 (fun _ z => by cases z) (fun _ _ z => by cases z)
        · have h6 := T.allW_bind.mp h5
          refine T.allW_bind.mpr (T.AllW.imp (fun d6 xs h7 => ?_) (fun _ _ _ y => y) h6)
          have e7 : acc ++ [w5] ++ xs = acc ++ w5 :: xs := by simp
          rw [e7]
          exact h7
  · rw [List.drop_eq_nil_of_le (by omega)] at h'
    refine .inl ⟨js (by omega), ?_⟩
    have h8 : PQF X.K c1 H1 Q d' (.lst (acc ++ [])) := h'
    rw [List.append_nil] at h8
    exact h8 D acc us H' rfl nD gm st' e'.st hD ra
end
def sOwnE (i : Nat) (f : En → T W) : En → T (Fl × En) := fun ρ => (f ρ).bind fun w => match w with
  | .lst ws => .ok (.nx, ρ.set i (.own ws))
  | _ => .bad
section
variable {K : PySem.W.Frag} {c : Cc} {d : Dw} {oa : Nat → Addr} {ρ : En} {σ : L2.St} {H H' : Hp} {D : Addr}
theorem Step.mineL {us : List V} (st : Step c H H') (n : H D = none) (hD : H' D = some (.lst us)) : Step (c.mine D) (upd H D (.lst us)) H' := ⟨fun b o hb h1 h2 nt => by
    rcases Decidable.em (b = D) with z | z
    · subst z
      rw [upd_same] at hb
      rw [← hb]
      exact hD
    · rw [upd_ne z] at hb
      exact st.keep b o hb h1 h2 nt, fun b ps hb => by
    rcases Decidable.em (b = D) with z | z
    · subst z
      rw [upd_same] at hb
      cases hb
    · rw [upd_ne z] at hb
      exact st.tbl b ps hb, fun b C dx fs hb => by
    rcases Decidable.em (b = D) with z | z
    · subst z
      rw [upd_same] at hb
      cases hb
    · rw [upd_ne z] at hb
      exact st.ins b C dx fs hb⟩
/-- D is one of the frame's own -/
abbrev Cc.hold (c : Cc) (D : Addr) : Cc := { c with M := D :: c.M }
theorem Gr.hold {c c1 : Cc} (g : Gr c c1) (D : Addr) : Gr (c.hold D) (c1.hold D) := ⟨g.S, g.ca, g.la, g.A, congrArg (D :: ·) g.M, g.T, g.C, g.KK, g.O⟩
theorem SG.hold {c c1 : Cc} {H H' : Hp} (g : SG c c1 H H') (D : Addr) : SG (c.hold D) (c1.hold D) H H' := ⟨g.g.hold D, Step.to g.st rfl rfl⟩
theorem StOk.hold {c : Cc} {d : Dw} {H : Hp} (s : StOk c d H) (D : Addr) : StOk (c.hold D) d H := s.weak rfl rfl rfl rfl rfl rfl rfl (fun _ h => h) ⟨s.2.ok.inS, s.2.ok.inla, s.2.ok.inca⟩
theorem StOk.drop {c : Cc} {D : Addr} {d : Dw} {H : Hp} (s : StOk (c.hold D) d H) : StOk c d H := s.weak rfl rfl rfl rfl rfl rfl rfl (fun _ h => h) ⟨s.2.ok.inS, s.2.ok.inla, s.2.ok.inca⟩
theorem Gr.unhold {c c1 : Cc} {D : Addr} (g : Gr (c.hold D) c1) : ∃ c2 : Cc, c1 = c2.hold D ∧ Gr c c2 := ⟨{ c1 with M := c.M }, by
  have := g.M
  cases c1
  simp only at this
  rw [this], g.S, g.ca, g.la, g.A, rfl, g.T, g.C, g.KK, g.O⟩
theorem EnvOk.adopt {i : Nat} {cm : Cc} {d' : Dw} {acc : List W} {us : List V} (e : EnvOk K Γ c d oa ρ σ H) (n : H D = none) (g : Gr (c.more D) cm) (st : Step c H H') (so : StOk cm d' H') (hD : H' D = some (.lst us)) (ra : RepL K cm H' acc us) :
    Fwd K c H (cm.hold D) H' ∧ EnvOk K Γ (cm.hold D) d' (fun j => if j = i then D else oa j) (ρ.set i (.own acc)) (σ.set i (some (.ref D))) H' := by
  have e1 : EnvOk K Γ (c.mine D) d oa ρ σ (L2.upd H D (.lst us)) := e.mine n
  have st1 : SG (c.mine D) (cm.hold D) (L2.upd H D (.lst us)) H' := ⟨g.hold D, st.mineL n hD⟩
  have so1 : StOk (cm.hold D) d' H' := so.hold D
  have e2 := e1.step st1 so1
  have ra : RepL K (cm.hold D) H' acc us := RepL.weak (c := cm.hold D) (c1 := cm) rfl rfl (fun _ h => h) ra
  refine ⟨(Fwd.mine n e.wd).trans (Fwd.of st1 e1.wd), e2.ownSet (List.mem_cons_self ..) hD ra fun j us _ h => own_ne e (new_notM e n) h⟩
end
section
variable {X : Cx} {E : XK} {elt tg iter : Expr} {ifs : List Expr} {scope : Scope} {own : List (Str × Nat)} {pos spos py : Pos} {fi : En → T (List W)} {ns : List Nat} {G : W → En → Option En} {tt : En → T Bool} {fe : En → T W}
theorem ownE_q {c : Cc} {d : Dw} {oa : Nat → Addr} {ρ : En} {σ : L2.St} {H : Hp} {D : Ends} {i : Nat} {f : En → T W} (e : EnvOk X.K Γ c d oa ρ σ H) (q : (sOwnE i f ρ).AllW (PSq X.K Γ c H D) (PXs X.K c H E) d) :
    (f ρ).AllW (PQF X.K c H fun x H1 => gName i x σ H1 D.nx) (PX X.K c H fun cls dx H' => wOf E cls dx σ H') d := by
  refine T.AllW.imp (fun d1 w hw => ?_) (fun _ _ _ x => x.toX e.wd) (T.allW_bind.mp q)
  intro cm D0 acc us H' ew n g st so hD ra
  subst ew
  obtain ⟨fw, e2⟩ := e.adopt (i := i) n g st so hD ra
  exact (show PSq X.K Γ c H D d1 (.nx, ρ.set i (.own acc)) from hw) _ _ _ _ fw e2
theorem tr_ownLc {i : Nat} {y : Str} (hc : X.calm = true) (hN : X.N.Nodup) (hy : X.N[i]? = some y) (hyl : X.env.scope.names.lookup y = some .local) (hsw : swapsWith (.ListComp elt [⟨tg, iter, ifs, 0⟩] scope pos) (some (.Name y py)) spos.line X.env = pure true)
    (hi : TrI Γ X (wOf E) tg iter fi) (ok : BlkOk X.N X.env.scope scope own) (hs : ∀ i ∈ ns, i ∈ own.map (·.2))
    (hg : ∀ (s : Shared) (H : Hp) (C : Addr) (cl : List (Str × Addr)) (fp : List Addr), TrG Γ (X.blk s H scope (compEnvC scope cl C X.env) fp) tg ns G) (ht : ∀ (s : Shared) (H : Hp) (C : Addr) (cl : List (Str × Addr)) (fp : List Addr), TrTs Γ (X.blk s H scope (compEnvC scope cl C X.env) fp) ifs tt)
    (he : ∀ (s : Shared) (H : Hp) (C : Addr) (cl : List (Str × Addr)) (fp : List Addr), TrE Γ (X.blk s H scope (compEnvC scope cl C X.env) fp) noW elt fe) (hf : ∀ x, foldedSetIterable iter X.env x = pure x := by intro _; rfl) :
    TrS Γ X E (.Assign [.Name y py] (.ListComp elt [⟨tg, iter, ifs, 0⟩] scope pos) spos) (sOwnE i (fComp (own.map (·.2)) fi G tt fe)) := ps_imp (ps_setLc (g := liftG X.K Γ ns G) (tt := liftB X.K Γ noW tt) (te := liftE X.K Γ noW fe) hc hN hy hyl hsw hi ok hg ht he hf) fun D σ H q => by
  obtain ⟨c, d, oa, ρ, e, q⟩ := q
  exact comp_okF (E := wOf E) hs σ H _ ⟨c, d, oa, ρ, e, ownE_q e q⟩
end
theorem EnvOk.hold {K : PySem.W.Frag} {c : Cc} {d : Dw} {oa : Nat → Addr} {ρ : En} {σ : L2.St} {H : Hp} {D : Addr} {us : List V} (e : EnvOk K Γ c d oa ρ σ H) (hA : D ∈ c.A) (nst : D ∉ [c.S, c.ca, c.la]) (hD : H D = some (.lst us)) : EnvOk K Γ (c.hold D) d oa ρ σ H where
  ok := ⟨e.ok.inS, e.ok.inla, e.ok.inca⟩
  st := e.st.hold D
  av := e.av
  len := e.len
  val := fun i w h => by
    obtain ⟨v, h1, h2⟩ := e.val i w h
    exact ⟨v, h1, Rep.weak (c := c.hold D) (c1 := c) rfl rfl (fun _ h => h) h2⟩
  m := ⟨fun b hb => by
      rcases List.mem_cons.mp hb with rfl | hb
      · exact hA
      · exact e.m.inA b hb, fun b hb => by
      rcases List.mem_cons.mp hb with rfl | hb
      · exact nst
      · exact e.m.nst b hb, fun b hb => by
      rcases List.mem_cons.mp hb with rfl | hb
      · exact ⟨_, hD, .inl ⟨_, rfl⟩⟩
      · exact e.m.ls b hb⟩
  own := fun i ws h => by
    obtain ⟨h1, h3, vs, h4, h5⟩ := e.own i ws h
    exact ⟨List.mem_cons_of_mem _ h1, h3, vs, h4, RepL.weak (c := c.hold D) (c1 := c) rfl rfl (fun _ h => h) h5⟩
  inj := e.inj
  odc := fun i ws h => by
    obtain ⟨h1, h3, vs, h4, h5⟩ := e.odc i ws h
    exact ⟨List.mem_cons_of_mem _ h1, h3, vs, h4, h5.1, RepL.weak (c := c.hold D) (c1 := c) rfl rfl (fun _ h => h) h5.2⟩
  ido := e.ido
  tT := e.tT
  cC := e.cC
  kK := e.kK
def compL2 (G : W → En → Option En) (tt : En → T Bool) (vs1 : List Nat) (fi1 : En → T (List W)) (G1 : W → En → Option En) (tt1 : En → T Bool) (fe : En → T W) (ρ : En) : List W → List W → T (List W)
  | acc, [] => .ok acc
  | acc, w :: ws => match G w ρ with
    | none => .bad
    | some ρ1 => (noX (tt ρ1)).bind fun b => if b then (noX (fi1 ρ1)).bind fun ws1 => if sz2 acc.length ws1.length then (compL G1 tt1 fe (wipeE ρ1 vs1) ws1).bind fun xs => compL2 G tt vs1 fi1 G1 tt1 fe ρ (acc ++ xs) ws else .bad
      else compL2 G tt vs1 fi1 G1 tt1 fe ρ acc ws
def fComp2 (vs : List Nat) (fi : En → T (List W)) (G : W → En → Option En) (tt : En → T Bool) (vs1 : List Nat) (fi1 : En → T (List W)) (G1 : W → En → Option En) (tt1 : En → T Bool) (fe : En → T W) : En → T W := fun ρ => (fi ρ).bind fun ws => (compL2 G tt vs1 fi1 G1 tt1 fe (wipeE ρ vs) [] ws).bind fun xs => .ok (.lst xs)
section
variable {X : Cx} {E : WX} {elt tg iter tg1 iter1 : Expr} {ifs ifs1 : List Expr} {scope : Scope} {own : List (Str × Nat)} {vs1 : List Nat} {pos : Pos} {fi fi1 : En → T (List W)} {ns ns1 : List Nat} {G G1 : W → En → Option En} {tt tt1 : En → T Bool} {fe : En → T W}
theorem comp2_ok (hs : ∀ i ∈ ns, i ∈ own.map (·.2)) (hs1 : ∀ i ∈ ns1, i ∈ vs1) : ∀ σ H Q, liftE X.K Γ E (fComp2 (own.map (·.2)) fi G tt vs1 fi1 G1 tt1 fe) σ H Q →
    tLc2 (liftI X.K Γ E fi) (liftG X.K Γ ns G) (liftB X.K Γ noW tt) (liftI X.K Γ noW fi1) (liftG X.K Γ ns1 G1) (liftB X.K Γ noW tt1) (liftE X.K Γ noW fe) (own.map (·.2)) vs1 σ H Q := fun σ H Q h => by
  obtain ⟨c, d, oa, ρ, e, h⟩ := h
  refine ⟨c, d, oa, ρ, e, T.AllW.imp (fun d1 ws hx => ?_) (fun _ _ _ y => y) (T.allW_bind.mp h)⟩
  intro c1 J H1 st1 so1 jo D nD
  have e1 := e.step st1 so1
  generalize hvs : own.map (·.2) = vs at hs hx
  have hx : ((compL2 G tt vs1 fi1 G1 tt1 fe (wipeE ρ vs) [] ws).bind fun xs => T.ok (W.lst xs)).AllW (PQ X.K c1 H1 Q) (PX X.K c1 H1 fun cls dx H' => E cls dx σ H') d1 := T.AllW.imp (fun _ _ y => y.later st1) (fun _ _ _ y => y.later st1) hx
  refine ⟨fun i m H' => m = ws.length - i ∧ ∃ cm d' acc us, Gr (c1.more D) cm ∧ Step c1 H1 H' ∧ EnvOk X.K Γ cm d' oa (wipeE ρ vs) (wipe σ vs) H' ∧ H' D = some (.lst us) ∧ RepL X.K cm H' acc us ∧
    ((compL2 G tt vs1 fi1 G1 tt1 fe (wipeE ρ vs) acc (ws.drop i)).bind fun xs => T.ok (W.lst xs)).AllW (PQ X.K c1 H1 Q) (PX X.K c1 H1 fun cls dx H' => E cls dx σ H') d',
    ⟨_, rfl, _, d1, [], [], .refl _, .new nD, (e1.more nD).wipe vs, upd_same, .nil, hx⟩, ?_⟩
  rintro i m H' ⟨rfl, cm, d', acc, us, gm, st', e', hD, ra, h'⟩
  have fw : Fwd X.K c1 H1 cm H' := (Fwd.more nD st' e1.wd).gr gm
  obtain ⟨ji, js⟩ := jo cm H' d' i fw e'.wd
  have nst : ∀ {ck : Cc}, Gr (c1.more D) ck → D ∉ [ck.S, ck.ca, ck.la] := fun g => by
    rw [g.S, g.ca, g.la]
    exact st_ne (c := c1) so1 nD
  have inA : ∀ {ck : Cc}, Gr (c1.more D) ck → D ∈ ck.A := fun g => by
    rw [g.A]
    exact List.mem_cons_self ..
  have nM : ∀ {ck : Cc}, Gr (c1.more D) ck → D ∉ ck.M := fun g => by
    rw [g.M]
    exact new_notM (c := c1) e1 nD
  have keep : ∀ {Ha Hb : Hp} {ck ck' : Cc}, Gr (c1.more D) ck → SG ck ck' Ha Hb → ∀ {us}, Ha D = some (.lst us) → Hb D = some (.lst us) := fun g st us h => by
    have n0 := nst g
    simp only [List.mem_cons, not_or] at n0
    exact st.st.keep _ _ h n0.1 n0.2.2.1 nofun
  have c1m : ∀ {Ha Hb : Hp} {ck ck' : Cc}, Gr (c1.more D) ck → SG ck ck' Ha Hb → Step c1 Ha Hb := fun g st => Step.to st.st g.S g.la
  by_cases hi : i < ws.length
  · have hw : ws[i]? = some ws[i] := List.getElem?_eq_getElem hi
    rw [List.drop_eq_getElem_cons hi] at h'
    obtain ⟨jg, jy⟩ := ji _ hw
    refine .inr ⟨jg, fun H2 => ∃ cm d' acc us, Gr (c1.more D) cm ∧ Step c1 H1 H2 ∧ EnvOk X.K Γ cm d' oa (wipeE ρ vs) (wipe σ vs) H2 ∧ H2 D = some (.lst us) ∧ RepL X.K cm H2 acc us ∧
      ((compL2 G tt vs1 fi1 G1 tt1 fe (wipeE ρ vs) acc (ws.drop (i + 1))).bind fun xs => T.ok (W.lst xs)).AllW (PQ X.K c1 H1 Q) (PX X.K c1 H1 fun cls dx H' => E cls dx σ H') d', fun H2 h2 => ⟨ws.length - (i + 1), by omega, rfl, h2⟩, fun x H2 y => ?_⟩
    obtain ⟨st2, so2, rx⟩ := jy x H2 y
    have e2 := e'.step st2 so2
    unfold compL2 at h'
    cases g : G ws[i] (wipeE ρ vs) with
    | none =>
      rw [g] at h'
      exact h'.elim
    | some ρ1 =>
      rw [g] at h'
      refine ⟨cm, d', oa, wipeE ρ vs, ws[i], ρ1, e2, rx, g, fun σ3 b3 e3 => ⟨wipe_but b3 hs, cm, d', oa, ρ1, e3, ?_⟩⟩
      refine noX_all (T.AllW.imp (fun d4 b hb => ?_) (fun _ _ _ y => y) (T.allW_bind.mp (T.allW_bind.mp h')))
      intro c4 H4 st4 so4
      have g4 := gm.trans st4.g
      have e4 := e3.step st4 so4
      have e4' := e2.step st4 so4
      have hD4 := keep gm st4 (keep gm st2 hD)
      have ra4 := (ra.step st2 e'.st e'.ok).step st4 e2.st e2.ok
      have stt4 : Step c1 H1 H4 := st'.trans ((c1m gm st2).trans (c1m gm st4))
      cases b with
      | false => exact iteF ⟨c4, d4, acc, us, g4, stt4, e4', hD4, ra4, T.allW_bind.mpr hb⟩
      | true =>
        refine iteT ⟨c4.hold D, d4, oa, ρ1, e4.hold (inA g4) (nst g4) hD4, ?_⟩
        refine noX_all (T.AllW.imp (fun d5 ws1 h5 => ?_) (fun _ _ _ y => y) (T.allW_bind.mp (show ((noX (fi1 ρ1)).bind fun ws1 => if sz2 acc.length ws1.length then (compL G1 tt1 fe (wipeE ρ1 vs1) ws1).bind fun xs => compL2 G tt vs1 fi1 G1 tt1 fe (wipeE ρ vs) (acc ++ xs) (ws.drop (i + 1)) else .bad).AllW _ _ d4 from hb)))
        intro c5h J1 H5 st5 so5 jo1
        obtain ⟨c5, ec5, g45⟩ := st5.g.unhold
        subst ec5
        obtain ⟨hz1, h5⟩ := T.AllW.ite h5
        have hz1 := sz2_of hz1
        have st5 : SG c4 c5 H4 H5 := ⟨g45, Step.to st5.st rfl rfl⟩
        have so5 : StOk c5 d5 H5 := so5.drop
        have g5 := g4.trans g45
        have e5 := e4.step st5 so5
        have e5' := e4'.step st5 so5
        have hD5 := keep g4 st5 hD4
        have ra5 := ra4.step st5 e4'.st e4'.ok
        have stt5 : Step c1 H1 H5 := stt4.trans (c1m g4 st5)
        have hul : us.length = acc.length := ra.length.symm
        refine ⟨fun j k H' => k = ws1.length - j ∧ ∃ cj d' accu us', Gr (c1.more D) cj ∧ Step c1 H1 H' ∧ Fwd X.K (c5.hold D) H5 (cj.hold D) H' ∧ EnvOk X.K Γ cj d' oa ρ1 σ3 H' ∧ EnvOk X.K Γ cj d' oa (wipeE ρ vs) (wipe σ vs) H' ∧ H' D = some (.lst us') ∧ RepL X.K cj H' accu us' ∧ us'.length ≤ us.length + j ∧
          ((compL G1 tt1 fe (wipeE ρ1 vs1) (ws1.drop j)).bind fun xs => compL2 G tt vs1 fi1 G1 tt1 fe (wipeE ρ vs) (accu ++ xs) (ws.drop (i + 1))).AllW (fun d a => (T.ok (W.lst a)).AllW (PQ X.K c1 H1 Q) (PX X.K c1 H1 fun cls dx H' => E cls dx σ H') d) (PX X.K c1 H1 fun cls dx H' => E cls dx σ H') d',
          ⟨_, rfl, c5, d5, acc, us, g5, stt5, .refl, e5, e5', hD5, ra5, Nat.le_refl _, h5⟩, ?_⟩
        rintro j k H6 ⟨rfl, cj, d6, accu, us6, gj, stt6, fw6, e6, e6', hD6, ra6, hl6, h6⟩
        have e6h := e6.hold (inA gj) (nst gj) hD6
        obtain ⟨ji1, js1⟩ := jo1 (cj.hold D) H6 d6 j fw6 e6h.wd
        by_cases hj : j < ws1.length
        · have hw1 : ws1[j]? = some ws1[j] := List.getElem?_eq_getElem hj
          rw [List.drop_eq_getElem_cons hj] at h6
          obtain ⟨jg1, jy1⟩ := ji1 _ hw1
          refine .inr ⟨jg1, fun H' => ∃ cj d' accu us', Gr (c1.more D) cj ∧ Step c1 H1 H' ∧ Fwd X.K (c5.hold D) H5 (cj.hold D) H' ∧ EnvOk X.K Γ cj d' oa ρ1 σ3 H' ∧ EnvOk X.K Γ cj d' oa (wipeE ρ vs) (wipe σ vs) H' ∧ H' D = some (.lst us') ∧ RepL X.K cj H' accu us' ∧ us'.length ≤ us.length + (j + 1) ∧
            ((compL G1 tt1 fe (wipeE ρ1 vs1) (ws1.drop (j + 1))).bind fun xs => compL2 G tt vs1 fi1 G1 tt1 fe (wipeE ρ vs) (accu ++ xs) (ws.drop (i + 1))).AllW (fun d a => (T.ok (W.lst a)).AllW (PQ X.K c1 H1 Q) (PX X.K c1 H1 fun cls dx H' => E cls dx σ H') d) (PX X.K c1 H1 fun cls dx H' => E cls dx σ H') d', fun H2 h2 => ⟨ws1.length - (j + 1), by omega, rfl, h2⟩, fun x1 H7 y1 => ?_⟩
          obtain ⟨st7, so7, rx7⟩ := jy1 x1 H7 y1
          have st7 : SG cj cj H6 H7 := .of (Step.to st7.st rfl rfl)
          have so7 : StOk cj d6 H7 := so7.drop
          have rx7 : Rep X.K cj H7 ws1[j] x1 := Rep.weak (c := cj) (c1 := cj.hold D) rfl rfl (fun _ h => h) rx7
          have e7 := e6.step st7 so7
          have e7' := e6'.step st7 so7
          unfold compL at h6
          have e7w := e7.wipe vs1
          cases g1 : G1 ws1[j] (wipeE ρ1 vs1) with
          | none =>
            rw [g1] at h6
            exact h6.elim
          | some ρ2 =>
            rw [g1] at h6
            refine ⟨cj, d6, oa, wipeE ρ1 vs1, ws1[j], ρ2, e7w, rx7, g1, fun σ8 b8 e8 => ⟨wipe_but b8 hs1, cj, d6, oa, ρ2, e8, ?_⟩⟩
            refine noX_all (T.AllW.imp (fun d9 b9 hb9 => ?_) (fun _ _ _ y => y) (T.allW_bind.mp (T.allW_bind.mp h6)))
            intro c9 H9 st9 so9
            have g9 := gj.trans st9.g
            have e9 := e8.step st9 so9
            have st79 : SG cj c9 H6 H9 := st7.trans st9
            have e9a := e7.step st9 so9
            have e9' := e7'.step st9 so9
            have hD9 := keep gj st79 hD6
            have ra9 := ra6.step st79 e6.st e6.ok
            have stt9 : Step c1 H1 H9 := stt6.trans (c1m gj st79)
            have fw9 := fw6.trans (.of (st79.hold D) e6h.wd)
            cases b9 with
            | false => exact iteF ⟨c9, d9, accu, us6, g9, stt9, fw9, e9a, e9', hD9, ra9, by omega, T.allW_bind.mpr (show (compL G1 tt1 fe (wipeE ρ1 vs1) (ws1.drop (j + 1))).AllW _ _ d9 from hb9)⟩
            | true =>
              refine iteT ⟨c9, d9, oa, ρ2, e9, ?_⟩
              refine noX_all (T.AllW.imp (fun da wa ha => ?_) (fun _ _ _ y => y) (T.allW_bind.mp (show ((noX (fe ρ2)).bind fun x => (compL G1 tt1 fe (wipeE ρ1 vs1) (ws1.drop (j + 1))).bind fun xs => .ok (x :: xs)).AllW _ _ d9 from hb9)))
              intro ck va Ha sta soa rra
              have ga := g9.trans sta.g
              have ea := e9a.step sta soa
              have ea' := e9'.step sta soa
              have hDa := keep g9 sta hD9
              have raa := ra9.step sta e9a.st e9a.ok
              have sttA : Step c1 H1 Ha := stt9.trans (c1m g9 sta)
              have hoa : ∀ {ρx : En} {σx : L2.St}, EnvOk X.K Γ ck da oa ρx σx Ha → ∀ (q : Nat) (xs : List W), ρx[q]? = some (.own xs) → oa q ≠ D := fun ex q xs hq => own_ne ex (nM ga) hq
              have e9h := e9a.hold (inA g9) (nst g9) hD9
              have fwA : Fwd X.K (c5.hold D) H5 (ck.hold D) Ha := fw9.trans (.of (sta.hold D) e9h.wd)
              have fwU : Fwd X.K (ck.hold D) Ha (ck.hold D) (upd Ha D (.lst (us6 ++ [va]))) := ⟨rfl, rfl, rfl, rfl, rfl, rfl, List.prefix_rfl, fun _ h _ => h, fun _ h => .inl h, fun b o h h1 h2 h3 _ => by rw [upd_ne (fun z => h3 (by rw [z]; exact List.mem_cons_self ..))]; exact h, fun b ps h h3 => ⟨#[], by rw [upd_ne (fun z => h3 (by rw [z]; exact List.mem_cons_self ..)), h]; simp⟩, fun w v r => Rep.upd (c := ck.hold D) (inA (ck := ck) ga) hDa (fun _ z => by cases z) (fun _ _ z => by cases z) ⟨nofun, nofun⟩ r, fun a vs h => sqT_upd hDa (fun _ z => by cases z) (fun _ _ z => by cases z) h, fun b C dx fs h _ => ⟨fs, by rw [upd_ne (ne_of h hDa nofun)]; exact h⟩⟩
              refine ⟨us6, hDa, by rw [sizeLine_eq]; omega, ck, da, accu ++ [wa], us6 ++ [va], ga, sttA.past nD, fwA.trans fwU, ea.upd (inA ga) (nst ga) hDa (hoa ea), ea'.upd (inA ga) (nst ga) hDa (hoa ea'), upd_same, ?_, by rw [List.length_append]; simp only [List.length_cons, List.length_nil]; omega, ?_⟩
              · exact (raa.append (.cons rra .nil)).upd (inA ga) hDa (fun _ z => by cases z) (fun _ _ z => by cases z)
              · have h6 := T.allW_bind.mp ha
                refine T.allW_bind.mpr (T.AllW.imp (fun d6 xs h7 => ?_) (fun _ _ _ y => y) h6)
                have e7 : accu ++ [wa] ++ xs = accu ++ wa :: xs := by simp
                rw [e7]
                exact h7
        · rw [List.drop_eq_nil_of_le (by omega)] at h6
          refine .inl ⟨js1 (by omega), cj, d6, accu, us6, gj, stt6, e6', hD6, ra6, ?_⟩
          have h8 : (compL2 G tt vs1 fi1 G1 tt1 fe (wipeE ρ vs) (accu ++ []) (ws.drop (i + 1))).AllW (fun d a => (T.ok (W.lst a)).AllW (PQ X.K c1 H1 Q) (PX X.K c1 H1 fun cls dx H' => E cls dx σ H') d) (PX X.K c1 H1 fun cls dx H' => E cls dx σ H') d6 := h6
          rw [List.append_nil] at h8
          exact T.allW_bind.mpr h8
  · rw [List.drop_eq_nil_of_le (by omega)] at h'
    refine .inl ⟨js (by omega), ?_⟩
    have h8 : PQ X.K c1 H1 Q d' (.lst acc) := h'
    refine h8 _ H' ⟨gm.back, st'⟩ (e'.st.back gm e1.ok) (.lst (c := { cm with A := c1.A }) (e1.wd.fresh nD) hD ?_)
    exact RepL.weak (c := { cm with A := c1.A }) (c1 := cm) rfl rfl (fun b hb => by rw [gm.A]; exact List.mem_cons_of_mem _ hb) ra
theorem tr_lc2 (hc : X.calm = true) (hN : X.N.Nodup) (hi : TrI Γ X E tg iter fi) (ok : BlkOk X.N X.env.scope scope own) (hv : ∀ i ∈ vs1, i ∈ own.map (·.2)) (hs : ∀ i ∈ ns, i ∈ own.map (·.2)) (hs1 : ∀ i ∈ ns1, i ∈ vs1)
    (hg : ∀ (s : Shared) (H : Hp) (C : Addr) (cl : List (Str × Addr)) (fp : List Addr), TrG Γ (X.blk s H scope (compEnvC scope cl C X.env) fp) tg ns G) (ht : ∀ (s : Shared) (H : Hp) (C : Addr) (cl : List (Str × Addr)) (fp : List Addr), TrTs Γ (X.blk s H scope (compEnvC scope cl C X.env) fp) ifs tt)
    (hi1 : ∀ (s : Shared) (H : Hp) (C : Addr) (cl : List (Str × Addr)) (fp : List Addr), TrI Γ (X.blk s H scope (compEnvC scope cl C X.env) fp) noW tg1 iter1 fi1)
    (hg1 : ∀ (s : Shared) (H : Hp) (C : Addr) (cl : List (Str × Addr)) (fp : List Addr), TrG Γ (X.blk s H scope (compEnvC scope cl C X.env) fp) tg1 ns1 G1) (ht1 : ∀ (s : Shared) (H : Hp) (C : Addr) (cl : List (Str × Addr)) (fp : List Addr), TrTs Γ (X.blk s H scope (compEnvC scope cl C X.env) fp) ifs1 tt1)
    (he : ∀ (s : Shared) (H : Hp) (C : Addr) (cl : List (Str × Addr)) (fp : List Addr), TrE Γ (X.blk s H scope (compEnvC scope cl C X.env) fp) noW elt fe) (hf : ∀ x, foldedSetIterable iter X.env x = pure x := by intro _; rfl) (hf1 : ∀ env x, foldedSetIterable iter1 env x = pure x := by intro _ _; rfl) :
    TrE Γ X E (.ListComp elt [⟨tg, iter, ifs, 0⟩, ⟨tg1, iter1, ifs1, 0⟩] scope pos) (fComp2 (own.map (·.2)) fi G tt vs1 fi1 G1 tt1 fe) := pe_imp (pe_lc2 (g := liftG X.K Γ ns G) (tt := liftB X.K Γ noW tt) (wi1 := liftI X.K Γ noW fi1) (g1 := liftG X.K Γ ns1 G1) (tt1 := liftB X.K Γ noW tt1) (te := liftE X.K Γ noW fe) hc hN hi ok hv hg ht hi1 hg1 ht1 he hf hf1) (comp2_ok hs hs1)
end
end PF
namespace PF
open PySem PySem.Spec PyProof.Rows L2
def rSort1 (K : PySem.W.Frag) : List V → Hp → VK → Prop := fun vs H Q => ∃ (a : Addr) (xs : List V), vs = [V.ref a] ∧ SqL K H a xs ∧ xs.length ≤ 1 ∧ ∀ p, H p = none → Q (.ref p) (L2.upd H p (.lst xs))
theorem swo0 : SrtO.Swo fun (_ _ : Value) => false := ⟨fun _ _ h => (by cases h), fun _ _ _ _ _ => rfl⟩
section
variable {X : Cx}
theorem cr_sort1 : CallR X (.builtin "sorted") (rSort1 X.K) := by
  intro pins s σ H vs us Q I r h
  obtain ⟨a, xs, rfl, hs, hn, q⟩ := h
  obtain ⟨its, rv, hl, hz⟩ := I.list hs
  obtain ⟨u, rfl, ru⟩ := vals1 r
  obtain rfl : u = Value.ref a := ru
  have hi : its.length ≤ 1 := by rw [← rv.length]; exact hn
  refine SrtO.sorted_ord swo0 hl.isList (by rw [← rv.length]; exact hz) (fun h2 => absurd h2 (by omega)) fun out _ hb => ?_
  have e : out = its := by
    have hp := hb.perm
    cases its with
    | nil => exact hp.eq_nil
    | cons x r =>
      cases r with
      | nil => exact List.perm_singleton.mp hp
      | cons _ _ => simp at hi
  subst e
  have kp : ∀ b o, s.heap.get? b = some o → (sortedAll s.heap out out.toArray).get? b = some o := fun b o e => sortedAll_old e
  obtain ⟨n, hd⟩ := sortedAll_at s.heap out out.toArray
  exact ⟨.ref (s.heap.objs.size + 1), L2.upd H (s.heap.objs.size + 1) (.lst xs), I.laid (t' := s.toks) kp (Nat.le_succ _) ⟨hz, out, n, rv, hd⟩, rfl, q _ (I.hok.fresh (Nat.le_succ _))⟩
end
def sort1W : List W → T W
  | [.lst ws] => if ws.length ≤ 1 then .ok (.lst ws) else sortedW [.lst ws]
  | _ => .bad
theorem sem_sort1 {K : PySem.W.Frag} : SemL K (fun vs H Q => rSort1 K vs H Q ∨ rSortT K vs H Q) sort1W := fun c d H x v Q E' wd rx q => by
  match x, v, rx, q with
  | [], _, .nil, q => exact q.elim
  | [.lst ws], _, .cons (.lst n hq rl) .nil, q =>
    have q : (if ws.length ≤ 1 then T.ok (W.lst ws) else sortedW [.lst ws]).AllW (PQ K c H Q) E' d := q
    by_cases hz : ws.length ≤ 1
    · rw [if_pos hz] at q
      exact .inl ⟨_, _, rfl, SqL.of hq, by rw [← rl.length]; exact hz, fun p hf => q _ _ (.new hf) (wd.st.new hf) (.lst (wd.fresh hf) upd_same (rl.step (.new hf) wd.st wd.ok))⟩
    · rw [if_neg hz] at q
      exact .inr (sem_sorted c d H _ _ Q E' wd (.cons (.lst n hq rl) .nil) q)
  | .non :: _, _, _, q => exact q.elim
  | .bl _ :: _, _, _, q => exact q.elim
  | .int _ :: _, _, _, q => exact q.elim
  | .str _ :: _, _, _, q => exact q.elim
  | .tup _ :: _, _, _, q => exact q.elim
  | .dct _ _ :: _, _, _, q => exact q.elim
  | .scr _ :: _, _, _, q => exact q.elim
  | .stt :: _, _, _, q => exact q.elim
  | .clo _ _ _ :: _, _, _, q => exact q.elim
  | .lam _ _ :: _, _, _, q => exact q.elim
  | .exo _ _ :: _, _, _, q => exact q.elim
  | .lst _ :: _ :: _, _, _, q => exact q.elim
end PF
namespace PF
open PySem PySem.Spec PyProof.Rows L2 He
def obsE (as : List Addr) (fa : List Fa) (fn : List DefD) (ex : PySem.W.Frag → Bool) (g : Addr → Option Obj) : AlL := (obsD fa fn (frT g as), ex (frT g as) && tabOkB g (frT g as))
theorem saysE_of {as : List Addr} {fa : List Fa} {fn : List DefD} {ex : PySem.W.Frag → Bool} {h : Heap} (e : obsE as fa fn ex h.get? = (valD fn, true)) : SaysL fa fn ex h (frT h.get? as) := by
  have e1 : obsD fa fn (frT h.get? as) = valD fn := congrArg (fun z : AlL => z.1) e
  have e2 : (ex (frT h.get? as) && tabOkB h.get? (frT h.get? as)) = true := congrArg (fun z : AlL => z.2) e
  obtain ⟨h1, h2⟩ := Bool.and_eq_true_iff.mp e2
  unfold tabOkB at h2
  obtain ⟨h3, h4⟩ := Bool.and_eq_true_iff.mp h2
  have key : ∀ x ∈ tabC (frT h.get? as), PySem.W.codeHdIn (frT h.get? as) x.1 x.2.1 = true ∧ ∃ o, h.get? x.2.1 = some o ∧ emptyTab o = true := fun x hx => by
    obtain ⟨g1, g2⟩ := Bool.and_eq_true_iff.mp (List.all_eq_true.mp h3 x hx)
    refine ⟨g1, ?_⟩
    cases q : h.get? x.2.1 with
    | none =>
      rw [q] at g2
      cases g2
    | some o =>
      rw [q] at g2
      exact ⟨o, rfl, g2⟩
  refine ⟨e1, h1, fun x hx => (key x hx).1, fun x hx => ?_, fun x hx => ?_, apartB_ok h4⟩
  · obtain ⟨_, o, q, z⟩ := key x hx
    exact frT_none q z
  · obtain ⟨_, o, q, z⟩ := key x hx
    rw [q, emptyTab_eq z]
def hookE (as : List Addr) (fa : List Fa) (fn : List DefD) (ex : PySem.W.Frag → Bool) : PySem.W.Hook where
  α := AlL
  obs := fun s => obsE as fa fn ex s.heap.get?
  val := fun _ => (valD fn, true)
  says := fun _ h => ∃ K : PySem.W.Frag, K.In h ∧ SaysL fa fn ex h K
  of := fun _ _ e => ⟨_, frT_in, saysE_of e⟩
  keeps := fun _ _ _ ⟨K, hK, c⟩ k => ⟨K, PySem.W.Frag.In.keeps hK k, ⟨c.d, c.more, c.hd, c.out, fun x hx => k _ _ (c.empty x hx), c.apart⟩⟩
theorem obsE_eq {as : List Addr} {fa : List Fa} {fn : List DefD} {ex : PySem.W.Frag → Bool} {g : Addr → Option Obj} {s : Shared} (h : ∀ a, g a = s.heap.get? a) : obsE as fa fn ex g = (hookE as fa fn ex).obs s := by
  have e : g = s.heap.get? := funext h
  rw [e]
  rfl
open HandSHeadRun PySem.W in
def RunV (r : OpenRow) (M : Nat) (w : World) {β : Type} (f : SharedT → β) (v : β) : Prop := ∀ os : OsState, (endF (stepQ (denQ tabQ) r.prog w) M r.prog w os).map f = some v
theorem obsD_app {fa : List Fa} {f1 f2 : List DefD} {K : PySem.W.Frag} (h1 : obsD fa f1 K = valD f1) (h2 : obsD [] f2 K = valD f2) : obsD fa (f1 ++ f2) K = valD (f1 ++ f2) := by
  unfold obsD valD at *
  injection h1 with a1 b1
  injection h2 with a2 b2
  obtain ⟨a3, a4⟩ := Bool.and_eq_true_iff.mp a1
  obtain ⟨_, a5⟩ := Bool.and_eq_true_iff.mp a2
  rw [List.map_append, List.map_append, b1, b2, List.all_append, a3, a4, a5]
  rfl
open HandSHeadRun PySem.W in
theorem run_parts {r : OpenRow} {q : Program} {M : Nat} {loose : List PySem.Str} {w : World} {as : List Addr} {fa : List Fa} {f1 f2 : List DefD} {ex : PySem.W.Frag → Bool}
    (hZ : RunV r M w (fun s => (looksF r.prog (boot_heap w.params) s.abs, seenQ q loose (importedModules r.prog.main.body) (fun s => xlAt q [] s && recOk r.toRowW.records s) s.abs)) (true, openGood q loose)) (hA : RunV r M w (fun s => obsD fa f1 (frT (getT s) as)) (valD f1))
    (hB : RunV r M w (fun s => obsD [] f2 (frT (getT s) as)) (valD f2)) (hC : RunV r M w (fun s => ex (frT (getT s) as)) true) (hD : RunV r M w (fun s => tabOkB (getT s) (frT (getT s) as)) true) :
    RunEq r q (hookE as fa (f1 ++ f2) ex) (fun s => obsE as fa (f1 ++ f2) ex (getT s)) M loose w := by
  intro os
  have z := hZ os
  have a := hA os
  have b := hB os
  have c := hC os
  have dd := hD os
  cases e : endF (stepQ (denQ tabQ) r.prog w) M r.prog w os with
  | none =>
    rw [e] at a
    cases a
  | some s =>
    rw [e] at z a b c dd
    have z := Option.some.inj z
    have a3 : obsD fa f1 (frT (getT s) as) = valD f1 := Option.some.inj a
    have b : obsD [] f2 (frT (getT s) as) = valD f2 := Option.some.inj b
    have c : ex (frT (getT s) as) = true := Option.some.inj c
    have dd : tabOkB (getT s) (frT (getT s) as) = true := Option.some.inj dd
    injection z with a1 a2
    have z : obsE as fa (f1 ++ f2) ex (getT s) = (valD (f1 ++ f2), true) := by
      unfold obsE
      rw [obsD_app a3 b, c, dd]
      rfl
    show some (_, _, obsE as fa (f1 ++ f2) ex (getT s)) = _
    rw [a1, a2, z]
    rfl
end PF
namespace PF
open PySem PySem.Spec PyProof.Rows L2
/-- class no cl is an own one, its fields are no names of it -/
structure YC (K : PySem.W.Frag) (cl : Nat) : Prop where
  c : Cls K (He.ga K (yName cl))
  n : ∀ f ∈ yFlds cl, NoAttr K (He.ga K (yName cl)) f
  some : noObj K = false
def ycB (K : PySem.W.Frag) (cl : Nat) : Bool := PySem.W.plainGet K (He.ga K (yName cl)) Str.empty && (PySem.W.hasDictIn K (He.ga K (yName cl)) && (PySem.W.plainOver K (He.ga K (yName cl)) && (decide (PySem.W.findIn K (.ref (He.ga K (yName cl))) "__setattr__" = some (some (.builtin "object.__setattr__"))) &&
  ((yFlds cl).all (fun f => decide (PySem.W.findIn K (.ref (He.ga K (yName cl))) f = some none)) && !noObj K))))
theorem ycB_ok {K : PySem.W.Frag} {cl : Nat} (h : ycB K cl = true) : YC K cl := by
  unfold ycB at h
  simp only [Bool.and_eq_true, decide_eq_true_eq, Bool.not_eq_true', List.all_eq_true] at h
  exact ⟨⟨h.1, h.2.1, h.2.2.1, h.2.2.2.1⟩, fun f hf => h.2.2.2.2.1 f hf, h.2.2.2.2.2⟩
theorem yFlds_nd : ∀ cl, (yFlds cl).Nodup
  | 0 => by decide
  | 1 => by decide
  | 2 => by decide
  | 3 => by decide
  | 4 => by decide
  | 5 => by decide
  | 6 => by decide
  | n + 7 => by
    unfold yFlds yAll
    simp
theorem yFlds_len : ∀ cl, (yFlds cl).length ≤ 5
  | 0 => by decide
  | 1 => by decide
  | 2 => by decide
  | 3 => by decide
  | 4 => by decide
  | 5 => by decide
  | 6 => by decide
  | n + 7 => by
    unfold yFlds yAll
    simp
theorem zip_look {x : Str} {v : V} : ∀ {F : List Str} {vs : List V} {j : Nat}, F.Nodup → F[j]? = some x → vs[j]? = some v → (F.zip vs).lookup x = some v
  | [], _, j, _, h, _ => by simp at h
  | f :: F, [], j, _, _, h => by simp at h
  | f :: F, u :: vs, 0, _, h1, h2 => by
    simp at h1 h2
    subst h1
    subst h2
    simp
  | f :: F, u :: vs, j + 1, nd, h1, h2 => by
    have nd := List.nodup_cons.mp nd
    have h1 : F[j]? = some x := by simpa using h1
    have h2 : vs[j]? = some v := by simpa using h2
    have ne : (x == f) = false := beq_eq_false_iff_ne.mpr fun z => nd.1 (z ▸ List.mem_of_getElem? h1)
    rw [List.zip_cons_cons, List.lookup_cons, ne]
    exact zip_look nd.2 h1 h2
theorem zip_none {x : Str} : ∀ {F : List Str} {vs : List V}, x ∉ F → (F.zip vs).lookup x = none
  | [], _, _ => rfl
  | f :: F, [], _ => rfl
  | f :: F, u :: vs, h => by
    have ne : (x == f) = false := beq_eq_false_iff_ne.mpr fun z => h (z ▸ List.mem_cons_self ..)
    rw [List.zip_cons_cons, List.lookup_cons, ne]
    exact zip_none fun z => h (List.mem_cons_of_mem _ z)
theorem zip_set {x : Str} {v : V} : ∀ {F : List Str} {vs : List V} {j : Nat}, F.Nodup → F[j]? = some x → j < vs.length → putF x v (F.zip vs) = F.zip (vs.set j v)
  | [], _, j, _, h, _ => by simp at h
  | f :: F, [], j, _, _, h => by simp at h
  | f :: F, u :: vs, 0, _, h1, h2 => by
    simp at h1
    subst h1
    simp [putF]
  | f :: F, u :: vs, j + 1, nd, h1, h2 => by
    have nd := List.nodup_cons.mp nd
    have h1 : F[j]? = some x := by simpa using h1
    have ne : ¬ f = x := fun z => nd.1 (z ▸ List.mem_of_getElem? h1)
    rw [List.zip_cons_cons, List.set_cons_succ, List.zip_cons_cons]
    show (if f = x then _ else (f, u) :: putF x v (F.zip vs)) = _
    rw [if_neg ne, zip_set nd.2 h1 (by simpa using h2)]
theorem zip_app {x : Str} {v : V} : ∀ {F : List Str} {vs : List V}, F.Nodup → F[vs.length]? = some x → putF x v (F.zip vs) = F.zip (vs ++ [v])
  | [], _, _, h => by simp at h
  | f :: F, [], _, h => by
    simp at h
    subst h
    simp [putF]
  | f :: F, u :: vs, nd, h => by
    have nd := List.nodup_cons.mp nd
    have h : F[vs.length]? = some x := by simpa using h
    have ne : ¬ f = x := fun z => nd.1 (z ▸ List.mem_of_getElem? h)
    rw [List.zip_cons_cons, List.cons_append, List.zip_cons_cons]
    show (if f = x then _ else (f, u) :: putF x v (F.zip vs)) = _
    rw [if_neg ne, zip_app nd.2 h]
def getC (cl j cn : Nat) (fs : List W) : T W := if cn == cl then (match fs[j]? with
  | some v => .ok v
  | none => .bad) else .bad
def getW (cl j : Nat) : W → T W
  | .obj i => .get i (getC cl j)
  | _ => .bad
/-- what stands at an object -/
theorem obj_at {K : PySem.W.Frag} {c : Cc} {d : Dw} {oa : Nat → Addr} {ρ : En} {σ : L2.St} {H : Hp} {i cl : Nat} {a : Addr} {fs : List W} (e : EnvOk K Γ c d oa ρ σ H) (h : c.O[i]? = some a) (ho : d.os[i]? = some (cl, fs)) : ObAt K c H a cl fs := by
  have := e.st.2.at_ i a (cl, fs) h ho
  rw [e.kK] at this
  exact this
theorem tr_attr {X : Cx} {E : WX} {e : Expr} {f : En → T W} {cl j : Nat} {x : Str} {pos : Pos} (y : YC X.K cl) (hx : (yFlds cl)[j]? = some x) (h : TrE Γ X E e f) (hb : attributeBase e x X.env (eval e X.env) = eval e X.env := by rfl) :
    TrE Γ X E (.Attribute e x pos) (fun ρ => (f ρ).bind (getW cl j)) := pe_imp (pe_fld h hb) fun σ H Q q => by
  obtain ⟨c, d, oa, ρ, e, q⟩ := q
  refine lift_then (P := fun c H => PQ X.K c H Q) e q (fun st p => p.later st) @fun c1 w v H1 d1 st1 r1 e1 h1 => ?_
  cases r1 with
  | @obj i a hO =>
    obtain ⟨cn, fs, ho, h1⟩ := h1
    unfold getC at h1
    obtain ⟨hc, h7⟩ := T.AllW.ite h1
    obtain rfl : cn = cl := eq_of_beq hc
    obtain ⟨dx, vs, h2, h4, h5, _⟩ := obj_at e1 hO ho
    cases hj : fs[j]? with
    | none =>
      rw [hj] at h7
      exact h7.elim
    | some w =>
      rw [hj] at h7
      obtain ⟨v, hv, rv⟩ := h4.get hj
      exact ⟨a, _, dx, _, v, rfl, h2, y.c, y.n x (List.mem_of_getElem? hx), zip_look (yFlds_nd _) hx hv, PQ.now e1.wd h7 rv⟩
  | _ => exact h1.elim
def putFs (fs : List W) (j : Nat) (v : W) : Option (List W) := if j < fs.length then some (fs.set j v) else if j == fs.length then some (fs ++ [v]) else none
def setC (cl j i : Nat) (v : W) (cn : Nat) (fs : List W) : T Unit := if cn == cl then (match putFs fs j v with
    | some gs => if plainL gs then .put i gs (.ok ()) else .bad
    | none => .bad) else .bad
def setW (cl j : Nat) (v : W) : W → T Unit
  | .obj i => .get i (setC cl j i v)
  | _ => .bad
def sPut (cl j : Nat) (fo fe : En → T W) : En → T (Fl × En) := fun ρ => (fe ρ).bind fun v => (fo ρ).bind fun w => (setW cl j v w).bind fun _ => .ok (.nx, ρ)
theorem Tabs.updI {T : List (Addr × Str)} {H : Hp} {p C dx : Addr} {fs : List (Str × V)} {u : HO} (t : LamX.Tabs T H) (h : H p = some (.ins C dx fs)) : LamX.Tabs T (L2.upd H p u) := fun x hx => by
  obtain ⟨ps, h1, h2, h3⟩ := t x hx
  refine ⟨ps, by rw [upd_ne (ne_of h1 h nofun)]; exact h1, h2, fun pos cv hc => ?_⟩
  obtain ⟨c, e1, e2⟩ := h3 pos cv hc
  refine ⟨c, e1, ?_⟩
  rw [upd_ne]
  · exact e2
  · intro z
    subst z
    rw [h] at e2
    unfold LamX.CodeO at e2
    cases e2
section
variable {K : PySem.W.Frag} {c : Cc} {d : Dw} {oa : Nat → Addr} {ρ : En} {σ : L2.St} {H : Hp} {i cl j : Nat} {a C dx : Addr} {fl gl : List (Str × V)}
theorem Step.put (h : H a = some (.ins C dx fl)) : Step c H (L2.upd H a (.ins C dx gl)) := ⟨fun b o e _ _ nt => by
    rw [upd_ne]
    · exact e
    · intro z
      subst z
      rw [h] at e
      cases e
      exact nt (.ins _ _ _), fun b ps e => ⟨#[], by rw [upd_ne (ne_of e h nofun), e]; simp⟩, fun b C' dx' fs e => by
    rcases Decidable.em (b = a) with z | z
    · subst z
      rw [h] at e
      cases e
      exact ⟨gl, upd_same⟩
    · exact ⟨fs, by rw [upd_ne z]; exact e⟩⟩
theorem put_st {fs gs : List W} {vs ws : List V} (e : EnvOk K Γ c d oa ρ σ H) (hO : c.O[i]? = some a) (ho : d.os[i]? = some (cl, fs)) (hK : noObj K = false) (ha : H a = some (.ins (He.ga K (yName cl)) dx ((yFlds cl).zip vs))) (rl : RepL K c H gs ws) (hl : ws.length ≤ (yFlds cl).length) (hp : plainL gs = true) :
    StOk c ⟨d.n, d.os.set i (cl, gs)⟩ (L2.upd H a (.ins (He.ga K (yName cl)) dx ((yFlds cl).zip ws))) := by
  have st : SG c c H (L2.upd H a (.ins (He.ga K (yName cl)) dx ((yFlds cl).zip ws))) := .of (Step.put ha)
  have so := e.st
  have rs : ∀ us zs, RepL c.K c H us zs → RepL c.K c (L2.upd H a (.ins (He.ga K (yName cl)) dx ((yFlds cl).zip ws))) us zs := fun us zs r => r.step st so e.ok
  obtain ⟨⟨cells, lefts, kk, r, h1, h2, h3, h4, h5, h6, h7, h8, h9⟩, ob⟩ := e.st
  have hi : i < d.os.length := (List.getElem?_eq_some_iff.mp ho).1
  refine ⟨⟨cells, lefts, kk, r, by rw [upd_ne (ne_of h1 ha nofun)]; exact h1, by rw [upd_ne (ne_of h2 ha nofun)]; exact h2, by rw [upd_ne (ne_of h3 ha nofun)]; exact h3, h4, h5, h6, h7, h8, Tabs.updI h9 ha⟩, ob.ok, by rw [List.length_set]; exact ob.len, ob.nd, fun k b o hb hk => ?_, fun z => by rw [e.kK, hK] at z; cases z⟩
  rcases Decidable.em (k = i) with z | z
  · subst z
    rw [hO] at hb
    cases hb
    rw [List.getElem?_set_self hi] at hk
    cases hk
    rw [e.kK]
    rw [← e.kK] at rl
    have rl := rs _ _ rl
    rw [e.kK] at rl
    exact ⟨dx, ws, upd_same, rl, hl, hp⟩
  · rw [List.getElem?_set_ne (Ne.symm z)] at hk
    have q := ob.at_ k b o hb hk
    refine q.same ?_ rs
    rw [upd_ne]
    intro y
    subst y
    have hk' : k < c.O.length := (List.getElem?_eq_some_iff.mp hb).1
    have hi' : i < c.O.length := (List.getElem?_eq_some_iff.mp hO).1
    have e1 : c.O[k] = c.O[i] := by
      have a1 := (List.getElem?_eq_some_iff.mp hb).2
      have a2 := (List.getElem?_eq_some_iff.mp hO).2
      rw [a1, a2]
    exact z ((List.getElem_inj ob.nd).mp e1)
end
theorem tr_put {X : Cx} {E : XK} {o e : Expr} {fo fe : En → T W} {cl j : Nat} {x : Str} {pos pos' : Pos} (y : YC X.K cl) (hx : (yFlds cl)[j]? = some x) (ho : TrE Γ X (wOf E) o fo) (he : TrE Γ X (wOf E) e fe)
    (hs : swapsWith e (some (.Attribute o x pos')) pos.line X.env = pure false := by rfl) : TrS Γ X E (.Assign [.Attribute o x pos'] e pos) (sPut cl j fo fe) := ps_imp (ps_fld ho he hs) fun D σ H q => by
  obtain ⟨c, d, oa, ρ, e, q⟩ := q
  refine lift_thenS (P := fun c H => PSq X.K Γ c H D) e q (fun st p => p.later (.of st e.wd)) @fun c1 w v H1 d1 st1 r1 e1 h1 => ?_
  refine lift_thenS (P := fun c H => PSq X.K Γ c H D) e1 h1 (fun st p => p.later (.of st e1.wd)) @fun c2 w2 v2 H2 d2 st2 r2 e2 h2 => ?_
  cases r2 with
  | @obj i a hO =>
    obtain ⟨cn, fs, ho, h2⟩ := h2
    have h7 : ((setC cl j i w cn fs).bind fun _ => (T.ok (Fl.nx, ρ) : T (Fl × En))).AllW (PSq X.K Γ c2 H2 D) (PXs X.K c2 H2 E) d2 := h2
    unfold setC at h7
    by_cases hc : (cn == cl) = true
    · rw [if_pos hc] at h7
      obtain rfl : cn = cl := eq_of_beq hc
      obtain ⟨dx, vs, h3, h4, h5, hpl⟩ := obj_at e2 hO ho
      have hj : j < (yFlds cn).length := (List.getElem?_eq_some_iff.mp hx).1
      have r1' := r1.step st2 e1.st e1.ok
      cases hp : putFs fs j w with
      | none =>
        rw [hp] at h7
        exact h7.elim
      | some gs =>
        rw [hp] at h7
        have h9 : ((if plainL gs = true then T.put i gs (.ok ()) else .bad : T Unit).bind fun _ => (T.ok (Fl.nx, ρ) : T (Fl × En))).AllW (PSq X.K Γ c2 H2 D) (PXs X.K c2 H2 E) d2 := h7
        have hpg : plainL gs = true := by
          by_cases z : plainL gs = true
          · exact z
          · rw [if_neg z] at h9
            exact h9.elim
        rw [if_pos hpg] at h9
        obtain ⟨cx, gx, hox, h8⟩ := h9
        rw [ho] at hox
        cases hox
        have key : ∃ ws, RepL X.K c2 H2 gs ws ∧ ws.length ≤ (yFlds cn).length ∧ putF x v ((yFlds cn).zip vs) = (yFlds cn).zip ws := by
          unfold putFs at hp
          by_cases l : j < fs.length
          · rw [if_pos l] at hp
            cases hp
            exact ⟨vs.set j v, h4.set j r1', by rw [List.length_set]; exact h5, zip_set (yFlds_nd _) hx (by rw [← h4.length]; exact l)⟩
          · rw [if_neg l] at hp
            by_cases l2 : (j == fs.length) = true
            · rw [if_pos l2] at hp
              cases hp
              have ej : j = vs.length := by rw [← h4.length]; exact eq_of_beq l2
              exact ⟨vs ++ [v], h4.append (.cons r1' .nil), by rw [List.length_append, ← ej]; exact hj, zip_app (yFlds_nd _) (by rw [← ej]; exact hx)⟩
            · rw [if_neg l2] at hp
              cases hp
        obtain ⟨ws, k1, k2, k3⟩ := key
        have sN := put_st e2 hO ho y.some h3 k1 k2 hpg
        have st3 : SG c2 c2 H2 (L2.upd H2 a (.ins (He.ga X.K (yName cn)) dx ((yFlds cn).zip ws))) := .of (Step.put h3)
        have lz : ((yFlds cn).zip vs).length < 1000 := by
          rw [List.length_zip]
          have := yFlds_len cn
          omega
        refine ⟨a, _, dx, _, rfl, h3, y.c, y.n x (List.mem_of_getElem? hx), lz, ?_⟩
        rw [k3]
        exact h8 _ _ _ _ (.of st3 e2.wd) (e2.step st3 sN)
    · rw [if_neg hc] at h7
      exact h7.elim
  | _ => exact h2.elim
end PF
namespace PF
open PySem PySem.Spec PyProof.Rows L2
/-- class no cl's method m does what the run F says -/
def MtIs (P : Program) (w : World) (K : PySem.W.Frag) (mg : Str → Option Value) (base : Heap) (k cl : Nat) (m : Str) (ps : List Str) (F : List W → T W) : Prop :=
  ∃ f fd, FnG P w K mg base k f fd ps (SpF K F) ∧ Meth K (He.ga K (yName cl)) m f ∧ Binds K fd ps []
def mtB (K : PySem.W.Frag) (cl : Nat) (m : Str) (f : Addr) : Bool := decide (PySem.W.findIn K (.ref (He.ga K (yName cl))) m = some (some (.ref f))) && (PySem.W.isFn K (.ref f) && PySem.W.keepIn K (.ref f))
theorem mtB_ok {K : PySem.W.Frag} {cl : Nat} {m : Str} {f : Addr} (h : mtB K cl m f = true) : Meth K (He.ga K (yName cl)) m f := by
  unfold mtB at h
  simp only [Bool.and_eq_true, decide_eq_true_eq] at h
  exact ⟨h.1, h.2.1, h.2.2⟩
def isC (cl cn : Nat) (_ : List W) : T Unit := if cn == cl then .ok () else .bad
def isOb (cl : Nat) : W → T Unit
  | .obj i => .get i (isC cl)
  | _ => .bad
def fMeth0 (cl : Nat) (F : List W → T W) (fo : En → T W) : En → T W := fun ρ => (fo ρ).bind fun w => (isOb cl w).bind fun _ => F [w]
def fMeth (cl : Nat) (F : List W → T W) (fo : En → T W) (fs : En → T (List W)) : En → T W := fun ρ => (fo ρ).bind fun w => (isOb cl w).bind fun _ => (fs ρ).bind fun ws => F (w :: ws)
theorem isOb_get {K : PySem.W.Frag} {c : Cc} {d : Dw} {H : Hp} {β : Type} {P : Dw → β → Prop} {E : Dw → Nat → List W → Prop} {oa : Nat → Addr} {ρ : En} {σ : L2.St} {cl : Nat} {w : W} {v : V} {G : T β} (e : EnvOk K Γ c d oa ρ σ H) (r : Rep K c H w v) (h : ((isOb cl w).bind fun _ => G).AllW P E d) :
    ∃ a dx vs, v = .ref a ∧ H a = some (.ins (He.ga K (yName cl)) dx ((yFlds cl).zip vs)) ∧ G.AllW P E d := by
  cases r with
  | @obj i a hO =>
    obtain ⟨cn, fs, ho, h⟩ := h
    have h7 : ((isC cl cn fs).bind fun _ => G).AllW P E d := h
    unfold isC at h7
    by_cases hc : (cn == cl) = true
    · rw [if_pos hc] at h7
      obtain rfl : cn = cl := eq_of_beq hc
      obtain ⟨dx, vs, h3, h4, h5, _⟩ := obj_at e hO ho
      exact ⟨a, dx, vs, rfl, h3, h7⟩
    · rw [if_neg hc] at h7
      exact h7.elim
  | _ => exact h.elim
section
variable {X : Cx} {E : WX} {o e : Expr} {es : List Expr} {fo : En → T W} {fs : En → T (List W)} {pos apos : Pos} {F : List W → T W} {k cl : Nat} {ps : List Str} {m : Str} {pl : Sem Bool}
/-- o.m() -/
theorem tr_meth0 (y : YC X.K cl) (h : MtIs X.prog X.w X.K X.mg X.base k cl m ps F) (hgd : X.A.guards = some []) (hr : Room k X.A) (tk : Takes X E) (ho : TrE Γ X E o fo) (hm : m ∉ yFlds cl := by decide)
    (ht : eval (.Call (.Attribute o m apos) [] [] pos) X.env = (do
      let ov ← eval o X.env
      standAt apos.atName
      let (f, first) ← holding [ov] (getMethod ov m pl)
      callWith pos f first (backTo pos (starEach [] X.env)) (backToKw pos (keywordEach [] X.env))) := by rfl) :
    TrE Γ X E (.Call (.Attribute o m apos) [] [] pos) (fMeth0 cl F fo) := by
  obtain ⟨f, fd, G, hM, hb⟩ := h
  constructor
  intro pins s σ H Q I h
  obtain ⟨c, d, oa, ρ, e, h⟩ := h
  have hA : liftE X.K Γ E fo σ H (fun v H1 => ∃ a dx vs, v = .ref a ∧ H1 a = some (.ins (He.ga X.K (yName cl)) dx ((yFlds cl).zip vs)) ∧ SpF X.K F [v] H1 Q (fun cls dx H' => E cls dx σ H')) :=
    lift_then (P := fun c H => PQ X.K c H Q) e h (fun st p => p.later st) @fun c1 w v H1 d1 _ r1 e1 h1 => by
      obtain ⟨a, dx, vs, ev, ha, h1⟩ := isOb_get e1 r1 h1
      exact ⟨a, dx, vs, ev, ha, c1, d1, [w], ⟨e1.tT, e1.kK⟩, e1.wd, .cons r1 .nil, h1⟩
  refine PySem.W.methodCall_KW (pl := pl) (thn (ho.run pins s σ H _ I hA) fun u s1 z => ?_) ht
  obtain ⟨x, H1, I1, rx, a, dx, vs, ex, ea, q⟩ := z
  subst ex
  obtain rfl : u = Value.ref a := rx
  refine getmeth_ok I1 ea y.c hM (zip_none hm) ?_
  exact PySem.W.callWith_K0 (first := [.ref a]) I1.kIn hM.kp (run_g (us := [.ref a]) (vs := [.ref a]) G hgd hr hb (passAt tk σ) I1 (.cons rfl .nil) q)
/-- o.m(e, ..) -/
theorem tr_meth (y : YC X.K cl) (h : MtIs X.prog X.w X.K X.mg X.base k cl m ps F) (hgd : X.A.guards = some []) (hr : Room k X.A) (tk : Takes X E) (ho : TrE Γ X E o fo) (ha : TrA Γ X E (e :: es) fs) (hm : m ∉ yFlds cl := by decide)
    (hst : starEach (e :: es) X.env = (false, eval e X.env) :: starEach es X.env := by rfl) (hpl : (backTo pos (starEach es X.env)).any (·.1) = false := by rfl)
    (ht : eval (.Call (.Attribute o m apos) (e :: es) [] pos) X.env = (do
      let ov ← eval o X.env
      standAt apos.atName
      let (f, first) ← holding [ov] (getMethod ov m pl)
      callWith pos f first (backTo pos (starEach (e :: es) X.env)) (backToKw pos (keywordEach [] X.env))) := by rfl) :
    TrE Γ X E (.Call (.Attribute o m apos) (e :: es) [] pos) (fMeth cl F fo fs) := by
  obtain ⟨f, fd, G, hM, hb⟩ := h
  constructor
  intro pins s σ H Q I h
  obtain ⟨c, d, oa, ρ, ev, h⟩ := h
  have hA : liftE X.K Γ E fo σ H (fun v H1 => ∃ a dx vs, v = .ref a ∧ H1 a = some (.ins (He.ga X.K (yName cl)) dx ((yFlds cl).zip vs)) ∧ liftA X.K Γ E fs σ H1 fun ws H2 => SpF X.K F (v :: ws) H2 Q (fun cls dx H' => E cls dx σ H')) :=
    lift_then (P := fun c H => PQ X.K c H Q) ev h (fun st p => p.later st) @fun c1 w v H1 d1 _ r1 e1 h1 => by
      obtain ⟨a, dx, vs, ev, hx, h1⟩ := isOb_get e1 r1 h1
      refine ⟨a, dx, vs, ev, hx, liftA_then (P := fun c H => PQ X.K c H Q) e1 h1 (fun st p => p.later st) @fun c2 w2 v2 H2 d2 st2 r2 e2 h2 => ?_⟩
      exact ⟨c2, d2, w :: w2, ⟨e2.tT, e2.kK⟩, e2.wd, .cons (r1.step st2 e1.st e1.ok) r2, h2⟩
  refine PySem.W.methodCall_KW (pl := pl) (thn (ho.run pins s σ H _ I hA) fun u s1 z => ?_) ht
  obtain ⟨x, H1, I1, rx, a, dx, vs, ex, ea, q⟩ := z
  subst ex
  obtain rfl : u = Value.ref a := rx
  refine getmeth_ok I1 ea y.c hM (zip_none hm) ?_
  refine PySem.W.callWith_K (first := [.ref a]) (h₀ := X.base) I.ok.mod.kin hM.kp (thn (ha.run pos pins s1 σ H1 _ I1 q) fun us s2 z => ?_) hst hpl
  obtain ⟨vs, H2, I2, r, q2⟩ := z
  exact ⟨I2.kIn, run_g (us := .ref a :: us) (vs := .ref a :: vs) G hgd hr hb (passAt tk σ) I2 (.cons rfl r) q2⟩
end
/-- class no cl's __init__ does what the run F says -/
def MkIs (P : Program) (w : World) (K : PySem.W.Frag) (mg : Str → Option Value) (base : Heap) (k cl : Nat) (ps : List Str) (F : List W → T W) : Prop :=
  ∃ f fd, FnG P w K mg base k f fd ps (SpF K F) ∧ Mk K (He.ga K (yName cl)) f ∧ Binds K fd ps [] ∧ mg (yName cl) = some (.ref (He.ga K (yName cl)))
def mkB (K : PySem.W.Frag) (cl : Nat) (f : Addr) : Bool := PySem.W.makesIn K (He.ga K (yName cl)) && (decide (PySem.W.findIn K (.ref (He.ga K (yName cl))) "__init__" = some (some (.ref f))) && (PySem.W.isFn K (.ref f) && PySem.W.keepIn K (.ref (He.ga K (yName cl)))))
theorem mkB_ok {K : PySem.W.Frag} {cl : Nat} {f : Addr} (h : mkB K cl f = true) : Mk K (He.ga K (yName cl)) f := by
  unfold mkB at h
  simp only [Bool.and_eq_true, decide_eq_true_eq] at h
  exact ⟨h.1, h.2.1, h.2.2.1, h.2.2.2⟩
def nonW (i : Nat) : W → T W
  | .non => .ok (.obj i)
  | _ => .bad
def fNew (cl : Nat) (F : List W → T W) (fs : En → T (List W)) : En → T W := fun ρ => (fs ρ).bind fun ws => .new cl [] fun i => (F (.obj i :: ws)).bind (nonW i)
section
variable {K : PySem.W.Frag} {c : Cc} {d : Dw} {oa : Nat → Addr} {ρ : En} {σ : L2.St} {H : Hp} {cl : Nat} {a dx : Addr}
/-- with one object more -/
abbrev Cc.plus (c : Cc) (a : Addr) : Cc := { c with O := c.O ++ [a] }
theorem Gr.plus (c : Cc) (a : Addr) : Gr c (c.plus a) := ⟨rfl, rfl, rfl, rfl, rfl, rfl, rfl, rfl, List.prefix_append _ _⟩
theorem new_st (e : EnvOk K Γ c d oa ρ σ H) (hK : noObj K = false) (n1 : H a = none) (n2 : H dx = none) (ne : dx ≠ a) :
    SG c (c.plus a) H (L2.upd (L2.upd H dx (.own a)) a (.ins (He.ga K (yName cl)) dx [])) ∧ StOk (c.plus a) ⟨d.n, d.os ++ [(cl, [])]⟩ (L2.upd (L2.upd H dx (.own a)) a (.ins (He.ga K (yName cl)) dx [])) := by
  have n1' : (L2.upd H dx (.own a)) a = none := by rw [upd_ne (Ne.symm ne)]; exact n1
  have st : SG c c H (L2.upd (L2.upd H dx (.own a)) a (.ins (He.ga K (yName cl)) dx [])) := SG.trans (.new n2) (.new n1')
  have so := (e.st.new (o := .own a) n2).new (o := .ins (He.ga K (yName cl)) dx []) n1'
  have g := Gr.plus c a
  have st2 : SG c (c.plus a) H (L2.upd (L2.upd H dx (.own a)) a (.ins (He.ga K (yName cl)) dx [])) := ⟨g, st.st⟩
  refine ⟨st2, so.1, CcOk.gr g e.ok, ?_, ?_, fun k b o hb ho => ?_, fun z => ?_⟩
  · show (c.O ++ [a]).length = (d.os ++ [(cl, [])]).length
    rw [List.length_append, List.length_append, so.2.len]
    rfl
  · refine List.nodup_append.mpr ⟨so.2.nd, List.nodup_cons.mpr ⟨nofun, .nil⟩, fun x hx y hy => ?_⟩
    obtain rfl : y = a := by simpa using hy
    intro z
    subst z
    obtain ⟨i, hi⟩ := List.getElem?_of_mem hx
    have hl : i < d.os.length := by rw [← e.st.2.len]; exact (List.getElem?_eq_some_iff.mp hi).1
    obtain ⟨C, dy, fl, q⟩ := (e.st.2.at_ i x _ hi (List.getElem?_eq_getElem hl)).some
    rw [n1] at q
    cases q
  · have hb : (c.O ++ [a])[k]? = some b := hb
    have ho : (d.os ++ [(cl, [])])[k]? = some o := ho
    rcases Nat.lt_trichotomy k c.O.length with l | l | l
    · rw [List.getElem?_append_left l] at hb
      rw [List.getElem?_append_left (by rw [← so.2.len]; exact l)] at ho
      have q := so.2.at_ k b o hb ho
      exact q.same rfl fun us vs r => r.gr g
    · subst l
      rw [List.getElem?_append_right (Nat.le_refl _), Nat.sub_self] at hb
      have hl : d.os.length = c.O.length := so.2.len.symm
      rw [List.getElem?_append_right (by rw [hl]; exact Nat.le_refl _), hl, Nat.sub_self] at ho
      cases hb
      cases ho
      show ObAt c.K _ _ _ cl []
      rw [e.kK]
      refine ⟨dx, [], ?_, .nil, Nat.zero_le _, rfl⟩
      rw [upd_same, List.zip_nil_right]
    · rw [List.getElem?_eq_none (by rw [List.length_append]; exact l)] at hb
      cases hb
  · have z : noObj c.K = true := z
    rw [e.kK, hK] at z
    cases z
end
section
variable {X : Cx} {E : WX} {e : Expr} {es : List Expr} {fs : En → T (List W)} {pos p : Pos} {F : List W → T W} {k cl : Nat} {ps : List Str} {x : Str}
theorem run_mk {pins : List (Addr × Obj)} {σ : L2.St} {H : Hp} {s : Shared} {Q : VK} {us : List Value} {vs : List V} {f : Addr} {fd : FuncData} {C : Addr} {sp : Sp} {E' : XK} (M : Mk X.K C f) (G : FnG X.prog X.w X.K X.mg X.base k f fd ps sp) (hgd : X.A.guards = some []) (hr : Room (k + 1) X.A) (hb : Binds X.K fd ps [])
    (hx : PassesAt (L2.CX X.prog X.w) X σ E') (I : Inv X pins σ H s) (r : Vals vs us)
    (h : ∀ x dx, H x = none → H dx = none → dx ≠ x → sp (.ref x :: vs) (L2.upd (L2.upd H dx (.own x)) x (.ins C dx [])) (fun v H2 => v = .non ∧ Q (.ref x) H2) E') :
    wpAny (model X.prog X.w) X.A (call (.ref C) us) (EP X pins σ Q) X.xe s := by
  have hq := h (s.heap.objs.size + 1) s.heap.objs.size (I.hok.fresh (Nat.le_succ _)) (I.hok.fresh (Nat.le_refl _)) (Nat.ne_of_lt (Nat.lt_succ_self _))
  have I2 := Inv.made (C := C) I
  have r2 : Vals (V.ref (s.heap.objs.size + 1) :: vs) (Value.ref (s.heap.objs.size + 1) :: us) := .cons rfl r
  have hl : (Value.ref (s.heap.objs.size + 1) :: us ++ []).length = ps.length := by
    rw [List.append_nil, ← r2.length]
    exact G.len _ _ _ _ hq
  have bt := hb _ (Value.ref (s.heap.objs.size + 1) :: us) I2.kIn hl
  rw [List.append_nil] at bt
  refine wpAny_call (make_map (f := f) I.kIn M.makes M.init (beq_iff_eq.mp M.fn) (codeAny_mono (G.go _ X.stack _ _ ⟨Value.ref (s.heap.objs.size + 1) :: us, []⟩ (Value.ref (s.heap.objs.size + 1) :: us) _ _ E' hgd (hr.make C us [])
    (I2.env0.make C us []) bt r2 hq) fun r s' hq' => ?_))
  cases r with
  | error e => exact hx pins _ _ e s' I2 hq'
  | ok fl =>
    cases fl with
    | ret u =>
      obtain ⟨v, H', I3, rv, ev, q3⟩ := I2.after hq'
      subst ev
      exact ⟨rv, ⟨V.ref (s.heap.objs.size + 1), H', I3, rfl, q3⟩⟩
    | next => exact False.elim hq'
    | brk => exact False.elim hq'
    | cont => exact False.elim hq'
theorem tr_new (y : YC X.K cl) (h : MkIs X.prog X.w X.K X.mg X.base k cl ps F) (hgd : X.A.guards = some []) (hr : Room (k + 1) X.A) (tk : Takes X E) (hx : yName cl = x) (hg : Gl X x) (ha : TrA Γ X E (e :: es) fs)
    (hdb : (x == ("__debug__" : Str)) = false := by decide) (he : starEach (e :: es) X.env = (false, eval e X.env) :: starEach es X.env := by rfl) (hpl : (backTo pos (starEach es X.env)).any (·.1) = false := by rfl) :
    TrE Γ X E (.Call (.Name x p) (e :: es) [] pos) (fNew cl F fs) := by
  obtain ⟨f, fd, G, M, hb, hm⟩ := h
  subst hx
  constructor
  intro pins s σ H Q I h
  obtain ⟨c, d, oa, ρ, ev, h⟩ := h
  have hA : liftA X.K Γ E fs σ H (fun vs H1 => ∀ x dx, H1 x = none → H1 dx = none → dx ≠ x → SpF X.K F (.ref x :: vs) (L2.upd (L2.upd H1 dx (.own x)) x (.ins (He.ga X.K (yName cl)) dx [])) (fun v H2 => v = .non ∧ Q (.ref x) H2) (fun cls dx H' => E cls dx σ H')) :=
    liftA_then (P := fun c H => PQ X.K c H Q) ev h (fun st p => p.later st) @fun c1 ws vs H1 d1 _ r1 e1 h1 => by
      intro x dx n1 n2 ne
      obtain ⟨st, so⟩ := new_st (cl := cl) e1 y.some n1 n2 ne
      have h2 : ((F (.obj d1.os.length :: ws)).bind (nonW d1.os.length)).AllW (PQ X.K c1 H1 Q) (PX X.K c1 H1 fun cls dx H' => E cls dx σ H') ⟨d1.n, d1.os ++ [(cl, [])]⟩ := h1
      have e2 := e1.step st so
      have hat : (c1.plus x).O[d1.os.length]? = some x := by
        show (c1.O ++ [x])[d1.os.length]? = some x
        rw [List.getElem?_append_right (by rw [e1.st.2.len]; exact Nat.le_refl _), e1.st.2.len, Nat.sub_self]
        rfl
      refine ⟨c1.plus x, _, .obj d1.os.length :: ws, ⟨e2.tT, e2.kK⟩, e2.wd, .cons (.obj hat) (r1.step st e1.st e1.ok), T.AllW.imp (fun d3 w hw => ?_) (fun d3 n fs hw => hw.later st) (T.allW_bind.mp h2)⟩
      intro c3 v H3 st3 so3 r3
      cases r3 with
      | non => exact ⟨rfl, (show PQ X.K c1 H1 Q d3 (.obj d1.os.length) from hw) _ H3 (st.trans st3) so3 (.obj (st3.g.at hat))⟩
      | _ => exact hw.elim
  refine wpAny_Call_Name_kw (ld_glob I hg hm (PySem.W.callWith_K (h₀ := X.base) I.ok.mod.kin M.kp (thn (ha.run pos pins s σ H _ I hA) fun us s1 z => ?_) he hpl) hdb)
  obtain ⟨vs, H1, I1, r, q⟩ := z
  exact ⟨I1.kIn, run_mk M G hgd hr hb (passAt tk σ) I1 r q⟩
end
end PF
namespace PF
open PySem PySem.Spec PyProof.Rows L2
def strIW : List W → T W
  | [.int i] => if decide (i.natAbs.log2 < 1920) then .ok (.str (toString i)) else .bad
  | _ => .bad
theorem sem_strI {K : PySem.W.Frag} : SemL K (fun xs H Q => ∃ i : Int, xs = [.int i] ∧ i.natAbs.log2 < 1920 ∧ Q (.str (toString i)) H) strIW := fun c d H x v Q E' wd rx q => by
  cases rx with
  | nil => exact q.elim
  | cons r rr =>
    cases rr with
    | cons _ _ => cases r <;> exact q.elim
    | nil =>
      cases r with
      | int i =>
        obtain ⟨hz, q⟩ := T.AllW.ite q
        exact ⟨i, rfl, of_decide_eq_true hz, PQ.now wd q (.str _)⟩
      | _ => exact q.elim
def intSW : List W → T W
  | [.int i] => .ok (.int i)
  | [.bl b] => .ok (.int (if b then 1 else 0))
  | [.str a] => match PySem.intText? a with
    | some n => if decide (a.length ≤ 640) then .ok (.int n) else .bad
    | none => .bad
  | _ => .bad
theorem sem_intS {K : PySem.W.Frag} : SemL K (fun xs H Q => ((∃ i, xs = [.int i] ∧ Q (.int i) H) ∨ ∃ k, xs = [.bl k] ∧ Q (.int (if k then 1 else 0)) H) ∨ ∃ a n, xs = [.str a] ∧ PySem.intText? a = some n ∧ a.length ≤ 640 ∧ Q (.int n) H) intSW := fun c d H x v Q E' wd rx q => by
  cases rx with
  | nil => exact q.elim
  | cons r rr =>
    cases rr with
    | cons _ _ => cases r <;> exact q.elim
    | nil =>
      cases r with
      | int i => exact .inl (.inl ⟨i, rfl, PQ.now wd q (.int _)⟩)
      | bl b => exact .inl (.inr ⟨b, rfl, PQ.now wd q (.int _)⟩)
      | str a =>
        have q : (match PySem.intText? a with
          | some n => if decide (a.length ≤ 640) then T.ok (W.int n) else .bad
          | none => .bad).AllW (PQ K c H Q) E' d := q
        cases e : PySem.intText? a with
        | none =>
          rw [e] at q
          exact q.elim
        | some n =>
          rw [e] at q
          obtain ⟨hz, q⟩ := T.AllW.ite q
          exact .inr ⟨a, n, rfl, e, of_decide_eq_true hz, PQ.now wd q (.int _)⟩
      | _ => exact q.elim
theorem bo_strT : bootBuiltins ("str" : Str) = some (.type "str") := by decide +kernel
def strOnly : W → T Unit
  | .str _ => .ok ()
  | _ => .bad
def fBM (g : W → List W → T W) (fo : En → T W) (fs : En → T (List W)) : En → T W := fun ρ => (fo ρ).bind fun w => (strOnly w).bind fun _ => (fs ρ).bind fun ws => g w ws
def SemM (K : PySem.W.Frag) (r : V → List V → Hp → VK → Prop) (g : W → List W → T W) : Prop := ∀ (c : Cc) (d : Dw) (H : Hp) (a : Str) (xs : List W) (vs : List V) (Q : VK) (E' : Dw → Nat → List W → Prop), Wd c d H → RepL K c H xs vs → (g (.str a) xs).AllW (PQ K c H Q) E' d → r (.str a) vs H Q
theorem tr_bmS {X : Cx} {E : WX} {e : Expr} {fo : En → T W} {fs : En → T (List W)} {r : V → List V → Hp → VK → Prop} {g : W → List W → T W} (hs : SemM X.K r g) (hp : PE X e (tBM X.K "str" r (liftE X.K Γ E fo) (liftA X.K Γ E fs))) : TrE Γ X E e (fBM g fo fs) := pe_imp hp fun σ H Q q => by
  obtain ⟨c, d, oa, ρ, e, q⟩ := q
  refine lift_then (P := fun c H => PQ X.K c H Q) e q (fun st p => p.later st) @fun c1 w v H1 d1 st1 r1 e1 h1 => ?_
  cases r1 with
  | str a =>
    refine ⟨rfl, liftA_then (P := fun c H => PQ X.K c H Q) e1 h1 (fun st p => p.later st) @fun c2 ws vs H2 d2 st2 r2 e2 h2 => ?_⟩
    exact hs c2 d2 H2 a ws vs Q _ e2.wd r2 h2
  | _ => exact h1.elim
def strsOf : List W → Option (List Str)
  | [] => some []
  | .str x :: r => (strsOf r).map (x :: ·)
  | _ :: _ => none
theorem strsOf_rep {K : PySem.W.Frag} {c : Cc} {H : Hp} : ∀ {ws : List W} {vs : List V} {ys : List Str}, strsOf ws = some ys → RepL K c H ws vs → vs = ys.map V.str
  | _, _, ys, h, .nil => by
    cases h
    rfl
  | _, _, ys, h, .cons r rr => by
    cases r with
    | str x =>
      unfold strsOf at h
      rename_i ws vs
      cases q : strsOf ws with
      | none =>
        rw [q] at h
        cases h
      | some zs =>
        rw [q] at h
        cases h
        rw [strsOf_rep q rr]
        rfl
    | _ => cases h
def joinB (a : Str) (ys : List Str) : Bool := decide ((ys.map (·.length)).sum + ys.length * a.length ≤ 16777216)
def joinW : W → List W → T W
  | .str a, [.lst us] => match strsOf us with
    | some ys => if joinB a ys then .ok (.str (Txt.join a ys)) else .bad
    | none => .bad
  | .str a, [.tup us] => match strsOf us with
    | some ys => if joinB a ys then .ok (.str (Txt.join a ys)) else .bad
    | none => .bad
  | _, _ => .bad
theorem sem_join {K : PySem.W.Frag} : SemM K (fun x xs H Q => ∃ a p, ∃ ys : List Str, x = .str a ∧ xs = [.ref p] ∧ (SqL K H p (ys.map V.str) ∨ SqT K H p (ys.map V.str)) ∧
    (ys.map (·.length)).sum + ys.length * a.length ≤ 16777216 ∧ Q (.str (Txt.join a ys)) H) joinW := fun c d H a xs vs Q E' wd rx q => by
  cases rx with
  | nil => exact q.elim
  | cons r rr =>
    cases rr with
    | cons _ _ => cases r <;> exact q.elim
    | nil =>
      cases r with
      | @lst p zs us n h rl =>
        have q : (match strsOf us with
          | some ys => if joinB a ys then T.ok (W.str (Txt.join a ys)) else .bad
          | none => .bad).AllW (PQ K c H Q) E' d := q
        cases e : strsOf us with
        | none =>
          rw [e] at q
          exact q.elim
        | some ys =>
          rw [e] at q
          obtain ⟨hz, q⟩ := T.AllW.ite q
          have ez := strsOf_rep e rl
          subst ez
          exact ⟨a, p, ys, rfl, rfl, .inl (SqL.of h), of_decide_eq_true hz, PQ.now wd q (.str _)⟩
      | @tup p zs us h rl =>
        have q : (match strsOf us with
          | some ys => if joinB a ys then T.ok (W.str (Txt.join a ys)) else .bad
          | none => .bad).AllW (PQ K c H Q) E' d := q
        cases e : strsOf us with
        | none =>
          rw [e] at q
          exact q.elim
        | some ys =>
          rw [e] at q
          obtain ⟨hz, q⟩ := T.AllW.ite q
          have ez := strsOf_rep e rl
          subst ez
          exact ⟨a, p, ys, rfl, rfl, .inr h, of_decide_eq_true hz, PQ.now wd q (.str _)⟩
      | _ => exact q.elim
theorem rep_strs {K : PySem.W.Frag} {c : Cc} {H : Hp} : ∀ ys : List Str, RepL K c H (ys.map W.str) (ys.map V.str)
  | [] => .nil
  | y :: ys => .cons (.str y) (rep_strs ys)
def splitW : W → List W → T W
  | .str a, [.str b] => if !(b.length == 0) && decide (a.length + 2 ≤ 16777216) then .ok (.lst ((Txt.split a b).map W.str)) else .bad
  | _, _ => .bad
theorem sem_split {K : PySem.W.Frag} : SemM K (fun x xs H Q => ∃ a b, x = .str a ∧ xs = [.str b] ∧ (b.length == 0) = false ∧ a.length + 2 ≤ sizeLine ∧ rNewStrs (Txt.split a b) H Q) splitW := fun c d H a xs vs Q E' wd rx q => by
  cases rx with
  | nil => exact q.elim
  | cons r rr =>
    cases rr with
    | cons _ _ => cases r <;> exact q.elim
    | nil =>
      cases r with
      | str b =>
        obtain ⟨hz, q⟩ := T.AllW.ite q
        obtain ⟨h1, h2⟩ := Bool.and_eq_true_iff.mp hz
        exact ⟨a, b, rfl, rfl, by simpa using h1, by rw [sizeLine_eq]; exact of_decide_eq_true h2, fun p hp => PQ.lst wd q (rep_strs _) hp⟩
      | _ => exact q.elim
def chrs (z : Str) : List W := z.cps.toList.map fun c => W.str ⟨#[c]⟩
def chrW : W → T (List W)
  | .str z => .ok (chrs z)
  | _ => .bad
theorem tri_str {X : Cx} {E : WX} {tg e : Expr} {f : En → T W} (h : TrE Γ X E e f) : TrI Γ X E tg e (iOf chrW f) := pi_imp (pi_str h) fun σ H R q => by
  obtain ⟨c, d, oa, ρ, e, q⟩ := q
  refine lift_then (P := fun c H => PJ X.K c H R) e q (fun st p => p.later st) @fun c1 w v H1 d1 _ r1 e1 h1 => ?_
  cases r1 with
  | str z =>
    have hl : (chrs z).length = z.cps.size := by
      unfold chrs
      rw [List.length_map, Array.length_toList]
    refine ⟨z, rfl, PJ.now e1.wd h1 fun c' H' d' i fw wd => ⟨fun w hw => ?_, fun hi => ?_⟩⟩
    · unfold chrs at hw
      rw [List.getElem?_map] at hw
      cases hc : z.cps.toList[i]? with
      | none =>
        rw [hc] at hw
        cases hw
      | some c0 =>
        rw [hc] at hw
        cases hw
        have hc' : z.cps[i]? = some c0 := by
          rw [← Array.getElem?_toList]
          exact hc
        refine ⟨?_, fun x H2 y => ?_⟩
        · show i < z.cps.size
          rw [← Array.length_toList]
          exact (List.getElem?_eq_some_iff.mp hc).1
        · obtain ⟨eH, c2, h2, ex⟩ := y
          rw [hc'] at h2
          cases h2
          subst eH
          subst ex
          exact ⟨.refl _ _, wd.st, .str _⟩
    · show z.cps.size ≤ i
      rw [← hl]
      exact hi
  | _ => exact h1.elim
def inS (x y : W) : T W := match x, y with
  | .str a, .str z => match a.cps with
    | ⟨[c]⟩ => .ok (.bl (decide (c ∈ z.cps.toList)))
    | _ => .bad
  | _, _ => inW x y
theorem sem_inS {K : PySem.W.Frag} : Sem2 K (fun x y H Q => (∃ (c : Nat) (z : Str), x = .str ⟨#[c]⟩ ∧ y = .str z ∧ Q (.bl (decide (c ∈ z.cps.toList))) H) ∨ (rInD K x y H Q ∨ rInT K false x y H Q)) inS := fun c d H x y v u Q E' wd rx ry q => by
  unfold inS at q
  split at q
  · rename_i a z
    split at q
    · rename_i c0 hc
      cases rx
      cases ry
      obtain ⟨cps⟩ := a
      have hc : cps = #[c0] := hc
      subst hc
      exact .inl ⟨c0, z, rfl, rfl, PQ.now wd q (.bl _)⟩
    · exact q.elim
  · exact .inr (sem_in c d H x y v u Q E' wd rx ry q)
theorem op_inS2 {X : Cx} (hu : X.A.units + 65 < cLine) : OpR X (compareOp .In) (fun x y H Q => (∃ (c : Nat) (z : Str), x = .str ⟨#[c]⟩ ∧ y = .str z ∧ Q (.bl (decide (c ∈ z.cps.toList))) H) ∨ (rInD X.K x y H Q ∨ rInT X.K false x y H Q)) := opR_or op_in_sign (op_inW hu)
def fLenO (i : Nat) : En → T W := fun ρ => match ρ[i]? with
  | some (.own ws) => .ok (.int ws.length)
  | _ => .bad
theorem tr_lenO {X : Cx} {E : WX} {i : Nat} {a : Expr} {p pos : Pos} (hv : PE X a (tVar i)) (hg : Gl X "len") (hm : X.mg "len" = none) (he : starEach [a] X.env = (false, eval a X.env) :: starEach [] X.env := by rfl) (hpl : (backTo pos (starEach [] X.env)).any (·.1) = false := by rfl) :
    TrE Γ X E (.Call (.Name "len" p) [a] [] pos) (fLenO i) := pe_imp (pe_callB (id := "len") call_len hg hm (by decide +kernel) (pa_cons (hs := he) hv pa_nil) (by decide) (by decide) he hpl) fun σ H Q q => by
  obtain ⟨c, d, oa, ρ, e, q⟩ := q
  unfold fLenO at q
  split at q
  · rename_i ws hw
    obtain ⟨m1, m2, vs, m3, m4⟩ := e.own i ws hw
    refine ⟨_, m2, .ref (oa i), vs.length, rfl, .inl ⟨vs, SqL.of m3, rfl⟩, ?_⟩
    rw [← m4.length]
    exact PQ.now e.wd q (.int _)
  · exact q.elim
end PF
namespace PF
open PySem PySem.Spec PyProof.Rows L2
def mtd (st : Stmt) (j : Nat) : Stmt := match st with
  | .ClassDef (body := b) .. => b.getD j (.Pass ⟨0, 0, 0, 0⟩)
  | s => s
def atW (ws : List W) : W → T W
  | .int z => (match L2.atI ws z with
    | some w => .ok w
    | none => .bad)
  | _ => .bad
def fIxO (i : Nat) (fb : En → T W) : En → T W := fun ρ => match ρ[i]? with
  | some (.own ws) => (fb ρ).bind (atW ws)
  | _ => .bad
theorem tr_ixO {X : Cx} {E : WX} {a b : Expr} {pos : Pos} {i : Nat} {fb : En → T W} (ha : PE X a (tVar i)) (hb : TrE Γ X E b fb) (hp : PlainIx b := by exact fun _ _ => rfl) : TrE Γ X E (.Subscript a b pos) (fIxO i fb) := pe_imp (pe_ix ix_seq ha hb hp) fun σ H Q q => by
  obtain ⟨c, d, oa, ρ, e, q⟩ := q
  unfold fIxO at q
  split at q
  · rename_i ws hw
    obtain ⟨m1, m2, _⟩ := e.own i ws hw
    refine ⟨_, m2, lift_then (P := fun c H => PQ X.K c H Q) e q (fun st p => p.later st) @fun c1 w v H1 d1 _ r1 e1 h1 => ?_⟩
    obtain ⟨m1', m2', vs, m3, m4⟩ := e1.own i ws hw
    cases r1 with
    | int z =>
      have h1 : (match L2.atI ws z with | some w => T.ok w | none => .bad : T W).AllW (PQ X.K c1 H1 Q) (PX X.K c1 H1 fun cls dx H' => E cls dx σ H') d1 := h1
      cases hz : L2.atI ws z with
      | none =>
        rw [hz] at h1
        exact h1.elim
      | some w =>
        rw [hz] at h1
        obtain ⟨v, g1, g2⟩ := m4.atI hz
        exact .inl ⟨_, vs, z, v, rfl, rfl, SqL.of m3, g1, PQ.now e1.wd h1 g2⟩
    | _ => exact h1.elim
  · exact q.elim
end PF
namespace PF
open PySem PySem.Spec PyProof.Rows L2
section
variable {prog : Program} {w : World} {A : Around} {E : Value → Shared → Prop} {s : Shared} {T : String} {r d : Addr} {n : Nat} {P : Nat → Value → Prop} {OK : Heap → Prop}
/-- what a source of values gives, gathered -/
theorem gather {Q : List Value → Shared → Prop} (K : PySem.W.KdlSrc prog w T r d n P OK) (hh : A.handled = none) (hok : OK s.heap) (hn : n ≤ sizeLine)
    (hQ : ∀ (h' : Heap) (tk : Nat) (acc : Array Value), (∀ b o, s.heap.get? b = some o → h'.get? b = some o) → ItemsOf P acc n → Q acc.toList { s with heap := h', toks := tk }) :
    wpAny (model prog w) A (collect (.ref r)) Q E s := by
  have lt := K.there _ hok
  have kp : ∀ b o, s.heap.get? b = some o → (s.heap.push { cls := .type "list", data := .seq ([] : List Value).toArray }).get? b = some o := fun b o e => Heap.get?_push_of_some _ e
  have hS : (s.heap.push { cls := .type "list", data := .seq ([] : List Value).toArray }).get? s.heap.objs.size = some { cls := .type "list", data := .seq #[] 0 } := Heap.get?_push_size _ rfl
  unfold collect
  refine wpAny_bind (wpAny_runValue (codeAny_builtin PySem.F.entry_proto_collect ?_))
  rw [Around.under_plainId PySem.F.plain_proto_collect _]
  show wpAny _ A.in1 (newList [] >>= fun l => again (.builtin "list.__iadd__" ⟨[l, .ref r], []⟩)) _ _ s
  refine wpAny_bind (wpAny_newObj_type ?_)
  refine wpAny_pure ⟨plainId_quiet PySem.F.plain_list_iadd _, codeAny_builtin PySem.F.entry_list_iadd ?_⟩
  rw [Around.under_plainId PySem.F.plain_list_iadd _]
  show wpAny _ A.in1 (Builtin.List.listExtendWith (.ref s.heap.objs.size) (.ref r) (.ref s.heap.objs.size)) _ _ _
  have key := PySem.W.kdl_extend (A := A) (s := { s with heap := s.heap.push { cls := .type "list", data := .seq ([] : List Value).toArray } })
    (R := fun rr s' => rr = .ok (.ret (.ref s.heap.objs.size)) ∧ ∃ (h' : Heap) (tk : Nat) (acc : Array Value) (c' : Nat), s' = { s with heap := h', toks := tk } ∧
      (∀ b o, s.heap.get? b = some o → h'.get? b = some o) ∧ h'.get? s.heap.objs.size = some { cls := .type "list", dict := none, data := .seq acc c', slots := #[] } ∧ ItemsOf P acc n)
    K hh (K.keep _ _ hok fun b _ o e => kp b o e) s.heap.objs.size (Nat.ne_of_gt lt.1) (Nat.ne_of_gt lt.2) (.ref s.heap.objs.size) 0 hS
    (fun h' tk acc c' hk e hi => ⟨rfl, h', tk, acc, c', rfl, fun b o q => hk b o (Nat.ne_of_lt (Heap.lt_size q)) (kp b o q), e, hi⟩) hn
  refine wpAny_mono key (fun fin s' h => ?_) (fun e s' h => ?_)
  · cases fin with
    | done f =>
      obtain ⟨e, h', tk, acc, c', rfl, hk, hS', hi⟩ := h
      cases e
      show wpAny _ A (load s.heap.objs.size >>= _) _ _ _
      exact wpAny_bind (wpAny_load hS' (wpAny_pure (hQ h' tk acc hk hi)))
    | again c' =>
      refine ⟨h.1, codeAny_mono h.2 fun rr s'' hr' => ?_⟩
      obtain ⟨rfl, h', tk, acc, c', rfl, hk, hS', hi⟩ := hr'
      show wpAny _ A (load s.heap.objs.size >>= _) _ _ _
      exact wpAny_bind (wpAny_load hS' (wpAny_pure (hQ h' tk acc hk hi)))
  · exact absurd h.1 (by simp)
theorem tup_code {Q₁ : Value → Shared → Prop} (K : PySem.W.KdlSrc prog w "dict" r d n P OK) (hh : A.handled = none) (hok : OK s.heap) (hn : n ≤ sizeLine)
    (h : ∀ (h' : Heap) (tk : Nat) (acc : Array Value), (∀ b o, s.heap.get? b = some o → h'.get? b = some o) → ItemsOf P acc n → Q₁ (.ref h'.objs.size) { s with heap := h'.push { cls := .type "tuple", data := .seq acc }, toks := tk }) :
    codeAny (model prog w) A (.call (.builtin "tuple.__new__") ⟨[.type "tuple", .ref r], []⟩) (wants Q₁ E) s := by
  refine codeAny_of_tree ?_
  show wpAny _ A.in1 (do checkBuiltinCall "tuple.__new__" ⟨[.type "tuple", .ref r], []⟩; again (.builtin "tuple.__new__" ⟨[.type "tuple", .ref r], []⟩)) _ _ s
  refine wpAny_bind (wpAny_of_eq (PySem.F.newCall_tuple_1 _) (wpAny_pure ⟨plainId_quiet PySem.F.plain_tuple_new _, codeAny_builtin PySem.F.entry_tuple_new ?_⟩))
  rw [Around.under_plainId PySem.F.plain_tuple_new _]
  have hsub := sub_tuple_self
  have hinit := init_tuple_lookup
  have hmh := madeHere_tuple
  have hTI : s.TypeIs (.ref r) "dict" := K.type s hok
  have hh1 : A.in1.handled = none := hh
  wp_walk using wpAny_typeOf hTI, gather (A := A.in1) K hh1 hok hn
  intro h' tk acc hk hacc
  show wpAny _ _ (Builtin.Tuple.tupleExact acc.toList.toArray >>= fun v => ret v) _ _ _
  unfold Builtin.Tuple.tupleExact
  refine wpAny_bind (wpAny_newObj_type ?_ (by show acc.toList.toArray.size ≤ sizeLine; simp only [Array.toArray_toList]; rw [hacc.1]; exact hn))
  refine wpAny_pure ?_
  have e : acc.toList.toArray = acc := by simp
  rw [e]
  exact h h' tk acc hk hacc
theorem tup_call {Q : Value → Shared → Prop} (K : PySem.W.KdlSrc prog w "dict" r d n P OK) (hh : A.handled = none) (hok : OK s.heap) (hn : n ≤ sizeLine)
    (hQ : ∀ (h' : Heap) (tk : Nat) (acc : Array Value), (∀ b o, s.heap.get? b = some o → h'.get? b = some o) → ItemsOf P acc n → Q (.ref h'.objs.size) { s with heap := h'.push { cls := .type "tuple", data := .seq acc }, toks := tk }) :
    wpAny (model prog w) A (call (.type "tuple") [.ref r]) Q E s := by
  refine callType_codes (Q₁ := fun obj s₁ => s₁.TypeIs obj "tuple" ∧ Q obj s₁) PySem.F.called_tuple (PySem.F.typeCall_tuple_1 _) PySem.F.entry_object_init
    (tup_code (A := A.in1) K hh hok hn fun h' tk acc hk hacc => ⟨⟨_, Heap.get?_push_size _ rfl, rfl⟩, hQ h' tk acc hk hacc⟩) fun obj s₁ h₁ => ?_
  exact ⟨h₁.1, PySem.F.args_object_init_2 obj _, object_init_meets PySem.F.called_tuple.init.lookup PySem.F.called_tuple.made (by decide) prog w A.in1 _ s₁ ⟨h₁.1, rfl, h₁.2⟩⟩
end
def keyN (e : DictEntry) : Option Str := match e.key with
  | .str y _ => some y
  | _ => none
/-- the name x stands for a dict of the fragment with these text keys and values, in this order -/
structure KdAt (K : PySem.W.Frag) (w : World) (mg : Str → Option Value) (x : Str) (l : List (Str × W)) (a : Addr) (es : Array DictEntry) (n : Nat) : Prop where
  gl : mg x = some (.ref a)
  kd : KDict K w a es n
  keys : es.toList.map keyN = l.map fun q => some q.1
  vals : ∀ z v, l.lookup z = some v → ∃ u0 v0, PySem.W.nsIn K a z = some (some u0) ∧ RelV v0 u0 ∧ ∀ (c : Cc) (H : Hp), Rep K c H v v0
def KdIs (K : PySem.W.Frag) (w : World) (mg : Str → Option Value) (x : Str) (l : List (Str × W)) : Prop := ∃ a es n, KdAt K w mg x l a es n
def kdW (l : List (Str × W)) : W → T W
  | .str z => match l.lookup z with
    | some v => .ok v
    | none => .bad
  | _ => .bad
theorem tr_kd {X : Cx} {E : WX} {x : Str} {l : List (Str × W)} {b : Expr} {p pos : Pos} {fb : En → T W} (h : KdIs X.K X.w X.mg x l) (hg : Gl X x) (hb : TrE Γ X E b fb) (hdb : (x == ("__debug__" : Str)) = false := by decide) (hp : PlainIx b := by exact fun _ _ => rfl) :
    TrE Γ X E (.Subscript (.Name x p) b pos) (f1 (kdW l) fb) := by
  obtain ⟨a, es, n, D⟩ := h
  have hc : PE X (.Name x p) (tC (.ref a)) := ⟨fun pins s σ H Q I h => ld_glob I hg D.gl ⟨.ref a, H, I, rfl, h⟩ hdb⟩
  refine pe_imp (pe_ix ix_kdict hc hb hp) fun σ H Q q => ?_
  obtain ⟨c, d, oa, ρ, e, q⟩ := q
  refine lift_then (P := fun c H => PQ X.K c H Q) e q (fun st p => p.later st) @fun c1 w v H1 d1 _ r1 e1 h1 => ?_
  cases r1 with
  | str z =>
    have h1 : (match l.lookup z with | some v => T.ok v | none => .bad : T W).AllW (PQ X.K c1 H1 Q) (PX X.K c1 H1 fun cls dx H' => E cls dx σ H') d1 := h1
    cases hz : l.lookup z with
    | none =>
      rw [hz] at h1
      exact h1.elim
    | some v =>
      rw [hz] at h1
      obtain ⟨u0, v0, g1, g2, g3⟩ := D.vals z v hz
      exact ⟨a, z, v0, rfl, rfl, ⟨es, n, u0, D.kd.at_, D.kd.lit, g1, g2⟩, PQ.now e1.wd h1 (g3 c1 H1)⟩
  | _ => exact h1.elim
def keysL (l : List (Str × W)) : List Str := l.map fun q => q.1
theorem KdAt.len {K : PySem.W.Frag} {w : World} {mg : Str → Option Value} {x : Str} {l : List (Str × W)} {a : Addr} {es : Array DictEntry} {n : Nat} (D : KdAt K w mg x l a es n) : es.size = l.length := by
  have := congrArg List.length D.keys
  simpa using this
theorem KdAt.key {K : PySem.W.Frag} {w : World} {mg : Str → Option Value} {x : Str} {l : List (Str × W)} {a : Addr} {es : Array DictEntry} {n : Nat} (D : KdAt K w mg x l a es n) {i : Nat} {e : DictEntry} {y : Str} (h1 : es[i]? = some e) (h2 : (keysL l)[i]? = some y) : ∃ t, e.key = .str y t := by
  have h3 : (es.toList.map keyN)[i]? = (l.map fun q => some q.1)[i]? := by rw [D.keys]
  rw [List.getElem?_map, List.getElem?_map, Array.getElem?_toList, h1] at h3
  unfold keysL at h2
  rw [List.getElem?_map] at h2
  cases q : l[i]? with
  | none =>
    rw [q] at h2
    cases h2
  | some z =>
    rw [q] at h2 h3
    cases h2
    have h4 : keyN e = some z.1 := Option.some.inj h3
    unfold keyN at h4
    cases hk : e.key with
    | str y t =>
      rw [hk] at h4
      cases h4
      exact ⟨t, rfl⟩
    | _ =>
      rw [hk] at h4
      cases h4
theorem call_tup_kd {X : Cx} {x : Str} {l : List (Str × W)} {a : Addr} {es : Array DictEntry} {n : Nat} (hc : X.calm = true) (D : KdAt X.K X.w X.mg x l a es n) (hz : l.length ≤ 16777216) :
    CallR X (.type "tuple") (fun xs H Q => xs = [.ref a] ∧ ∀ q, H q = none → Q (.ref q) (L2.upd H q (.tup ((keysL l).map V.str)))) := by
  intro pins s σ H xs us Q I r h
  obtain ⟨rfl, q⟩ := h
  obtain ⟨u, rfl, ru⟩ := vals1 r
  obtain rfl : u = Value.ref a := ru
  have hg := I.kIn _ _ D.kd.at_
  have hn : es.size ≤ sizeLine := by rw [D.len, sizeLine_eq]; exact hz
  refine tup_call (kdl_raw (prog := X.prog) (w := X.w) (o := ⟨.type "dict", none, .dict es n, #[]⟩) D.kd.low ⟨rfl, rfl, rfl⟩ rfl) (I.ok.hd hc) hg hn fun h' tk acc hk hi => ?_
  have I2 : Inv X pins σ H { s with heap := h', toks := tk } := I.kept hk
  have hl : ((keysL l).map V.str).length = acc.toList.length := by
    have e1 : acc.toList.length = es.size := by rw [Array.length_toList, hi.1]
    rw [e1, D.len]
    unfold keysL
    rw [List.length_map, List.length_map]
  have hv : Vals ((keysL l).map V.str) acc.toList := vals_of_at hl fun j y u h1 h2 => by
    obtain ⟨en, g1, g2⟩ := hi.2 j u (by rw [← Array.getElem?_toList]; exact h2)
    rw [List.getElem?_map] at h1
    cases hk : (keysL l)[j]? with
    | none =>
      rw [hk] at h1
      cases h1
    | some z =>
      rw [hk] at h1
      cases h1
      obtain ⟨t, e⟩ := D.key g1 hk
      exact ⟨t, by rw [g2, e]⟩
  refine ⟨.ref h'.objs.size, L2.upd H h'.objs.size (.tup ((keysL l).map V.str)), I2.laid (t' := tk) (fun c o e => Heap.get?_push_of_some _ e) (Nat.le_refl _) (show ObjOk X.prog X.w _ _ _ (.tup ((keysL l).map V.str)) from ⟨?_, acc.toList, hv, ?_⟩), rfl, q _ (I2.hok.fresh (Nat.le_refl _))⟩
  · rw [hl, Array.length_toList, hi.1]
    exact hn
  · rw [Array.toArray_toList]
    exact IsTup.new _ _
theorem tr_tupKd {X : Cx} {E : WX} {x : Str} {l : List (Str × W)} {p1 p2 pos : Pos} (hc : X.calm = true) (h : KdIs X.K X.w X.mg x l) (hg : Gl X x) (hz : decide (l.length ≤ 16777216) = true) (ht : Gl X "tuple") (hm : X.mg "tuple" = none) (hdb : (x == ("__debug__" : Str)) = false := by decide)
    (he : starEach [.Name x p2] X.env = (false, eval (.Name x p2) X.env) :: starEach [] X.env := by rfl) (hpl : (backTo pos (starEach [] X.env)).any (·.1) = false := by rfl) :
    TrE Γ X E (.Call (.Name "tuple" p1) [.Name x p2] [] pos) (fun _ => .ok (.tup ((keysL l).map W.str))) := by
  obtain ⟨a, es, n, D⟩ := h
  have hn : PE X (.Name x p2) (tC (.ref a)) := ⟨fun pins s σ H Q I h => ld_glob I hg D.gl ⟨.ref a, H, I, rfl, h⟩ hdb⟩
  refine pe_imp (pe_callTy (T := "tuple") (call_tup_kd hc D (of_decide_eq_true hz)) ht hm (by decide +kernel) (pa_cons (hs := he) hn pa_nil) (by decide) (by decide) he hpl) fun σ H Q q => ?_
  obtain ⟨c, d, oa, ρ, e, q⟩ := q
  exact ⟨rfl, fun p hp => PQ.tup e.wd q (rep_strs _) hp⟩
end PF
namespace PF
open PySem PySem.Spec PyProof.Rows L2 He
def fJoinO (i : Nat) (fo : En → T W) : En → T W := fun ρ => (fo ρ).bind fun w => (strOnly w).bind fun _ => match ρ[i]? with
  | some (.own us) => joinW w [.lst us]
  | _ => .bad
abbrev rJoin (K : PySem.W.Frag) : V → List V → Hp → VK → Prop := fun x xs H Q => ∃ a p, ∃ ys : List Str, x = .str a ∧ xs = [.ref p] ∧ (SqL K H p (ys.map V.str) ∨ SqT K H p (ys.map V.str)) ∧
    (ys.map (·.length)).sum + ys.length * a.length ≤ 16777216 ∧ Q (.str (Txt.join a ys)) H
theorem tr_joinO {X : Cx} {E : WX} {e : Expr} {fo : En → T W} {i : Nat} (hp : PE X e (tBM X.K "str" (rJoin X.K) (liftE X.K Γ E fo) (tCons (tVar i) tNil))) : TrE Γ X E e (fJoinO i fo) := pe_imp hp fun σ H Q q => by
  obtain ⟨c, d, oa, ρ, e, q⟩ := q
  refine lift_then (P := fun c H => PQ X.K c H Q) e q (fun st p => p.later st) @fun c1 w v H1 d1 st1 r1 e1 h1 => ?_
  cases r1 with
  | str a =>
    have h1 : (match ρ[i]? with | some (.own us) => joinW (.str a) [.lst us] | _ => .bad : T W).AllW (PQ X.K c1 H1 Q) (PX X.K c1 H1 fun cls dx H' => E cls dx σ H') d1 := h1
    split at h1
    · rename_i us hw
      obtain ⟨m1, m2, vs, m3, m4⟩ := e1.own i us hw
      refine ⟨rfl, _, m2, ?_⟩
      have q : (match strsOf us with
          | some ys => if joinB a ys then T.ok (W.str (Txt.join a ys)) else .bad
          | none => .bad).AllW (PQ X.K c1 H1 Q) (PX X.K c1 H1 fun cls dx H' => E cls dx σ H') d1 := h1
      cases ez : strsOf us with
      | none =>
        rw [ez] at q
        exact q.elim
      | some ys =>
        rw [ez] at q
        obtain ⟨hz, q⟩ := T.AllW.ite q
        have eq := strsOf_rep ez m4
        subst eq
        exact ⟨a, _, ys, rfl, rfl, .inl (SqL.of m3), of_decide_eq_true hz, PQ.now e1.wd q (.str _)⟩
    · exact h1.elim
  | _ => exact h1.elim
abbrev AlK : Type := AlL × List (Option (List (Option (Str × Int))))
def obsK (as : List Addr) (fa : List Fa) (fn : List DefD) (ts : List Tab) (ex : PySem.W.Frag → Bool) (g : Addr → Option Obj) : AlK := (obsE as fa fn ex g, ts.map fun t => dicW (frT g as) (t.1 (frT g as)))
def valTs (ts : List Tab) (w : World) : List (Option (List (Option (Str × Int)))) := ts.map fun t => some (keysIn w.params t.2)
def SaysTs (ts : List Tab) (w : World) (K : PySem.W.Frag) : Prop := (ts.map fun t => dicW K (t.1 K)) = valTs ts w
def hookK (as : List Addr) (fa : List Fa) (fn : List DefD) (ts : List Tab) (ex : PySem.W.Frag → Bool) : PySem.W.Hook where
  α := AlK
  obs := fun s => obsK as fa fn ts ex s.heap.get?
  val := fun w => ((valD fn, true), valTs ts w)
  says := fun w h => ∃ K : PySem.W.Frag, K.In h ∧ SaysL fa fn ex h K ∧ SaysTs ts w K
  of := fun _ _ e => ⟨_, frT_in, saysE_of (congrArg (fun z : AlK => z.1) e), congrArg (fun z : AlK => z.2) e⟩
  keeps := fun _ _ _ ⟨K, hK, c, t⟩ k => ⟨K, PySem.W.Frag.In.keeps hK k, ⟨c.d, c.more, c.hd, c.out, fun x hx => k _ _ (c.empty x hx), c.apart⟩, t⟩
theorem obsK_eq {as : List Addr} {fa : List Fa} {fn : List DefD} {ts : List Tab} {ex : PySem.W.Frag → Bool} {g : Addr → Option Obj} {s : Shared} (h : ∀ a, g a = s.heap.get? a) : obsK as fa fn ts ex g = (hookK as fa fn ts ex).obs s := by
  have e : g = s.heap.get? := funext h
  rw [e]
  rfl
theorem SaysTs.tab {ts : List Tab} {w : World} {K : PySem.W.Frag} (c : SaysTs ts w K) (i : Nat) {t : Tab} (h : ts[i]? = some t := by rfl) : dicW K (t.1 K) = some (keysIn w.params t.2) := by
  unfold SaysTs valTs at c
  have e2 : (ts.map fun t => dicW K (t.1 K))[i]? = (ts.map fun t => some (keysIn w.params t.2))[i]? := by rw [c]
  rw [List.getElem?_map, List.getElem?_map, h] at e2
  exact Option.some.inj e2
theorem dicW_es {K : PySem.W.Frag} {a : Addr} {ks : List (Option (Str × Int))} {es : Array DictEntry} {n : Nat} (h : dicW K a = some ks) (hl : K.lookup a = some ⟨.type "dict", none, .dict es n, #[]⟩) : es.toList.map keyOf = ks := by
  unfold dicW at h
  rw [hl] at h
  simp only at h
  split at h
  · exact Option.some.inj h
  · cases h
/-- a dict of the module, told by the head -/
theorem kd_of {K : PySem.W.Frag} {w : World} {mg : Str → Option Value} {x : Str} {l : List (Str × W)} {a : Addr} {kvs : List (Str × Dv)} (gl : mg x = some (.ref a)) (h : dicW K a = some (keysIn w.params (keysL l))) (hv : valsB K a kvs = true)
    (hl : ∀ z v, l.lookup z = some v → ∃ dv : Dv, (z, dv) ∈ kvs ∧ ∀ (c : Cc) (H : Hp), Rep K c H v (dv.v K)) : KdIs K w mg x l := by
  obtain ⟨es, n, D⟩ := dicW_ok h
  refine ⟨a, es, n, gl, D, ?_, fun z v e => ?_⟩
  · have q := dicW_es h D.at_
    have q2 : (es.toList.map keyOf).map (fun o => o.map fun p => p.1) = (keysIn w.params (keysL l)).map (fun o => o.map fun p => p.1) := by rw [q]
    rw [List.map_map] at q2
    unfold keysIn keysL at q2
    rw [List.map_map, List.map_map] at q2
    have e1 : keyN = (fun o : Option (Str × Int) => o.map fun p => p.1) ∘ keyOf := by
      funext e
      unfold keyOf keyN
      simp only [Function.comp]
      cases e.key <;> rfl
    rw [e1, q2]
    rfl
  · obtain ⟨dv, hm, r⟩ := hl z v e
    obtain ⟨u, h1, h2⟩ := valsB_ok hv hm
    exact ⟨u, _, h1, h2, r⟩
def kdI (ns : List (Str × Int)) : List (Str × W) := ns.map fun q => (q.1, W.int q.2)
theorem kd_ofI {K : PySem.W.Frag} {w : World} {mg : Str → Option Value} {x : Str} {ns : List (Str × Int)} {a : Addr} (gl : mg x = some (.ref a)) (h : dicW K a = some (keysIn w.params (keysL (kdI ns)))) (hv : valsB K a (ns.map fun q => (q.1, Dv.int q.2)) = true) : KdIs K w mg x (kdI ns) :=
  kd_of gl h hv fun z v e => by
    have m := PySem.mem_of_lookup e
    unfold kdI at m
    obtain ⟨q, hq, eq⟩ := List.mem_map.mp m
    cases eq
    exact ⟨Dv.int q.2, List.mem_map.mpr ⟨q, hq, rfl⟩, fun c H => .int _⟩
end PF
namespace PF
open PySem PySem.Spec PyProof.Rows L2
section
open Builtin Builtin.ObjectAttr PySem.W PySem.Calls
variable {prog : Program} {w : World} {A : Around} {E : Value → Shared → Prop} {R : Result → Shared → Prop} {hp : Heap} {g : Array GenState} {d : Drawn} {t : Nat} {os : OsState}
/-- a further field of an error is set -/
theorem x_osa2 {K : PySem.W.Frag} {B nw : String} {tl : List Value} {fld : Str} {tk : Tok} {v : Value} {x C dx : Addr} {fv : Array Value} {m0 : Str → Option Value} {nl : List Str} (SF : StoreFacts B tl "object.__setattr__" "object")
    (KX : K.In hp) (hx : hp.get? x = some { cls := .ref C, dict := some dx, data := .fields fv }) (hns : hp.Ns1 dx m0) (hw : Within m0 nl) (hz : nl.length ≤ 1000) (T : XCl K C nw tl) (ha : PySem.W.findIn K (.ref C) fld = some none)
    (hq : ∀ h' tk', (∀ b o, b ≠ dx → hp.get? b = some o → h'.get? b = some o) → h'.Ns1 dx (fun y => if y = fld then some v else m0 y) → R (.ok (.ret .none)) ⟨h', g, d, tk', os⟩) :
    codeAny (model prog w) A (.call (.builtin "object.__setattr__") ⟨[.ref x, .str fld tk, v], []⟩) R ⟨hp, g, d, t, os⟩ := by
  obtain ⟨oD, esD, epD, hoD, hdD, _⟩ := hns.count hw
  have hI : PySem.W.InstAt hp x { cls := .ref C, dict := some dx, data := .fields fv } C (some oD) := ⟨hx, rfl, rfl, hoD⟩
  have htk : PySem.W.takerIn K C fld = some none := by
    unfold PySem.W.takerIn
    rw [ha]
    rfl
  obtain ⟨cd, hcd, hdc⟩ := PySem.W.any_some T.dct
  have hLc : PySem.W.Looks (model prog w) hp (classData C) cd := PySem.W.looks_clsIn KX hcd
  refine osa_openX (r := none) SF KX hI T.ovr htk fun b => ?_
  show wpAny _ _ (storeInOwnDict (.ref x) (.ref C) (.str fld tk) fld v b) _ _ _
  obtain ⟨nm, bs, mro, ns, qn, hd, sn, sb, ab, col, del⟩ := cd
  have hdc : hd = true := hdc
  subst hdc
  unfold storeInOwnDict ownDictForStores
  repeat (first | with_reducible refine PySem.OEX.store_in_old hns hw hz ?_ | with_reducible refine wpAny_loadPart_at hx ?_ | with_reducible refine hLc.at ?_ | wp_step)
  intro h' tk' hn' hs
  exact hq h' tk' (fun b o hb ho => (hs.2 b hb).trans ho) hn'
end
section
variable {X : Cx} {pins : List (Addr × Obj)} {σ : L2.St} {H : Hp} {s : Shared} {a C dx : Addr} {fld : Str} {fs : List (Str × V)} {y : V} {u : Value} {E : Value → Shared → Prop} {A : Around} {B nw ini : String} {tl : List Value}
theorem x_ost2 {Q : Unit → Shared → Prop} (SF : StoreFacts B tl "object.__setattr__" "object") (T : XCl X.K C nw tl) (I : Inv X pins σ H s) (e : H a = some (exo a C (some dx))) (ed : H dx = some (exd dx fs)) (hl : fs.length ≤ 900) (hno : PySem.W.findIn X.K (.ref C) fld = some none) (ry : RelV y u)
    (h : ∀ s', Inv X pins σ (upd H dx (exd dx ((fld, y) :: fs))) s' → Q () s') : wpAny (model X.prog X.w) A (setAttr (.ref a) fld u) Q E s := by
  obtain ⟨t1, ho⟩ := exo_at I.hok e
  obtain ⟨mA, hns, rel⟩ := exd_at I.hok ed
  have hw := within_of rel
  obtain ⟨hp, g, d, t, os⟩ := s
  obtain ⟨oD, _, _, hoD, _, _⟩ := hns.count hw
  refine PySem.W.set_plain I.kIn (ox := { cls := .ref C, dict := some dx, data := .fields #[.ref t1, .none, .none, .none, .bool false, .none] }) (od := some oD) ⟨ho, rfl, rfl, hoD⟩ T.sat ?_
  refine x_osa2 SF I.kIn ho hns hw (by rw [List.length_map]; omega) T hno (fun h' tk' k hn => ?_)
  have hd : ∃ o, h'.get? dx = some o := by
    obtain ⟨o, _, _, e', _⟩ := hn
    exact ⟨o, e'⟩
  exact h _ (I.write (t' := tk') (x := dx) (e := dx) (o := exd dx ((fld, y) :: fs)) (by rw [ed]; exact True.intro) (.inl rfl) k hd (exd_ok hn (relO_put ry rel)))
end
/-- reading: self.f = e, a further one -/
def tXo2 (K : PySem.W.Frag) (nw : String) (tl : List Value) (f : Str) (to te : TE) : TS := fun D σ H => te σ H fun y H1 => to σ H1 fun x H2 => ∃ (a C dx : Addr) (fs : List (Str × V)), x = .ref a ∧ XCl K C nw tl ∧ PySem.W.findIn K (.ref C) f = some none ∧
  H2 a = some (exo a C (some dx)) ∧ H2 dx = some (exd dx fs) ∧ fs.length ≤ 900 ∧ D.nx σ (upd H2 dx (exd dx ((f, y) :: fs)))
section
variable {X : Cx} {o e : Expr} {to te : TE} {f : Str} {p' pos : Pos} {B nw : String} {tl : List Value}
theorem ps_xo2 (SF : StoreFacts B tl "object.__setattr__" "object") (ho : PE X o to) (he : PE X e te) (hs : swapsWith e (some (.Attribute o f p')) pos.line X.env = pure false := by rfl) : PS X (.Assign [.Attribute o f p'] e pos) (tXo2 X.K nw tl f to te) := by
  constructor
  intro pins s σ H D I h
  refine plainObj_wpAny_Assign_Attribute (thn (he.run pins s σ H _ I h) fun v s1 z => ?_) hs
  obtain ⟨y, H1, I1, r1, q1⟩ := z
  refine thn (ho.run pins s1 σ H1 _ I1 q1) fun u s2 z => ?_
  obtain ⟨x, H2, I2, r2, a, C, dx, fs, ex, T, hno, ea, ed, hl, q⟩ := z
  subst ex
  obtain rfl : u = Value.ref a := r2
  exact x_ost2 SF T I2 ea ed hl hno r1 fun s' J => ⟨σ, _, J, q⟩
end
/-- what __init__(self, x, y): Base.__init__(self, ".."); self.f = x; self.g = y does -/
def spI2 (K : PySem.W.Frag) (nw : String) (tl : List Value) (f g : Str) : Sp := fun vs H Q _ => ∃ (a C : Addr) (v u : V), vs = [.ref a, v, u] ∧ H a = some (exo a C none) ∧ XCl K C nw tl ∧ PySem.W.findIn K (.ref C) f = some none ∧ PySem.W.findIn K (.ref C) g = some none ∧
  ∀ dx, H dx = none → dx ≠ a → Q .non (upd (upd (upd H dx (exd dx [(f, v)])) a (exo a C (some dx))) dx (exd dx [(g, u), (f, v)]))
section
variable {P : Program} {w : World} {K : PySem.W.Frag} {mg : Str → Option Value} {base : Heap}
theorem ini_ok2 {fI : Addr} {fd : FuncData} {qual bn par par2 f g txt : Str} {params : Arguments} {sc : Scope} {j : Nat} {p1 p2 p3 p4 p5 p6 p7 p8 p9 p10 q7 q8 q9 q10 : Pos} {B nw ini : String} {tl : List Value}
    (F : FunD K "__init__" qual params [.Expr (.Call (.Attribute (.Name bn p1) "__init__" p2) [.Name "self" p3, .Constant (.str txt) j p4] [] p5) p6, .Assign [.Attribute (.Name "self" p7) f p8] (.Name par p9) p10, .Assign [.Attribute (.Name "self" q7) g q8] (.Name par2 q9) q10] sc [] [] fI fd)
    (S : FnScope ["self", par, par2] ["self", par, par2] sc) (FB : ExcBaseFacts B nw ini tl) (SF : StoreFacts B tl "object.__setattr__" "object")
    (hs : Vis sc "self") (hp : Vis sc par) (hp2 : Vis sc par2) (hpd : (par == ("__debug__" : Str)) = false) (hpc : (par == ("__classdict__" : Str)) = false) (hpd2 : (par2 == ("__debug__" : Str)) = false) (hpc2 : (par2 == ("__classdict__" : Str)) = false)
    (hB : ∀ (cdv : Value) (A : Around) (outer : List PySem.Env) (s : Shared) (H : Hp) (E : XK), BaseIni (cxOf (L2.CX P w) P w K mg base ["self", par, par2] qual sc fI cdv A outer s H E) bn ini)
    (hc : ∀ env : PySem.Env, ∃ pl : Sem Bool, eval (.Call (.Attribute (.Name bn p1) "__init__" p2) [.Name "self" p3, .Constant (.str txt) j p4] [] p5) env = (do
      let ov ← eval (.Name bn p1) env
      standAt p2.atName
      let (f, first) ← holding [ov] (getMethod ov "__init__" pl)
      callWith p5 f first (backTo p5 (starEach [.Name "self" p3, .Constant (.str txt) j p4] env)) (backToKw p5 (keywordEach [] env)))) (hw : ∀ env : PySem.Env, swapsWith (.Call (.Attribute (.Name bn p1) "__init__" p2) [.Name "self" p3, .Constant (.str txt) j p4] [] p5) none p6.line env = pure false)
    (hv : ∀ env : PySem.Env, swapsWith (.Name par p9) (some (.Attribute (.Name "self" p7) f p8)) p10.line env = pure false) (hv2 : ∀ env : PySem.Env, swapsWith (.Name par2 q9) (some (.Attribute (.Name "self" q7) g q8)) q10.line env = pure false) :
    FnOk P w K mg base (L2.CX P w) 1 fI fd ["self", par, par2] (spI2 K nw tl f g) := by
  refine F.ok (k := 0) S (fun vs H Q E h => ?_) (fun cdv A outer s H vs Q E hr h => ?_)
  · obtain ⟨a, C, v, u, rfl, _⟩ := h
    rfl
  · obtain ⟨pl, hc⟩ := hc (cxOf (L2.CX P w) P w K mg base ["self", par, par2] qual sc fI cdv A outer s H E).env
    refine ⟨_, pss_cons (ps_expr (pe_bi (pl := pl) FB (hB cdv A outer s H E) (pa_cons (pe_var (i := 0) rfl hs) (pa_cons pe_str pa_nil)) hc) (hw _)) (pss_cons (ps_xo (nw := nw) SF (pe_var (i := 0) rfl hs) (pe_var (i := 1) rfl hp hpd hpc) (hv _)) (pss_one (ps_xo2 (nw := nw) SF (pe_var (i := 0) rfl hs) (pe_var (i := 2) rfl hp2 hpd2 hpc2) (hv2 _)))), ?_⟩
    obtain ⟨a, C, v, u, rfl, ea, T, hno, hno2, q⟩ := h
    refine ⟨.ref a, rfl, a, C, [.str txt], rfl, (by show 1 ≤ 1000; decide), T, ea, v, rfl, .ref a, rfl, a, C, rfl, T, hno, ea, fun dx n ne => ?_⟩
    exact ⟨u, rfl, .ref a, rfl, a, C, dx, [(f, v)], rfl, T, hno2, upd_same, by rw [upd_ne ne, upd_same], (by show 1 ≤ 900; decide), q dx n ne⟩
end
/-- the error with the number n is made by its class's name, of two fields -/
structure XIs2 (P : Program) (w : World) (K : PySem.W.Frag) (mg : Str → Option Value) (base : Heap) (n : Nat) (nw : String) (tl : List Value) : Prop where
  gl : mg (xName n) = some (.ref (He.ga K (xName n)))
  cl : XCl K (He.ga K (xName n)) nw tl
  ex : ∃ (B ini : String) (fI : Addr) (fd : FuncData) (ps : List Str) (f g : Str), xFlds n = [f, g] ∧ PySem.W.findIn K (.ref (He.ga K (xName n))) f = some none ∧ PySem.W.findIn K (.ref (He.ga K (xName n))) g = some none ∧ ExcBaseFacts B nw ini tl ∧ PySem.W.findIn K (.ref (He.ga K (xName n))) "__init__" = some (some (.ref fI)) ∧ PySem.W.typeIn K (.ref fI) = some (.type "function") ∧
    FnOk P w K mg base (L2.CX P w) 1 fI fd ps (spI2 K nw tl f g) ∧ Binds K fd ps []
def sRaise2 (n : Nat) (fs : En → T (List W)) : En → T (Fl × En) := fun ρ => (fs ρ).bind fun ws => match ws with
  | [w, u] => .exc n [w, u]
  | _ => .bad
theorem upd_back2 {H : Hp} {a d : Addr} {o o1 o2 o3 : HO} {z : HO} (na : H a = none) (nd : d ≠ a) : upd (del (upd (upd (upd (upd H a o) d o1) a o2) d o3) a) d z = upd H d z := by
  funext b
  rcases Decidable.em (b = d) with q | q
  · rw [q, upd_same, upd_same]
  · rw [upd_ne q, upd_ne q]
    rcases Decidable.em (b = a) with q2 | q2
    · rw [q2, del_same, na]
    · rw [del_ne q2, upd_ne q, upd_ne q2, upd_ne q, upd_ne q2]
theorem tr_raise2 {X : Cx} {E : XK} {n : Nat} {nw : String} {tl : List Value} {e : Expr} {es : List Expr} {fs : En → T (List W)} {p pos pos' : Pos} (h : XIs2 X.prog X.w X.K X.mg X.base n nw tl) (hc : X.calm = true) (tk : Takes X (wOf E)) (hr : Room 2 X.A) (hg : Gl X (xName n)) (ha : TrA Γ X (wOf E) (e :: es) fs)
    (hdb : (xName n == ("__debug__" : Str)) = false := by decide) (he : starEach (e :: es) X.env = (false, eval e X.env) :: starEach es X.env := by rfl) (hpl : (backTo pos (starEach es X.env)).any (·.1) = false := by rfl) :
    TrS Γ X E (.Raise (some (.Call (.Name (xName n) p) (e :: es) [] pos)) none pos') (sRaise2 n fs) := by
  obtain ⟨B, ini, fI, fd, ps, f, g, hf, no1, no2, FB, iC, tI, F1, hb⟩ := h.ex
  have hx : Passes (L2.CX X.prog X.w) X (fun _ _ _ => False) := fun pins σ H s e s' I hh => by
    obtain ⟨_, _, _, _, _, _, _, _, _, _, _, _, z⟩ := hh
    exact z.elim
  refine ps_imp (ps_raise hc tk (pmk_x FB h.cl iC tI F1 hr hb hx hg h.gl ha hdb he hpl)) fun D σ H q => ?_
  obtain ⟨_, d, oa, ρ, e0, q⟩ := q
  refine liftA_thenS (P := fun c H => PSq X.K Γ c H D) e0 q (fun st p => p.later (.of st e0.wd)) fun ws vs H1 d1 _ r1 e1 h1 => ?_
  cases r1 with
  | nil => exact h1.elim
  | cons r rr =>
    rename_i w0 v0 ws0 vs0
    cases rr with
    | nil => exact h1.elim
    | cons r' rr' =>
      rename_i w1 v1 ws1 vs1
      cases rr' with
      | cons _ _ => exact h1.elim
      | nil =>
        refine ⟨(by show 2 ≤ 1000; decide), fun a na => ?_⟩
        refine ⟨a, He.ga X.K (xName n), v0, v1, rfl, upd_same, h.cl, no1, no2, fun dx nd ne => ⟨rfl, dx, _, by rw [upd_ne (Ne.symm ne), upd_same], upd_same, ?_, ?_⟩⟩
        · rw [upd_ne ne] at nd
          exact nd
        · rw [upd_ne ne] at nd
          rw [upd_back2 na ne]
          refine h1 _ _ _ _ (.of (.new nd) e1.wd) (e1.st.new nd) ⟨rfl, dx, [v0, v1], rfl, ?_, by rw [hf]; rfl, .cons (r.step (.new nd) e1.st e1.ok) (.cons (r'.step (.new nd) e1.st e1.ok) .nil)⟩
          rw [upd_same, hf]
          rfl
/-- the head's word of a class with two fields -/
def xB2 (K : PySem.W.Frag) (x f g : Str) (nw : String) (tl : List Value) : Bool := xB K x f nw tl && decide (PySem.W.findIn K (.ref (He.ga K x)) g = some none)
structure XB2 (K : PySem.W.Frag) (x f g : Str) (nw : String) (tl : List Value) : Prop where
  one : XB K x f nw tl
  no2 : PySem.W.findIn K (.ref (He.ga K x)) g = some none
theorem xB2_ok {K : PySem.W.Frag} {x f g : Str} {nw : String} {tl : List Value} (h : xB2 K x f g nw tl = true) : XB2 K x f g nw tl := by
  unfold xB2 at h
  simp only [Bool.and_eq_true, decide_eq_true_eq] at h
  exact ⟨xB_ok h.1, h.2⟩
theorem XB2.is {P : Program} {w : World} {K : PySem.W.Frag} {mg : Str → Option Value} {base : Heap} {n : Nat} {nw B ini : String} {tl : List Value} {fd : FuncData} {ps : List Str} {f g : Str} (h : XB2 K (xName n) f g nw tl) (hf : xFlds n = [f, g]) (gl : mg (xName n) = some (.ref (He.ga K (xName n)))) (FB : ExcBaseFacts B nw ini tl)
    (F : FnOk P w K mg base (L2.CX P w) 1 (He.ma K (He.ga K (xName n)) "__init__") fd ps (spI2 K nw tl f g)) (hb : Binds K fd ps []) : XIs2 P w K mg base n nw tl :=
  ⟨gl, h.one.cl, B, ini, _, fd, ps, f, g, hf, h.one.no, h.no2, FB, h.one.ic, h.one.ti, F, hb⟩
open HandSHeadRun PySem.W He in
theorem run_partsK {r : OpenRow} {q : Program} {M : Nat} {loose : List PySem.Str} {w : World} {as : List Addr} {fa : List Fa} {f1 f2 : List DefD} {ts : List Tab} {ex : PySem.W.Frag → Bool}
    (hZ : RunV r M w (fun s => (looksF r.prog (boot_heap w.params) s.abs, seenQ q loose (importedModules r.prog.main.body) (fun s => xlAt q [] s && recOk r.toRowW.records s) s.abs)) (true, openGood q loose)) (hA : RunV r M w (fun s => obsD fa f1 (frT (getT s) as)) (valD f1))
    (hB : RunV r M w (fun s => obsD [] f2 (frT (getT s) as)) (valD f2)) (hC : RunV r M w (fun s => ex (frT (getT s) as)) true) (hD : RunV r M w (fun s => tabOkB (getT s) (frT (getT s) as)) true) (hE : RunV r M w (fun s => ts.map fun t => dicW (frT (getT s) as) (t.1 (frT (getT s) as))) (valTs ts w)) :
    RunEq r q (hookK as fa (f1 ++ f2) ts ex) (fun s => obsK as fa (f1 ++ f2) ts ex (getT s)) M loose w := by
  intro os
  have z := run_parts hZ hA hB hC hD os
  have e := hE os
  cases y : endF (stepQ (denQ tabQ) r.prog w) M r.prog w os with
  | none =>
    rw [y] at e
    cases e
  | some s =>
    rw [y] at e z
    have e : (ts.map fun t => dicW (frT (getT s) as) (t.1 (frT (getT s) as))) = valTs ts w := Option.some.inj e
    have z := Option.some.inj z
    injection z with a1 z
    injection z with a2 a3
    have z : obsK as fa (f1 ++ f2) ts ex (getT s) = ((valD (f1 ++ f2), true), valTs ts w) := by
      unfold obsK
      rw [e]
      exact Prod.ext a3 rfl
    show some (_, _, obsK as fa (f1 ++ f2) ts ex (getT s)) = _
    rw [a1, a2, z]
    rfl
/-- a question of the world that is answered either way -/
theorem follow_both {P : World → Prop} (row : String) (h : ∀ (b : Bool) (w : World), P (w.withFollow row b)) : ∀ w : World, P w := fun w => by
  have := h (w.params.followText row) w
  rwa [World.withFollow_self] at this
theorem follow_two {P : World → Prop} (row : String) (h0 : ∀ w : World, P (w.withFollow row false)) (h1 : ∀ w : World, P (w.withFollow row true)) : ∀ w : World, P w := follow_both row fun b w => match b with
  | false => h0 w
  | true => h1 w
end PF
namespace PF
open PySem PySem.Spec PyProof.Rows L2
abbrev Os := List (Nat × List W)
def T.chkW {α : Type} (p : α → Bool) : T α → Nat → Os → Bool
  | .ok a, _, _ => p a
  | .exc _ _, _, _ => false
  | .bad, _, _ => false
  | .ask _ _, 0, _ => false
  | .ask n k, e + 1, os => (List.range n).all fun i => T.chkW p (k i) e os
  | .get i k, e, os => match os[i]? with
    | some q => T.chkW p (k q.1 q.2) e os
    | none => false
  | .put i fs k, e, os => match os[i]? with
    | some q => T.chkW p k e (os.set i (q.1, fs))
    | none => false
  | .new c fs k, e, os => T.chkW p (k os.length) e (os ++ [(c, fs)])
theorem T.chkW_all {α : Type} {p : α → Bool} : ∀ {t : T α} {d e : Nat} {os : Os}, t.chkW p d os = true → d ≤ e → t.AllW (fun _ a => p a = true) (fun _ _ _ => False) ⟨e, os⟩
  | .ok a, d, e, os, h, _ => h
  | .exc _ _, d, e, os, h, _ => by cases h
  | .bad, d, e, os, h, _ => by cases h
  | .ask n k, 0, e, os, h, _ => by cases h
  | .ask n k, d + 1, e, os, h, l => by
    have h : ((List.range n).all fun i => T.chkW p (k i) d os) = true := h
    refine ⟨e - 1, (by show e = _; omega), fun i hi => T.chkW_all (d := d) ?_ (by omega)⟩
    exact List.all_eq_true.mp h i (List.mem_range.mpr hi)
  | .get i k, d, e, os, h, l => by
    unfold T.chkW at h
    split at h
    · rename_i q hq
      exact ⟨q.1, q.2, hq, T.chkW_all h l⟩
    · cases h
  | .put i fs k, d, e, os, h, l => by
    unfold T.chkW at h
    split at h
    · rename_i q hq
      exact ⟨q.1, q.2, hq, T.chkW_all h l⟩
    · cases h
  | .new c fs k, d, e, os, h, l => by
    unfold T.chkW at h
    exact T.chkW_all (t := k os.length) h l
/-- the written end of a law with objects -/
theorem law_tailW {t : T (Fl × En)} {d k : Nat} {os : Os} (h : t.chkW yes k os = true) (hk : k ≤ d) : t.AllW (fun _ x => ∃ ρ, x = (.rt (.bl true), ρ)) (fun _ _ _ => False) ⟨d, os⟩ :=
  T.AllW.imp (fun _ x hx => yes_is hx) (fun _ _ _ z => z) (T.chkW_all h hk)
end PF
namespace PF
open PySem PySem.Spec PyProof.Rows L2
theorem note_same {x : Value} {a b : PySem.Env} (h : a.frame = b.frame) : noteFrame x a = noteFrame x b := by
  unfold noteFrame PySem.frameOf
  rw [h]
theorem funs_but {B h h' : Heap} : ∀ {l : List PySem.Env}, (∀ L ∈ frs l, ∀ o, h.get? L = some o → h'.get? L = some o) → h.FunFrames B l → h'.FunFrames B l
  | [], _, _ => trivial
  | env :: l, k, ⟨h1, ⟨L, o, h2, h3, h4, h5⟩, h6⟩ => ⟨h1, ⟨L, o, h2, h3, k L (List.mem_filterMap.mpr ⟨env, List.mem_cons_self, h2⟩) o h4, h5⟩, funs_but (fun b hb => by
      obtain ⟨e, he, q⟩ := List.mem_filterMap.mp hb
      exact k b (List.mem_filterMap.mpr ⟨e, List.mem_cons_of_mem _ he, q⟩)) h6⟩
section
open HandSPX
variable {M : Model} {A : Around} {E : Value → Shared → Prop} {s : Shared} {Z : Obj → Prop} {B : Heap} {env : PySem.Env} {outer : List PySem.Env} {L C e : Addr}
/-- an error noted elsewhere is noted by this frame -/
theorem looks_other {Q : Unit → Shared → Prop} (hZ : Steady Z) (hfr : A.frames = some (env :: outer)) (hf : env.frame = some L) (ne : C ≠ L) (x : HeldZ B (env :: outer) e Z C s.heap)
    (hQ : ∀ h', HeldZ B (env :: outer) e Z L h' → s.heap.UpToSlots h' → Q () { s with heap := h' }) : wpAny M A (noteFrame (.ref e) env) Q E s := by
  obtain ⟨st, nb, fu, oe, vs, T, oT, ts, e1, z1, d1, v1, nT, Te, e2, d2, f3⟩ := x
  have ot : ∀ b, b ≠ T → (s.heap.update T (Obj.mapFields (·.setIfInBounds 3 Value.none))).get? b = s.heap.get? b := fun b q => Heap.get?_update_other _ _ (Ne.symm q)
  have nr : ∀ b o, s.heap.get? b = some o → (∀ vs, o.data ≠ .fields vs) → b ≠ T := fun b o g nf q => by
    rw [q, e2] at g
    cases g
    exact nf ts d2
  unfold noteFrame
  simp only [hf]
  refine wpAny_bind (wpAny_field e1 d1 v1 ?_)
  rw [if_pos (by simp)]
  refine wpAny_bind (wpAny_field e2 d2 f3 ?_)
  rw [if_neg (fun z => ne (Int.ofNat.inj (by simp only [rawInt, beq_iff_eq, Value.int.injEq] at z; exact z.1)))]
  refine wpAny_bind (wpAny_setField e2 d2 (Array.getElem?_eq_some_iff.mp f3).1 ?_)
  refine wpAny_entryZ hZ hfr (fu.of_keeps fun b o g nf => ⟨o, (ot b (nr b o g nf)).trans g, rfl⟩) hf ((ot e (Ne.symm Te)).trans e1) (fun b o g => (ot b fun q => by rw [q, nT] at g; cases g).trans (st b o g)) nb d1 (Array.getElem?_eq_some_iff.mp v1).1 z1 fun h' y => ?_
  obtain ⟨y1, y2, y3, y4⟩ := y
  exact hQ h' ⟨y1, nb, y2, y3⟩ fun b o g nf => y4 b o ((ot b (nr b o g nf)).trans g) nf
/-- in whatever way it flies -/
theorem sky_note {Q : Unit → Shared → Prop} (hZ : Steady Z) (hfr : A.frames = some (env :: outer)) (hf : env.frame = some L) (ne : C ≠ L) (x : Sky B (env :: outer) e Z C s.heap)
    (hQ : ∀ h', HeldZ B (env :: outer) e Z L h' → s.heap.UpToSlots h' → Q () { s with heap := h' }) : wpAny M A (noteFrame (.ref e) env) Q E s := by
  rcases x with ⟨h1, h2, h3, oe, vs, h4, h5, h6, h7⟩ | fl | hd
  · exact look_newZ hZ hfr h3 hf h4 h1 h2 h6 h7 h5 hQ
  · exact looks_onZ hZ hfr hf fl hQ
  · exact looks_other hZ hfr hf ne hd hQ
end
def compEnd (M : Model) (A : Around) (E : Value → Shared → Prop) (use : Option (Value → Sem Unit)) (Q : Value → Shared → Prop) (acc : Value) (ce : PySem.Env) (r : Result) (s : Shared) : Prop := match r with
  | .ok f => compPost M A E use Q acc ce.locals (.ok f) s
  | .error x => ∃ m, s.heap.Ns ce.locals m ∧ ∀ h', Heap.SameBut ce.locals s.heap h' → wpAny M A (passOn "comprehension.variables-let-go" x ce : Sem Value) (fun _ _ => False) E { s with heap := h' }
section
variable {M : Model} {A : Around} {E : Value → Shared → Prop} {s : Shared} {env : PySem.Env}
theorem comp_both {e : Expr} {sc : Scope} {pos : Pos} {nw fst : Sem Value} {g : Comprehension} {gs : List Comprehension} {cl : List (Str × Addr)} {use : Option (Value → Sem Unit)} {Q : Value → Shared → Prop}
    (h1 : clausesOf e = g :: gs) (h2 : ∀ x, foldedSetIterable g.iter env x = pure x) (h3 : closureFor sc env = pure cl) (h4 : sc.kind = .function) (h5 : ∀ y ∈ sc.names, y.2 = .local → sc.names.lookup y.1 = some .local)
    (h : wpAny M A fst (fun x s1 => wpAny M A (pyIter x) (fun it s2 => wpAny M A nw (fun acc s3 => wpAny M A (newFunctionEnv sc env.globals cl [] env.qual none .none (some env)) (fun ce s4 =>
        codeAny M A (.compStart e 0 it acc { ce with scope := relabel sc env }) (compEnd M A E use Q acc { ce with scope := relabel sc env }) s4) E s3) E s2) E s1) E s) :
    wpAny M A (comprehension e sc env pos nw false fst use) Q E s := by
  unfold comprehension
  rw [h3, h1]
  have id' : ∀ (u : Value) (t : Shared), E u t → E u t := fun _ _ z => z
  refine wpAny_bind (wpAny_mono h (fun x s1 g1 => ?_) id')
  refine wpAny_bind (wpAny_standAt (wpAny_bind (wpAny_of_eq (h2 x) (wpAny_bind (wpAny_holding (wpAny_mono g1 (fun it s2 g2 => ?_) id'))))))
  refine wpAny_standIf (wpAny_bind (wpAny_mono g2 (fun acc s3 g3 => ?_) id'))
  refine wpAny_bind (wpAny_pure (wpAny_bind (wpAny_mono g3 (fun ce s4 g4 => ?_) id')))
  dsimp only
  have loc : ∀ y ∈ (sc.names.filter fun y => (y.2 == .local || y.2 == .cell) && y.1 != (".0" : Str)).reverse, y.2 = .local → Env.kindOf { ce with scope := relabel sc env } y.1 = some .local := fun y hy hl =>
    lookup_relabel_local (h5 y (List.mem_filter.mp (List.mem_reverse.mp hy)).1 hl)
  have loc' : ∀ y ∈ (sc.names.filter fun y => (y.2 == .local || y.2 == .cell) && y.1 != (".0" : Str)).reverse.drop 1 ++ (sc.names.filter fun y => (y.2 == .local || y.2 == .cell) && y.1 != (".0" : Str)).reverse.take 1,
      y.2 = .local → Env.kindOf { ce with scope := relabel sc env } y.1 = some .local := fun y hy hl => (List.mem_append.mp hy).elim (fun z => loc y (List.mem_of_mem_drop z) hl) (fun z => loc y (List.mem_of_mem_take z) hl)
  refine wpAny_holding (wpAny_bind (wpAny_attempt (wpAny_holding (wpAny_run (codeAny_mono g4 fun r t hr => ?_)))))
  match r, hr with
  | .error x, hr =>
    obtain ⟨m, hn, hr⟩ := hr
    refine wpAny_bind (wpAny_holding (wpAny_comp_letGo (cenv := { ce with scope := relabel sc env }) h4 _ t m loc hn fun h' m' _ sb => ?_))
    exact wpAny_mono (hr h' sb) (fun _ _ f => f.elim) id'
  | .ok f, hr =>
    cases use with
    | none =>
      obtain ⟨m, hn, hr⟩ := hr
      refine wpAny_bind (wpAny_holding (wpAny_comp_letGo (cenv := { ce with scope := relabel sc env }) h4 _ t m loc hn fun h' m' _ sb => ?_))
      exact wpAny_pure (hr h' sb)
    | some u =>
      refine wpAny_bind (wpAny_rule (wpAny_bind (wpAny_holding (wpAny_mono hr (fun _ t2 hr => ?_) id'))))
      obtain ⟨m, hn, hr⟩ := hr
      refine wpAny_bind (wpAny_comp_letGo (cenv := { ce with scope := relabel sc env }) h4 _ t2 m loc' hn fun h' m' _ sb => ?_)
      exact wpAny_pure (hr h' sb)
end
abbrev blkE (X : Cx) (s : Shared) (H : Hp) (sc : Scope) (ce : PySem.Env) (fp : List Addr) (W : WX) : Cx := (X.blk s H sc ce fp).tr [] fun u s' => XE (X.blk s H sc ce fp) W u s'
theorem Inv.toB {X : Cx} {s : Shared} {H : Hp} {sc : Scope} {ce : PySem.Env} {fp : List Addr} {W : WX} {pins : List (Addr × Obj)} {σ : L2.St} {H' : Hp} {s' : Shared} (I : Inv (X.blk s H sc ce fp) pins σ H' s') : Inv (blkE X s H sc ce fp W) pins σ H' s' :=
  ⟨I.ok.toTry _ _, I.os, I.bare, I.base, I.loc, I.cell, I.free, I.freeC, I.pin, I.hok, I.len⟩
theorem Inv.ofB {X : Cx} {s : Shared} {H : Hp} {sc : Scope} {ce : PySem.Env} {fp : List Addr} {W : WX} {pins : List (Addr × Obj)} {σ : L2.St} {H' : Hp} {s' : Shared} (I : Inv (blkE X s H sc ce fp W) pins σ H' s') : Inv (X.blk s H sc ce fp) pins σ H' s' :=
  ⟨I.ok.ofTry, I.os, I.bare, I.base, I.loc, I.cell, I.free, I.freeC, I.pin, I.hok, I.len⟩
theorem takesB {X : Cx} {s : Shared} {H : Hp} {sc : Scope} {ce : PySem.Env} {fp : List Addr} {W : WX} : Takes (blkE X s H sc ce fp W) W := fun u s' x => by
  obtain ⟨a, B, sI, pins, σ, H, cls, d, e, I, nb, up, sky, na, os, ag, w⟩ := x
  exact ⟨a, B, sI, pins, σ, H, cls, d, e, PF.Inv.ofB I, nb, up, sky, na, os, ag, w⟩
/-- an error that leaves the block is in the def's own air -/
theorem block_err {X : Cx} {W : WX} {pins : List (Addr × Obj)} {σ : L2.St} {H3 : Hp} {s3 s5 : Shared} {sc : Scope} {ce : PySem.Env} {fp : List Addr} {u : Value} {use : Option (Value → Sem Unit)} {Qf : Value → Shared → Prop} {acc : Value}
    (hs : X.stack = X.env :: X.outer) (hf : X.env.frame = some X.env.locals) (tk : Takes X W) (I3 : Inv X pins σ H3 s3) (cL : ce.locals = s3.heap.objs.size) (cF : ce.frame = X.env.frame) (f3 : ∀ b ∈ fp, FpOk X pins H3 b)
    (x : XE (X.blk s3 H3 sc ce fp) (fun cls dx _ H' => W cls dx σ H') u s5) : notedBy (model X.prog X.w) X.A ce (fun e s' => compEnd (model X.prog X.w) X.A X.xe use Qf acc ce (.error e) s') u s5 := by
  obtain ⟨a, B, sI, pn, σ1, H1, cls, d, rfl, I, nb, up, sky, na, os, ag, w⟩ := x
  have hfr : X.A.frames = some (X.env :: X.outer) := by rw [I3.ok.frames, hs]
  have lC : X.env.locals < ce.locals := by rw [cL]; exact I3.lt
  have ne : ce.locals ≠ X.env.locals := fun z => absurd lC (by rw [z]; exact Nat.lt_irrefl _)
  unfold notedBy
  rw [note_same cF]
  have sky' : Sky B (X.env :: X.outer) a (Zc cls d) ce.locals s5.heap := by
    have z : Sky B X.stack a (Zc cls d) ce.locals s5.heap := sky
    rw [hs] at z
    exact z
  refine sky_note Zc.steady hfr hf ne sky' fun h6 hd6 up6 => ?_
  rw [← hs] at hd6
  obtain ⟨m, hn, _⟩ := I.loc
  have hn : sI.heap.Ns ce.locals m := hn
  have up56 : sI.heap.UpToSlots h6 := up.trans up6
  have hn6 : h6.Ns ce.locals m := by
    obtain ⟨o, es, ep, e1, e2, r⟩ := hn
    obtain ⟨sl, e3⟩ := up56 _ o e1 (by rw [e2]; exact nofun)
    exact ⟨_, es, ep, e3, e2, r⟩
  refine ⟨m, hn6, fun h7 sb => ?_⟩
  -- without the block's own names
  have cS : ce.locals ∉ frs X.stack := fun z => by
    rcases List.mem_cons.mp (I3.stkSub _ z) with q | q
    · exact ne q
    · exact I3.nofs (Nat.le_of_eq cL.symm) q
  have cB : ∃ o, B.get? ce.locals = some o := by
    obtain ⟨o, _, _, e1, _⟩ := hn
    exact ⟨o, nb _ o e1 cS⟩
  have nn : ∀ {b : Addr}, B.get? b = none → b ≠ ce.locals := fun n z => by
    obtain ⟨o, e1⟩ := cB
    rw [z, e1] at n
    cases n
  have H1C : H1 ce.locals = none := I.free
  obtain ⟨G, g1, g2⟩ := restrict B fun b => decide (b ≠ ce.locals)
  obtain ⟨G2, k1, k2⟩ := restrict sI.heap fun b => decide (b ≠ ce.locals)
  have gG : ∀ b o, G.get? b = some o → b ≠ ce.locals ∧ B.get? b = some o := fun b o q => by
    rcases Decidable.em (b = ce.locals) with z | z
    · rw [g2 b (by simp [z])] at q
      cases q
    · exact ⟨z, by rw [← g1 b (by simp [z])]; exact q⟩
  have gI : ∀ b o, G2.get? b = some o → b ≠ ce.locals ∧ sI.heap.get? b = some o := fun b o q => by
    rcases Decidable.em (b = ce.locals) with z | z
    · rw [k2 b (by simp [z])] at q
      cases q
    · exact ⟨z, by rw [← k1 b (by simp [z])]; exact q⟩
  have Gn : ∀ {b : Addr}, B.get? b = none → G.get? b = none := fun {b} n => by rw [g1 b (by simp [nn n])]; exact n
  obtain ⟨hst, hna, hfu, oe, vs, T, oT, ts, t1, t2, t3, t4, t5, t6, t7, t8, t9⟩ := hd6
  have hd7 : HandSPX.HeldZ G X.stack a (Zc cls d) X.env.locals h7 := by
    refine ⟨fun b o q => ?_, Gn hna, ?_, oe, vs, T, oT, ts, (sb.2 a (nn hna)).trans t1, t2, t3, t4, Gn t5, t6, (sb.2 T (nn t5)).trans t7, t8, t9⟩
    · obtain ⟨q1, q2⟩ := gG b o q
      exact (sb.2 b q1).trans (hst b o q2)
    · refine funFrames_none (base := B) (funs_but (fun b hb o q => (sb.2 b fun z => cS (z ▸ hb)).trans q) hfu) fun b hb => Gn (hfu.mem hb).1
  show wpAny _ _ (passOn "comprehension.variables-let-go" (.ref a) ce : Sem Value) _ _ { s5 with heap := h7 }
  unfold PySem.passOn
  refine wpAny_bind (wpAny_field ((sb.2 a (nn hna)).trans t1) t3 t4 ?_)
  rw [if_neg (show ¬ ((Value.ref T == Value.none) = true) from by simp)]
  have last : wpAny (model X.prog X.w) X.A (setFlight (.ref a) ce.frame) (fun _ s' => wpAny (model X.prog X.w) X.A (throw (.ref a) : Sem Value) (fun _ _ => False) X.xe s') X.xe { s5 with heap := h7 } := by
    rw [cF, hf]
    refine HandSPX.setFlight_onZ hd7 fun h8 hd8 up8 => wpAny_throw (tk _ _ ?_)
    refine ⟨a, G, { sI with heap := G2 }, pins, σ, H1, cls, d, rfl, ?_, fun b o q hb => ?_, fun b o q nf => ?_, .inr (.inr hd8), na, os, ag, w⟩
    · refine I3.call' (ch := fp) (s' := { sI with heap := G2 }) I.os ?_ (fun b o q => (I.hok b o q).stay (fun c v hc r => ?_) (fun _ r => r) fun _ _ r => r) I.bare fun b hb => ?_
      · have nC : ∀ {b : Addr} {o : Obj}, s3.heap.get? b = some o → b ≠ ce.locals := fun {b o} q => by
          rw [cL]
          exact Nat.ne_of_lt (Heap.lt_size q)
        have eG : ∀ {b : Addr}, b ≠ ce.locals → G2.get? b = sI.heap.get? b := fun {b} z => k1 b (by simp [z])
        have I' := I.base
        exact ⟨fun b o q n f x => by rw [eG (nC q)]; exact I'.keep b o q n f x, fun b o q n f x => by rw [eG (nC q)]; exact I'.slot b o q n f x, I'.free, fun b o q x => by rw [eG (nC q)]; exact I'.there b o q x, I'.tups, I'.frzs, I'.tbls⟩
      · have cn : c ≠ ce.locals := fun z => by
          rw [z] at hc
          rcases hc with hc | hc
          · rw [← hc, H1C] at q
            cases q
          · rw [H1C] at hc
            cases hc
        rw [k1 c (by simp [cn])]
        exact r
      · obtain ⟨_, z1, _, z2, z3, z4⟩ := f3 b hb
        exact ⟨z2, z1, z3, z4⟩
    · obtain ⟨q1, q2⟩ := gI b o q
      rw [g1 b (by simp [q1])]
      exact nb b o q2 hb
    · obtain ⟨q1, q2⟩ := gI b o q
      obtain ⟨sl, q3⟩ := up56 b o q2 nf
      obtain ⟨sl2, q4⟩ := up8 b _ ((sb.2 b q1).trans q3) nf
      exact ⟨sl2, q4⟩
  first
    | exact wpAny_bind (wpAny_pure (wpAny_bind last))
    | exact wpAny_bind last
end PF
namespace PF
open PySem PySem.Spec PyProof.Rows L2
/-- errors go over into others -/
theorem thnM {α : Type} {t : Sem α} {Q Q' : α → Shared → Prop} {M : Model} {A : Around} {E E' : Value → Shared → Prop} {s : Shared} (h : wpAny M A t Q E s) (e : ∀ u s, E u s → E' u s) (q : ∀ a s, Q a s → Q' a s) : wpAny M A t Q' E' s := wpAny_mono h q e
/-- the context of a block, whichever -/
abbrev BlkE (X : Cx) (sc : Scope) (W : WX) (P : Cx → Prop) : Prop := ∀ (σ : L2.St) (s : Shared) (H : Hp) (C : Addr) (cl : List (Str × Addr)) (fp : List Addr), P (blkE X s H sc (compEnvC sc cl C X.env) fp fun cls dx _ H' => W cls dx σ H')
section
variable {X : Cx} {W : WX} {pins : List (Addr × Obj)} {s : Shared} {σ : L2.St} {H : Hp} {Q : VK} {elt tg it0 : Expr} {ifs : List Expr} {sc : Scope} {own : List (Str × Nat)} {pos pos' : Pos} {wi : TI} {g : TG} {tt : TT} {te : L2.St → TE} {use : Option (Value → Sem Unit)} {Qf : Value → Shared → Prop}
theorem lcE_core (hs : X.stack = X.env :: X.outer) (hf : X.env.frame = some X.env.locals) (tk : Takes X W) (hc : X.calm = true) (hN : X.N.Nodup) (I : Inv X pins σ H s) (hi : PI X tg it0 wi) (ok : BlkOk X.N X.env.scope sc own)
    (hg : BlkE X sc W fun Y => PG Y tg g) (ht : BlkE X sc W fun Y => PTs Y ifs tt) (he : ∀ (σ : L2.St) (s : Shared) (H : Hp) (C : Addr) (cl : List (Str × Addr)) (fp : List Addr), PE (blkE X s H sc (compEnvC sc cl C X.env) fp fun cls dx _ H' => W cls dx σ H') elt (te σ))
    (hfold : ∀ x, foldedSetIterable it0 X.env x = pure x) (h : tLc wi g tt (te σ) (own.map (·.2)) σ H Q)
    (fin : ∀ D (ce : PySem.Env) s' m H', Inv X pins σ H' s' → Q (.ref D) H' → s'.heap.Ns ce.locals m → FpOk X pins H' ce.locals → compPost (model X.prog X.w) X.A X.xe use Qf (.ref D) ce.locals (.ok .next) s') :
    wpAny (model X.prog X.w) X.A (comprehension (.ListComp elt [⟨tg, it0, ifs, 0⟩] sc pos) sc X.env pos' (newList []) false (eval it0 X.env) use) Qf X.xe s := by
  have fr : ∀ y ∈ sc.names, y.2 = .free → ∃ c, X.env.cells.lookup y.1 = some c := fun y hy e => (ok.free y hy e).elim (fun k => I.ok.has _ (.inl k)) fun k => I.ok.has _ (.inr k)
  refine comp_both (use := use) rfl hfold (closure_ok fr) ok.kind (fun y hy e => (ok.uniq y hy).trans (congrArg some e)) (thn (hi.run pins s σ H _ I h) fun xv s1 hx => thn hx fun itv s2 h2 => ?_)
  obtain ⟨it, fp, tn, J, H2, rfl, I2, T, st2, f2, q⟩ := h2
  refine wpAny_newObj_type (L2.newEnv_comp ?_) (Nat.zero_le _)
  generalize eD : s2.heap.objs.size = D
  have nD : H2 D = none := I2.hok.fresh (Nat.le_of_eq eD)
  obtain ⟨V, ⟨m0, v0⟩, turn⟩ := q D nD
  generalize es3 : ({ s2 with heap := s2.heap.push { cls := .type "list", data := .seq ([] : List Value).toArray } } : Shared) = s3
  have kp3 : ∀ b o, s2.heap.get? b = some o → s3.heap.get? b = some o := fun b o e => by rw [← es3]; exact Heap.get?_push_of_some _ e
  have I3 : Inv X pins σ (upd H2 D (.lst [])) s3 := by
    subst es3
    exact I2.laid (t' := s2.toks) (fun b o e => Heap.get?_push_of_some _ e) (Nat.le_of_eq eD) ⟨Nat.zero_le _, [], 0, .nil, by rw [← eD]; exact Heap.get?_push_size _ rfl⟩
  have f3 : ∀ b ∈ fp, FpOk X pins (upd H2 D (.lst [])) b ∧ b < s3.heap.objs.size := fun b hb => by
    obtain ⟨o, e, _⟩ := T.obj _ _ st2 b hb
    refine ⟨⟨?_, (f2 b hb).2⟩, Heap.lt_size (kp3 b o e)⟩
    rw [upd_ne (by rw [← eD]; exact Nat.ne_of_lt (Heap.lt_size e))]
    exact (f2 b hb).1
  have I4 := block_start I3 ok hN f3
  have pg := hg σ s3 (upd H2 D (.lst [])) s3.heap.objs.size (cellsFrom (s3.heap.objs.size + 1) sc.names (cloFrom X.env.cells sc.names [])) fp
  have pt := ht σ s3 (upd H2 D (.lst [])) s3.heap.objs.size (cellsFrom (s3.heap.objs.size + 1) sc.names (cloFrom X.env.cells sc.names [])) fp
  have pe := he σ s3 (upd H2 D (.lst [])) s3.heap.objs.size (cellsFrom (s3.heap.objs.size + 1) sc.names (cloFrom X.env.cells sc.names [])) fp
  have st3 : tn 0 s3.heap := T.keep _ _ _ st2 fun b _ o e => kp3 b o e
  show codeAny _ _ (.compStart (.ListComp elt [⟨tg, it0, ifs, 0⟩] sc pos) 0 (.ref it) (.ref D) (compEnvC sc (cellsFrom (s3.heap.objs.size + 1) sc.names (cloFrom X.env.cells sc.names [])) s3.heap.objs.size X.env))
    (compEnd (model X.prog X.w) X.A X.xe use Qf (.ref D) (compEnvC sc (cellsFrom (s3.heap.objs.size + 1) sc.names (cloFrom X.env.cells sc.names [])) s3.heap.objs.size X.env)) { s3 with heap := pushCells (s3.heap.push { cls := .type "dict", data := .dict #[] }) sc.names }
  generalize ece : compEnvC sc (cellsFrom (s3.heap.objs.size + 1) sc.names (cloFrom X.env.cells sc.names [])) s3.heap.objs.size X.env = ce at I4 pg pt pe ⊢
  have cL : ce.locals = s3.heap.objs.size := by rw [← ece]; rfl
  have cF : ce.frame = X.env.frame := by rw [← ece]; rfl
  generalize eH : upd H2 D (.lst []) = H3 at I3 I4 pg pt pe v0 f3
  generalize es4 : ({ s3 with heap := pushCells (s3.heap.push { cls := .type "dict", data := .dict #[] }) sc.names } : Shared) = s4 at I4 ⊢
  have st4 : tn 0 s4.heap := T.keep _ _ _ st3 fun b _ o e => by rw [← es4]; exact pushCells_keeps _ _ _ _ (Heap.get?_push_of_some _ e)
  have stat : ∀ {σ' : L2.St} {H' : Hp} {s' : Shared}, Inv (X.blk s3 H3 sc ce fp) [] σ' H' s' → (∀ b ∈ fp, H' b = none) → ∀ b ∈ fp, FpOk (X.blk s3 H3 sc ce fp) [] H' b := fun I' n b hb =>
    ⟨n b hb, (I'.ok.exf b hb).1, I'.ok.exfs b hb, .inl hb, fun y c e => (I'.ok.exf b hb).2 y c e, fun p hp => by cases (show p ∈ ([] : List (Addr × Obj)) from hp)⟩
  -- an error of the block
  have er : ∀ u s', (blkE X s3 H3 sc ce fp fun cls dx _ H' => W cls dx σ H').xe u s' → notedBy (model X.prog X.w) X.A ce (fun e s' => compEnd (model X.prog X.w) X.A X.xe use Qf (.ref D) ce (.error e) s') u s' :=
    fun u s' x => block_err hs hf tk I3 cL cF (fun b hb => (f3 b hb).1) x
  have loop : codeAny (model X.prog X.w) X.A (.compLoop (.ListComp elt [⟨tg, it0, ifs, 0⟩] sc pos) 0 (.ref it) (.ref D) ce) (compEnd (model X.prog X.w) X.A X.xe use Qf (.ref D) ce) s4 := by
    refine compLoop_any (fun n s' => ∃ i H', Inv (X.blk s3 H3 sc ce fp) [] (wipe σ (own.map (·.2))) H' s' ∧ tn i s'.heap ∧ (∀ b ∈ fp, H' b = none) ∧ V i n H') ?_ m0 ⟨0, H3, I4, st4, fun b hb => (f3 b hb).1.1, v0⟩
    rintro n s5 ⟨i, H5, I5, st5, n5, v5⟩
    rcases turn i n H5 v5 with ⟨stop, qq⟩ | ⟨go, Nx, hNx, step⟩
    · refine thnF (T.done (X.blk s3 H3 sc ce fp) rfl rfl rfl hc i [] s5 _ H5 (fun _ _ => False) I5 (stat I5 n5) st5 stop) fun r s6 hr => ?_
      obtain ⟨rfl, I6⟩ := hr
      have back : Inv X pins σ H5 s6 := I3.call' (ch := fp) I6.os I6.base I6.hok I6.bare fun b hb => by
        obtain ⟨_, z1, _, z2, z3, z4⟩ := (f3 b hb).1
        exact ⟨z2, z1, z3, z4⟩
      obtain ⟨m, hn, _⟩ := I6.loc
      exact fin D ce s6 m H5 back qq hn (I3.fpOk (Nat.le_of_eq cL.symm) I6.free)
    · refine thnF (T.item (X.blk s3 H3 sc ce fp) rfl rfl rfl hc i [] s5 _ H5 (fun _ _ => False) I5 (stat I5 n5) st5 go) fun r s6 hr => ?_
      obtain ⟨u, rfl, h6⟩ := hr
      refine thnF h6 fun _ s7 h7 => ?_
      obtain ⟨x, H7, I7, r7, y7, st7, n7⟩ := h7
      have J7 := I7.pinned (stat I7 n7) (T.obj _ _ st7)
      refine thnM (pg.run _ s7 _ H7 x u _ (PF.Inv.toB J7) r7 (step x H7 y7)) er fun _ s8 h8 => ?_
      obtain ⟨σ8, H8, I8, w8, q8⟩ := h8
      refine thnM (pt.run _ s8 σ8 H8 _ I8 q8) er fun b s9 h9 => ?_
      obtain ⟨H9, I9, q9⟩ := h9
      have fin2 : ∀ {s' : Shared} {H' : Hp}, Inv (X.blk s3 H3 sc ce fp) ([] ++ pinsAt fp s7.heap) σ8 H' s' → Nx H' → ∃ m, m < n ∧ ∃ i H', Inv (X.blk s3 H3 sc ce fp) [] (wipe σ (own.map (·.2))) H' s' ∧ tn i s'.heap ∧ (∀ b ∈ fp, H' b = none) ∧ V i m H' := fun {s' H'} I' nx => by
        obtain ⟨m', lt, v'⟩ := hNx H' nx
        have pin : ∀ b ∈ fp, ∀ o, s7.heap.get? b = some o → s'.heap.get? b = some o ∧ H' b = none := fun b hb o e => by
          have z := I'.pin (b, o) (List.mem_append_right _ (List.mem_append_right _ (mem_pinsAt hb e)))
          exact ⟨z.1, z.2.1⟩
        refine ⟨m', lt, i + 1, H', (I'.unpinned (pins := [])).weak (by rw [← w8, wipe_length]) (fun j v e => ?_), T.keep _ _ _ st7 fun b hb o e => (pin b hb o e).1, fun b hb => ?_, v'⟩
        · rw [← w8] at e
          exact (wipe_some e).1
        · obtain ⟨o, e, _⟩ := T.obj _ _ st7 b hb
          exact (pin b hb o e).2
      cases b with
      | false => exact fin2 (PF.Inv.ofB I9) (by simpa using q9)
      | true =>
        have q9 : te σ σ8 H9 fun y H4 => ∃ acc, H4 D = some (.lst acc) ∧ acc.length < sizeLine ∧ Nx (upd H4 D (.lst (acc ++ [y]))) := by simpa using q9
        rw [if_pos rfl]
        refine thnM (pe.run _ s9 σ8 H9 _ I9 q9) er fun z s10 h10 => ?_
        obtain ⟨yv, H10, I10, r10, acc, e1, e2, nx⟩ := h10
        exact app_ok (X := X.blk s3 H3 sc ce fp) (PF.Inv.ofB I10) e1 e2 r10 fun s11 I11 => fin2 I11 nx
  exact codeAny_compStart_list loop (T.self X.A 0 _ _ _ st4 loop)
/-- reading: as a value -/
theorem pe_lcE (hs : X.stack = X.env :: X.outer) (hf : X.env.frame = some X.env.locals) (tk : Takes X W) (hc : X.calm = true) (hN : X.N.Nodup) (hi : PI X tg it0 wi) (ok : BlkOk X.N X.env.scope sc own)
    (hg : BlkE X sc W fun Y => PG Y tg g) (ht : BlkE X sc W fun Y => PTs Y ifs tt) (he : ∀ (σ : L2.St) (s : Shared) (H : Hp) (C : Addr) (cl : List (Str × Addr)) (fp : List Addr), PE (blkE X s H sc (compEnvC sc cl C X.env) fp fun cls dx _ H' => W cls dx σ H') elt (te σ))
    (hfold : ∀ x, foldedSetIterable it0 X.env x = pure x := by intro _; rfl) : PE X (.ListComp elt [⟨tg, it0, ifs, 0⟩] sc pos) (fun σ H Q => tLc wi g tt (te σ) (own.map (·.2)) σ H Q) := by
  constructor
  intro pins s σ H Q I h
  rw [eval_ListComp]
  refine lcE_core hs hf tk hc hN I hi ok hg ht he hfold h fun D ce s' m H' I' q hn f => ⟨m, hn, fun h2 sb => ?_⟩
  obtain ⟨z0, z1, _, z3, z4, z5⟩ := f
  exact ⟨.ref D, H', I'.turned (t' := s'.toks) (fun b o hb e => (sb.2 b hb).trans e) z0 z1 z3 z4 z5, rfl, q⟩
/-- reading: name = [..] on one line -/
theorem ps_setLcE {i : Nat} {y : Str} {py spos : Pos} (hs : X.stack = X.env :: X.outer) (hf : X.env.frame = some X.env.locals) (tk : Takes X W) (hc : X.calm = true) (hN : X.N.Nodup) (hy : X.N[i]? = some y) (hyl : X.env.scope.names.lookup y = some .local)
    (hsw : swapsWith (.ListComp elt [⟨tg, it0, ifs, 0⟩] sc pos) (some (.Name y py)) spos.line X.env = pure true) (hi : PI X tg it0 wi) (ok : BlkOk X.N X.env.scope sc own)
    (hg : BlkE X sc W fun Y => PG Y tg g) (ht : BlkE X sc W fun Y => PTs Y ifs tt) (he : ∀ (σ : L2.St) (s : Shared) (H : Hp) (C : Addr) (cl : List (Str × Addr)) (fp : List Addr), PE (blkE X s H sc (compEnvC sc cl C X.env) fp fun cls dx _ H' => W cls dx σ H') elt (te σ))
    (hfold : ∀ x, foldedSetIterable it0 X.env x = pure x := by intro _; rfl) : PS X (.Assign [.Name y py] (.ListComp elt [⟨tg, it0, ifs, 0⟩] sc pos) spos) (tAsg (fun σ H Q => tLc wi g tt (te σ) (own.map (·.2)) σ H Q) (gName i)) := by
  constructor
  intro pins s σ H D I h
  rw [exec_Assign_Name_used _ _ _ _ hsw]
  refine wpAny_bind (wpAny_standAt (wpAny_bind ?_))
  show wpAny _ X.A (do let _ ← comprehension (.ListComp elt [⟨tg, it0, ifs, 0⟩] sc pos) sc X.env (firstIterPos [⟨tg, it0, ifs, 0⟩] pos) (newList []) false (eval it0 X.env) (some (assign (.Name y py) X.env))) _ _ s
  have h : tLc wi g tt (te σ) (own.map (·.2)) σ H (fun x H1 => gName i x σ H1 D.nx) := h
  refine wpAny_bind (thn (lcE_core (Qf := fun _ s' => SP X pins D .next s') hs hf tk hc hN I hi ok hg ht he hfold h fun L ce s' m H' I' q hn f => ?_) fun _ s' z => wpAny_pure (wpAny_pure z))
  show wpAny _ _ (assign (.Name y py) X.env (.ref L)) _ _ _
  refine wpAny_assign_Name (store_ok2 (v := V.ref L) I' hN hy (.inl hyl) rfl (fun s2 I2 z => ?_) (.inr hyl))
  obtain ⟨a, sb, ha⟩ := z
  obtain ⟨z0, z1, _, z3, z4, z5⟩ := f
  have ne : ce.locals ≠ a := ha.elim (fun z => by rw [z]; exact z1) fun z e => z4 y a z e.symm
  exact ⟨m, hn.sameBut sb ne, fun h3 sb3 => ⟨_, H', I2.turned (t' := s2.toks) (fun b o hb e => (sb3.2 b hb).trans e) z0 z1 z3 z4 z5, q⟩⟩
end
end PF
namespace PF
open PySem PySem.Spec PyProof.Rows L2
def compX (G : W → En → Option En) (tt : En → T Bool) (fe : En → T W) (ρ : En) : List W → T (List W)
  | [] => .ok []
  | w :: ws => match G w ρ with
    | none => .bad
    | some ρ1 => (noX (tt ρ1)).bind fun b => if b then (fe ρ1).bind fun x => (compX G tt fe ρ ws).bind fun xs => .ok (x :: xs) else compX G tt fe ρ ws
def fCompX (vs : List Nat) (fi : En → T (List W)) (G : W → En → Option En) (tt : En → T Bool) (fe : En → T W) : En → T W := fun ρ => (fi ρ).bind fun ws => if sizeOk ws then (compX G tt fe (wipeE ρ vs) ws).bind fun xs => .ok (.lst xs) else .bad
section
variable {X : Cx} {E : WX} {elt tg iter : Expr} {ifs : List Expr} {scope : Scope} {own : List (Str × Nat)} {pos : Pos} {fi : En → T (List W)} {ns : List Nat} {G : W → En → Option En} {tt : En → T Bool} {fe : En → T W}
theorem compX_ok (hs : ∀ i ∈ ns, i ∈ own.map (·.2)) : ∀ σ H Q, liftE X.K Γ E (fCompX (own.map (·.2)) fi G tt fe) σ H Q → tLc (liftI X.K Γ E fi) (liftG X.K Γ ns G) (liftB X.K Γ noW tt) (liftE X.K Γ (fun cls dx _ H' => E cls dx σ H') fe) (own.map (·.2)) σ H Q := fun σ H Q h => by
  obtain ⟨c, d, oa, ρ, e, h⟩ := h
  refine ⟨c, d, oa, ρ, e, T.AllW.imp (fun d1 ws hx => ?_) (fun _ _ _ y => y) (T.allW_bind.mp h)⟩
  intro c1 J H1 st1 so1 jo D nD
  have e1 := e.step st1 so1
  obtain ⟨hz, hx⟩ := T.AllW.ite hx
  have hz := sizeOk_of hz
  generalize hvs : own.map (·.2) = vs at hs hx
  have hx : ((compX G tt fe (wipeE ρ vs) ws).bind fun xs => T.ok (W.lst xs)).AllW (PQ X.K c1 H1 Q) (PX X.K c1 H1 fun cls dx H' => E cls dx σ H') d1 := T.AllW.imp (fun _ _ y => y.later st1) (fun _ _ _ y => y.later st1) hx
  -- the turn's word
  refine ⟨fun i m H' => m = ws.length - i ∧ ∃ cm d' acc us, Gr (c1.more D) cm ∧ Step c1 H1 H' ∧ EnvOk X.K Γ cm d' oa (wipeE ρ vs) (wipe σ vs) H' ∧ H' D = some (.lst us) ∧ RepL X.K cm H' acc us ∧ us.length ≤ i ∧
    ((compX G tt fe (wipeE ρ vs) (ws.drop i)).bind fun xs => T.ok (W.lst (acc ++ xs))).AllW (PQ X.K c1 H1 Q) (PX X.K c1 H1 fun cls dx H' => E cls dx σ H') d',
    ⟨_, rfl, _, d1, [], [], .refl _, .new nD, (e1.more nD).wipe vs, upd_same, .nil, Nat.le_refl _, hx⟩, ?_⟩
  rintro i m H' ⟨rfl, cm, d', acc, us, gm, st', e', hD, ra, hl, h'⟩
  have fw : Fwd X.K c1 H1 cm H' := (Fwd.more nD st' e1.wd).gr gm
  obtain ⟨ji, js⟩ := jo cm H' d' i fw e'.wd
  have nst : D ∉ [cm.S, cm.ca, cm.la] := by
    rw [gm.S, gm.ca, gm.la]
    obtain ⟨⟨cells, lefts, k, r, h1, h2, h3, _⟩, _⟩ := so1
    simp only [List.mem_cons, not_or, List.not_mem_nil, not_false_eq_true, and_true]
    exact ⟨Ne.symm (ne_of_none h1 nD), Ne.symm (ne_of_none h2 nD), Ne.symm (ne_of_none h3 nD)⟩
  have inA : ∀ {ck : Cc}, Gr cm ck → D ∈ ck.A := fun g => by
    rw [g.A, gm.A]
    exact List.mem_cons_self ..
  have nstg : ∀ {ck : Cc}, Gr cm ck → D ∉ [ck.S, ck.ca, ck.la] := fun g => by
    rw [g.S, g.ca, g.la]
    exact nst
  have ho : ∀ (j : Nat) (xs : List W), (wipeE ρ vs)[j]? = some (.own xs) → oa j ≠ D := fun j xs hj => by
    obtain ⟨_, _, zs, h4, _⟩ := e1.own j xs (wipeE_own hj)
    exact ne_of_none h4 nD
  have c1m : ∀ {Ha Hb : Hp} {ck ck' : Cc}, Gr cm ck → SG ck ck' Ha Hb → Step c1 Ha Hb := fun g st => Step.to st.st (g.S.trans gm.S) (g.la.trans gm.la)
  by_cases hi : i < ws.length
  · have hw : ws[i]? = some ws[i] := List.getElem?_eq_getElem hi
    rw [List.drop_eq_getElem_cons hi] at h'
    obtain ⟨jg, jy⟩ := ji _ hw
    refine .inr ⟨jg, fun H2 => ∃ cm d' acc us, Gr (c1.more D) cm ∧ Step c1 H1 H2 ∧ EnvOk X.K Γ cm d' oa (wipeE ρ vs) (wipe σ vs) H2 ∧ H2 D = some (.lst us) ∧ RepL X.K cm H2 acc us ∧ us.length ≤ i + 1 ∧
      ((compX G tt fe (wipeE ρ vs) (ws.drop (i + 1))).bind fun xs => T.ok (W.lst (acc ++ xs))).AllW (PQ X.K c1 H1 Q) (PX X.K c1 H1 fun cls dx H' => E cls dx σ H') d', fun H2 h2 => ⟨ws.length - (i + 1), by omega, rfl, h2⟩, fun x H2 y => ?_⟩
    obtain ⟨st2, so2, rx⟩ := jy x H2 y
    have e2 := e'.step st2 so2
    have keep : ∀ {Ha Hb : Hp} {ck ck' : Cc}, Gr cm ck → SG ck ck' Ha Hb → ∀ {us}, Ha D = some (.lst us) → Hb D = some (.lst us) := fun g st us h => by
      have n0 := nstg g
      simp only [List.mem_cons, not_or] at n0
      exact st.st.keep _ _ h n0.1 n0.2.2.1 nofun
    unfold compX at h'
    cases g : G ws[i] (wipeE ρ vs) with
    | none =>
      rw [g] at h'
      exact h'.elim
    | some ρ1 =>
      rw [g] at h'
      refine ⟨cm, d', oa, wipeE ρ vs, ws[i], ρ1, e2, rx, g, fun σ3 b3 e3 => ⟨wipe_but b3 hs, cm, d', oa, ρ1, e3, ?_⟩⟩
      refine noX_all (T.AllW.imp (fun d4 b hb => ?_) (fun _ _ _ y => y) (T.allW_bind.mp (T.allW_bind.mp h')))
      intro c4 H4 st4 so4
      have e4 := e3.step st4 so4
      have e4' := e2.step st4 so4
      have hD4 := keep st4.g (.refl c4 H4) (keep (.refl cm) st4 (keep (.refl cm) st2 hD))
      have ra4 := (ra.step st2 e'.st e'.ok).step st4 e2.st e2.ok
      have stt4 : Step c1 H1 H4 := st'.trans ((c1m (.refl cm) st2).trans (c1m (.refl cm) st4))
      cases b with
      | false => exact iteF ⟨c4, d4, acc, us, gm.trans st4.g, stt4, e4', hD4, ra4, Nat.le_succ_of_le hl, T.allW_bind.mpr (show (compX G tt fe (wipeE ρ vs) (ws.drop (i + 1))).AllW _ _ d4 from hb)⟩
      | true =>
        refine iteT ⟨c4, d4, oa, ρ1, e4, ?_⟩
        refine T.AllW.imp (fun d5 w5 h5 => ?_) (fun d5 n5 fs5 y => ?_) (T.allW_bind.mp (show ((fe ρ1).bind fun x => (compX G tt fe (wipeE ρ vs) (ws.drop (i + 1))).bind fun xs => .ok (x :: xs)).AllW _ _ d4 from hb))
        rotate_left
        · intro c' cls dx H' st so rx
          obtain ⟨x1, d6, vs6, x2, x3, x4, x5⟩ := rx
          have gg := (gm.trans st4.g).trans st.g
          refine y (c' := { c' with A := c1.A }) cls dx H' ⟨gg.back, stt4.trans (c1m st4.g st)⟩ (so.back gg e1.ok) ⟨x1, d6, vs6, x2, x3, x4, ?_⟩
          exact RepL.weak (c := { c' with A := c1.A }) (c1 := c') rfl rfl (fun b hb => by rw [gg.A]; exact List.mem_cons_of_mem _ hb) x5
        intro c5 v5 H5 st5 so5 r5
        have e5 := e4'.step st5 so5
        have g5 := st4.g.trans st5.g
        have hD5 := keep st4.g st5 hD4
        have ra5 := ra4.step st5 e4'.st e4'.ok
        refine ⟨us, hD5, by omega, c5, d5, acc ++ [w5], us ++ [v5], gm.trans g5, (stt4.trans (c1m st4.g st5)).past nD, e5.upd (inA g5) (nstg g5) hD5 ho, upd_same, ?_, by rw [List.length_append]; exact Nat.succ_le_succ hl, ?_⟩
        · exact (ra5.append (.cons r5 .nil)).upd (inA g5) hD5 (fun _ z => by cases z) (fun _ _ z => by cases z)
        · have h6 := T.allW_bind.mp h5
          refine T.allW_bind.mpr (T.AllW.imp (fun d6 xs h7 => ?_) (fun _ _ _ y => y) h6)
          have e7 : acc ++ [w5] ++ xs = acc ++ w5 :: xs := by simp
          rw [e7]
          exact h7
  · rw [List.drop_eq_nil_of_le (by omega)] at h'
    refine .inl ⟨js (by omega), ?_⟩
    have h8 : PQ X.K c1 H1 Q d' (.lst (acc ++ [])) := h'
    rw [List.append_nil] at h8
    refine h8 _ H' ⟨gm.back, st'⟩ (e'.st.back gm e1.ok) (.lst (c := { cm with A := c1.A }) (e1.wd.fresh nD) hD ?_)
    exact RepL.weak (c := { cm with A := c1.A }) (c1 := cm) rfl rfl (fun b hb => by rw [gm.A]; exact List.mem_cons_of_mem _ hb) ra
abbrev EltE (Γ : Cl) (X : Cx) (sc : Scope) (E : WX) (elt : Expr) (fe : En → T W) : Prop := ∀ (σ : L2.St) (s : Shared) (H : Hp) (C : Addr) (cl : List (Str × Addr)) (fp : List Addr), TrE Γ (blkE X s H sc (compEnvC sc cl C X.env) fp fun cls dx _ H' => E cls dx σ H') (fun cls dx _ H' => E cls dx σ H') elt fe
theorem tr_lcE (hs : X.stack = X.env :: X.outer) (hf : X.env.frame = some X.env.locals) (tk : Takes X E) (hc : X.calm = true) (hN : X.N.Nodup) (hi : TrI Γ X E tg iter fi) (ok : BlkOk X.N X.env.scope scope own) (hn : ∀ i ∈ ns, i ∈ own.map (·.2))
    (hg : BlkE X scope E fun Y => TrG Γ Y tg ns G) (ht : BlkE X scope E fun Y => TrTs Γ Y ifs tt) (he : EltE Γ X scope E elt fe) (hfold : ∀ x, foldedSetIterable iter X.env x = pure x := by intro _; rfl) :
    TrE Γ X E (.ListComp elt [⟨tg, iter, ifs, 0⟩] scope pos) (fCompX (own.map (·.2)) fi G tt fe) := pe_imp (pe_lcE (W := E) (g := liftG X.K Γ ns G) (tt := liftB X.K Γ noW tt) (te := fun σ => liftE X.K Γ (fun cls dx _ H' => E cls dx σ H') fe) hs hf tk hc hN hi ok hg ht he hfold) (compX_ok hn)
theorem tr_setLcE {E : XK} {i : Nat} {y : Str} {py spos : Pos} (hs : X.stack = X.env :: X.outer) (hf : X.env.frame = some X.env.locals) (tk : Takes X (wOf E)) (hc : X.calm = true) (hN : X.N.Nodup) (hy : X.N[i]? = some y) (hyl : X.env.scope.names.lookup y = some .local)
    (hsw : swapsWith (.ListComp elt [⟨tg, iter, ifs, 0⟩] scope pos) (some (.Name y py)) spos.line X.env = pure true) (hi : TrI Γ X (wOf E) tg iter fi) (ok : BlkOk X.N X.env.scope scope own) (hn : ∀ i ∈ ns, i ∈ own.map (·.2))
    (hg : BlkE X scope (wOf E) fun Y => TrG Γ Y tg ns G) (ht : BlkE X scope (wOf E) fun Y => TrTs Γ Y ifs tt) (he : EltE Γ X scope (wOf E) elt fe) (hfold : ∀ x, foldedSetIterable iter X.env x = pure x := by intro _; rfl) :
    TrS Γ X E (.Assign [.Name y py] (.ListComp elt [⟨tg, iter, ifs, 0⟩] scope pos) spos) (sSet i (fCompX (own.map (·.2)) fi G tt fe)) := ps_imp (ps_setLcE (W := wOf E) (g := liftG X.K Γ ns G) (tt := liftB X.K Γ noW tt) (te := fun σ => liftE X.K Γ (fun cls dx _ H' => wOf E cls dx σ H') fe) hs hf tk hc hN hy hyl hsw hi ok hg ht he hfold) fun D σ H q => by
  obtain ⟨c, d, oa, ρ, e, q⟩ := q
  show tLc (liftI X.K Γ (wOf E) fi) (liftG X.K Γ ns G) (liftB X.K Γ noW tt) (liftE X.K Γ (fun cls dx _ H' => wOf E cls dx σ H') fe) (own.map (·.2)) σ H (fun v H1 => gName i v σ H1 D.nx)
  refine compX_ok (E := wOf E) hn σ H _ (lift_thenS (P := fun c H => PSq X.K Γ c H D) e q (fun st p => p.later (.of st e.wd)) fun w v H1 d1 _ r1 e1 h1 => ?_)
  exact h1 _ oa _ H1 .refl (e1.set r1)
end
end PF
namespace PF
open PySem PySem.Spec PyProof.Rows L2
section
variable {X : Cx} {E : WX} {x y : Str} {j : Nat} {pos : Pos} {ns : List Nat} {io : Option Nat}
theorem tr_strL (h : x = y) : TrE Γ X E (.Constant (.str x) j pos) (fun _ => .ok (.str y)) := by
  subst h
  exact tr_str
theorem trx_strL (h : x = y) : TrX X ns io (.Constant (.str x) j pos) (hC (.str y)) := by
  subst h
  exact trx_str
end
theorem cs_strL {K : PySem.W.Frag} {mg : Str → Option Value} {n x y : Str} (h : x = y) (c : CsIs K mg n (.str x)) : CsIs K mg n (.str y) := by
  subst h
  exact c
def isTy (k : Nat) : W → T W
  | .non => .ok (.bl false)
  | .bl _ => .ok (.bl (k == 0 || k == 1))
  | .int _ => .ok (.bl (k == 0))
  | .str _ => .ok (.bl (k == 2))
  | .tup _ => .ok (.bl (k == 3))
  | .lst _ => .ok (.bl (k == 4))
  | .dct _ _ => .ok (.bl (k == 5))
  | _ => .bad
theorem ty_int : isiW isInt = isTy 0 := by funext x; cases x <;> rfl
theorem ty_bool : isiW (isOnly "bool") = isTy 1 := by funext x; cases x <;> rfl
theorem ty_str : isiW (isOnly "str") = isTy 2 := by funext x; cases x <;> rfl
theorem ty_tuple : isiW (isOnly "tuple") = isTy 3 := by funext x; cases x <;> rfl
theorem ty_list : isiW (isOnly "list") = isTy 4 := by funext x; cases x <;> rfl
theorem ty_dict : isiW (isOnly "dict") = isTy 5 := by funext x; cases x <;> rfl
theorem tr_f1 {X : Cx} {E : WX} {e : Expr} {g g' : W → T W} {fa : En → T W} (h : g = g') (t : TrE Γ X E e (f1 g fa)) : TrE Γ X E e (f1 g' fa) := by
  subst h
  exact t
end PF
namespace PF
open PySem PySem.Spec PyProof.Rows L2
def spl (c : Nat) : List Nat → List Nat → List (List Nat)
  | acc, [] => [acc.reverse]
  | acc, x :: l => if x == c then acc.reverse :: spl c [] l else spl c (x :: acc) l
def jnL (sep : List Nat) : List (List Nat) → List Nat
  | [] => []
  | [p] => p
  | p :: q :: r => p ++ (sep ++ jnL sep (q :: r))
theorem spl_free {c : Nat} : ∀ (p acc : List Nat), c ∉ p → ∀ l, spl c acc (p ++ l) = spl c (p.reverse ++ acc) l
  | [], acc, _, l => rfl
  | x :: p, acc, h, l => by
    have hx : (x == c) = false := by
      have : x ≠ c := fun e => h (by rw [e]; exact List.mem_cons_self ..)
      simpa using this
    show (if x == c then _ else spl c (x :: acc) (p ++ l)) = _
    rw [hx, if_neg Bool.false_ne_true, spl_free p (x :: acc) (fun z => h (List.mem_cons_of_mem _ z)) l]
    simp
theorem spl_jn {c : Nat} : ∀ (ps : List (List Nat)), ps ≠ [] → (∀ p ∈ ps, c ∉ p) → spl c [] (jnL [c] ps) = ps
  | [], h, _ => (h rfl).elim
  | [p], _, f => by
    have h := spl_free p [] (f p (List.mem_cons_self ..)) []
    rw [List.append_nil] at h
    show spl c [] p = [p]
    rw [h]
    simp [spl]
  | p :: q :: r, _, f => by
    show spl c [] (p ++ ([c] ++ jnL [c] (q :: r))) = _
    rw [spl_free p [] (f p (List.mem_cons_self ..))]
    show (if c == c then (p.reverse ++ []).reverse :: spl c [] (jnL [c] (q :: r)) else _) = _
    rw [beq_self_eq_true, if_pos rfl, spl_jn (q :: r) (by simp) fun p hp => f p (List.mem_cons_of_mem _ hp)]
    simp
theorem join_list (sep : Str) : ∀ (ps : List Str), (Str.join sep ps).cps.toList = jnL sep.cps.toList (ps.map fun p => p.cps.toList)
  | [] => rfl
  | [p] => rfl
  | p :: q :: r => by
    show (p ++ sep ++ Str.join sep (q :: r)).cps.toList = _
    rw [Str.cps_append, Str.cps_append, Array.toList_append, Array.toList_append, join_list sep (q :: r), List.append_assoc]
    rfl
theorem mk_list (s : Str) : (⟨⟨s.cps.toList⟩⟩ : Str) = s := rfl
theorem split_list (x : Str) (c : Nat) : (Txt.split x ⟨⟨[c]⟩⟩).map (fun p => p.cps.toList) = spl c [] x.cps.toList := by
  have h1 := StrLaws.join_split x ⟨#[c]⟩
  have h2 := StrLaws.split_free x c
  have h3 := congrArg (fun s : Str => s.cps.toList) h1
  simp only [join_list] at h3
  have h3 : jnL [c] ((Txt.split x ⟨#[c]⟩).map fun p => p.cps.toList) = x.cps.toList := h3
  have ne : (Txt.split x ⟨#[c]⟩).map (fun p => p.cps.toList) ≠ [] := fun z => by
    have := PyProof.Rows.split_pos x ⟨#[c]⟩
    rw [List.map_eq_nil_iff.mp z] at this
    cases this
  rw [← h3]
  refine (spl_jn _ ne fun p hp => ?_).symm
  obtain ⟨q, hq, rfl⟩ := List.mem_map.mp hp
  exact h2 q hq
theorem split_eq (x : Str) (c : Nat) : Txt.split x ⟨⟨[c]⟩⟩ = (spl c [] x.cps.toList).map fun l => ⟨⟨l⟩⟩ := by
  rw [← split_list, List.map_map]
  exact (List.map_id _).symm
theorem join_eq (sep : Str) (ps : List Str) : Txt.join sep ps = ⟨⟨jnL sep.cps.toList (ps.map fun p => p.cps.toList)⟩⟩ := by
  show Builtin.Str.glued sep ps = _
  rw [StrLaws.glued_eq_join, ← join_list]
def splitF : W → List W → T W
  | .str a, [.str ⟨⟨[c]⟩⟩] => if decide (a.cps.toList.length + 2 ≤ 16777216) then .ok (.lst ((spl c [] a.cps.toList).map fun l => .str ⟨⟨l⟩⟩)) else .bad
  | x, y => splitW x y
theorem splitF_eq : splitW = splitF := by
  funext x y
  unfold splitF
  split
  · rename_i a c
    show (if (!((⟨⟨[c]⟩⟩ : Str).length == 0) && decide (a.length + 2 ≤ 16777216)) = true then T.ok (W.lst ((Txt.split a ⟨⟨[c]⟩⟩).map W.str)) else T.bad) = _
    rw [split_eq, List.map_map]
    rfl
  · rfl
def joinF : W → List W → T W
  | .str a, [.lst us] => match strsOf us with
    | some ys => if joinB a ys then .ok (.str ⟨⟨jnL a.cps.toList (ys.map fun p => p.cps.toList)⟩⟩) else .bad
    | none => .bad
  | .str a, [.tup us] => match strsOf us with
    | some ys => if joinB a ys then .ok (.str ⟨⟨jnL a.cps.toList (ys.map fun p => p.cps.toList)⟩⟩) else .bad
    | none => .bad
  | _, _ => .bad
theorem joinF_eq : joinW = joinF := by
  funext x y
  have key : ∀ (a : Str) (us : List W), (match strsOf us with
      | some ys => if joinB a ys then T.ok (W.str (Txt.join a ys)) else .bad
      | none => .bad) = (match strsOf us with
      | some ys => if joinB a ys then T.ok (W.str ⟨⟨jnL a.cps.toList (ys.map fun p => p.cps.toList)⟩⟩) else .bad
      | none => .bad : T W) := fun a us => by simp only [join_eq]
  cases x with
  | str a =>
    rcases y with _ | ⟨w, _ | ⟨_, _⟩⟩
    · rfl
    · cases w with
      | lst us => exact key a us
      | tup us => exact key a us
      | _ => rfl
    · cases w <;> rfl
  | _ => rfl
def addF : W → W → T W
  | .int i, .int j => .ok (.int (i + j))
  | .str x, .str y => if sz2 x.length y.length then .ok (.str ⟨⟨x.cps.toList ++ y.cps.toList⟩⟩) else .bad
  | .tup xs, .tup ys => if sz2 xs.length ys.length then .ok (.tup (xs ++ ys)) else .bad
  | .lst xs, .lst ys => if sz2 xs.length ys.length then .ok (.lst (xs ++ ys)) else .bad
  | _, _ => .bad
theorem str_app (x y : Str) : x ++ y = ⟨⟨x.cps.toList ++ y.cps.toList⟩⟩ := by
  apply Str.ext'
  apply Array.toList_inj.mp
  rw [Str.cps_append, Array.toList_append]
theorem addF_eq : addW = addF := by
  funext x y
  cases x with
  | str a =>
    cases y with
    | str b =>
      show (if sz2 a.length b.length then T.ok (W.str (a ++ b)) else .bad : T W) = _
      rw [str_app]
      rfl
    | _ => rfl
  | _ => cases y <;> rfl
def digL (n : Nat) : List Nat := if n < 10 then [48 + n] else [48 + n / 10, 48 + n % 10]
theorem dig_ok : ∀ n < 100, (toString (Int.ofNat n) : Str) = ⟨⟨digL n⟩⟩ := by decide +kernel
def strIF : List W → T W
  | [.int (.ofNat n)] => if n < 100 then .ok (.str ⟨⟨digL n⟩⟩) else strIW [.int (.ofNat n)]
  | x => strIW x
theorem log_ok {n : Nat} (h : n < 100) : (Int.ofNat n).natAbs.log2 < 1920 := by
  have h1 : (Int.ofNat n).natAbs = n := rfl
  rw [h1]
  have : n.log2 ≤ n := Nat.log2_le_self n
  omega
theorem strIF_eq : strIW = strIF := by
  funext x
  unfold strIF
  split
  · rename_i n
    split
    · rename_i h
      show (if decide ((Int.ofNat n).natAbs.log2 < 1920) = true then T.ok (W.str (Str.ofString (toString (Int.ofNat n)))) else T.bad) = _
      rw [decide_eq_true (log_ok h), if_pos rfl, dig_ok n h]
    · rfl
  · rfl
theorem int1_ok : ∀ n < 10, intText? (⟨⟨[48 + n]⟩⟩ : Str) = some (Int.ofNat n) := by decide +kernel
theorem int2_ok : ∀ n < 100, intText? (⟨⟨[48 + n / 10, 48 + n % 10]⟩⟩ : Str) = some (Int.ofNat n) := by decide +kernel
def intSF : List W → T W
  | [.str ⟨⟨[x]⟩⟩] => if 48 ≤ x ∧ x < 58 then .ok (.int (.ofNat (x - 48))) else intSW [.str ⟨⟨[x]⟩⟩]
  | [.str ⟨⟨[x, y]⟩⟩] => if 48 ≤ x ∧ x < 58 ∧ 48 ≤ y ∧ y < 58 then .ok (.int (.ofNat ((x - 48) * 10 + (y - 48)))) else intSW [.str ⟨⟨[x, y]⟩⟩]
  | x => intSW x
theorem intSF_eq : intSW = intSF := by
  funext z
  unfold intSF
  split
  · rename_i x
    split
    · rename_i h
      have e := int1_ok (x - 48) (by omega)
      rw [show 48 + (x - 48) = x by omega] at e
      show (match intText? (⟨⟨[x]⟩⟩ : Str) with
        | some n => if decide ((⟨⟨[x]⟩⟩ : Str).length ≤ 640) then T.ok (W.int n) else .bad
        | none => .bad) = _
      rw [e]
      rfl
    · rfl
  · rename_i x y
    split
    · rename_i h
      have e := int2_ok ((x - 48) * 10 + (y - 48)) (by omega)
      rw [show 48 + ((x - 48) * 10 + (y - 48)) / 10 = x by omega, show 48 + ((x - 48) * 10 + (y - 48)) % 10 = y by omega] at e
      show (match intText? (⟨⟨[x, y]⟩⟩ : Str) with
        | some n => if decide ((⟨⟨[x, y]⟩⟩ : Str).length ≤ 640) then T.ok (W.int n) else .bad
        | none => .bad) = _
      rw [e]
      rfl
    · rfl
  · rfl
section
variable {X : Cx} {E : WX} {e : Expr} {fa fb : En → T W} {fs : En → T (List W)}
theorem tr_f2 {g g' : W → W → T W} (h : g = g') (t : TrE Γ X E e (f2 g fa fb)) : TrE Γ X E e (f2 g' fa fb) := by
  subst h
  exact t
theorem tr_fL {g g' : List W → T W} (h : g = g') (t : TrE Γ X E e (fL fs g)) : TrE Γ X E e (fL fs g') := by
  subst h
  exact t
theorem tr_fBM {g g' : W → List W → T W} (h : g = g') (t : TrE Γ X E e (fBM g fa fs)) : TrE Γ X E e (fBM g' fa fs) := by
  subst h
  exact t
end
def fJoinOF (i : Nat) (fo : En → T W) : En → T W := fun ρ => (fo ρ).bind fun w => (strOnly w).bind fun _ => match ρ[i]? with
  | some (.own us) => joinF w [.lst us]
  | _ => .bad
theorem tr_joinOF {X : Cx} {E : WX} {e : Expr} {i : Nat} {fo : En → T W} (t : TrE Γ X E e (fJoinO i fo)) : TrE Γ X E e (fJoinOF i fo) := by
  have h : fJoinO i fo = fJoinOF i fo := by
    unfold fJoinO fJoinOF
    first
      | (rw [joinF_eq]; done)
      | (rw [joinF_eq]; funext ρ; rfl)
  rw [← h]
  exact t
end PF
namespace Lw
open PySem PySem.Spec PyProof.Rows L2 PF
def i_NUMBERS : List (Str × Int) := [(⟨⟨[115, 111, 117, 110, 100]⟩⟩, 0), (⟨⟨[107, 110, 111, 119, 110]⟩⟩, 1), (⟨⟨[115, 105, 103, 110]⟩⟩, 2), (⟨⟨[117, 110, 102, 105, 116]⟩⟩, 1), (⟨⟨[115, 117, 115, 112, 101, 99, 116]⟩⟩, 1), (⟨⟨[99, 97, 109, 101]⟩⟩, 1)]
def k_NUMBERS : List (Str × W) := kdI i_NUMBERS
def k_PRIMES : W := (.tup [(.int 11), (.int 13), (.int 17), (.int 19), (.int 23)])
def k_MOST_LETTERS : W := (.int 8)
def k_MOST_SHARE : W := (.int 6)
def k_MOST_ROOM : W := (.int 12)
def k_BLANK : W := (.str ⟨⟨[32]⟩⟩)
def k_LINE_END : W := (.str ⟨⟨[10]⟩⟩)
def k_NONE : W := (.str ⟨⟨[110, 111, 110, 101]⟩⟩)
def k_COLON : W := (.str ⟨⟨[58]⟩⟩)
def k_FIGURES : W := (.str ⟨⟨[48, 49, 50, 51, 52, 53, 54, 55, 56, 57]⟩⟩)
def k_MOST_FIGURES : W := (.int 4)
def k_SOUND : W := (.str ⟨⟨[115, 111, 117, 110, 100]⟩⟩)
def k_KNOWN : W := (.str ⟨⟨[107, 110, 111, 119, 110]⟩⟩)
def k_SIGN : W := (.str ⟨⟨[115, 105, 103, 110]⟩⟩)
def k_UNFIT : W := (.str ⟨⟨[117, 110, 102, 105, 116]⟩⟩)
def k_SUSPECT : W := (.str ⟨⟨[115, 117, 115, 112, 101, 99, 116]⟩⟩)
def k_CAME : W := (.str ⟨⟨[99, 97, 109, 101]⟩⟩)
def F_is_integer : List W → T W := defF 1 1 (sRet (fAndV (f1 (isTy 0) (gV 0)) (fNotV (f1 (isTy 1) (gV 0)))))
def F_is_between : List W → T W := defF 3 3 (sRet (fAndV (fL (fCons (gV 0) fNil) F_is_integer) (fCh leW leW (gV 1) (gV 0) (gV 2))))
def F_are_rising : List W → T W := defF 3 1 (sRet (fL (fCons (fComp [1, 2] (iL zpW (fCons (gV 0) (fCons (fSl (gV 0) (pSome (fun _ => .ok (.int 1))) pNo) fNil))) (goTup 2 (goCons (goName 1) (goCons (goName 2) goNil))) fYes (f2 ltW (gV 1) (gV 2))) fNil) allW))
def F_need_prime : List W → T W := defF 1 1 (sIf (fOr (fNot (fTru (fL (fCons (gV 0) fNil) F_is_integer))) (fBl (f2 ninW (gV 0) (fun _ => .ok k_PRIMES)))) (sRaise 4 (fCons (gV 0) fNil)) sNil)
def F_is_sign : List W → T W := defF 2 2 (sRet (fL (fCons (gV 1) (fCons (fun _ => .ok (.int 0)) (fCons (f2 subW (gV 0) (fun _ => .ok (.int 1))) fNil))) F_is_between))
def F_are_signs : List W → T W := defF 3 2 (sRet (fAndV (f1 (isTy 3) (gV 1)) (fL (fCons (fComp [2] (iOf tupW (gV 1)) (goName 2) fYes (fL (fCons (gV 0) (fCons (gV 2) fNil)) F_is_sign)) fNil) allW)))
def F_rest_of : List W → T W := defF 2 2 (sRet (f2 modW (fL (fCons (gV 1) fNil) intSF) (gV 0)))
def F_value_in : List W → T W := defF 5 3 (sSeq (sSet 3 (fun _ => .ok (.int 0))) (sSeq (sFor (iOf tupW (f1 backW (gV 1))) (goName 4) (sSet 3 (fL (fCons (gV 0) (fCons (f2 addF (f2 mulW (gV 3) (gV 2)) (gV 4)) fNil)) F_rest_of))) (sRet (gV 3))))
def F_inverse_in : List W → T W := defF 3 2 (sRet (f2 ixW (fComp [2] (iL rng2 (fCons (fun _ => .ok (.int 1)) (fCons (gV 0) fNil))) (goName 2) (fBl (f2 eqS (fL (fCons (gV 0) (fCons (f2 mulW (gV 2) (gV 1)) fNil)) F_rest_of) (fun _ => .ok (.int 1)))) (gV 2)) (fun _ => .ok (.int 0))))
def F_times_root : List W → T W := defF 6 3 (sSeq (sOwn 3 (fCons (fun _ => .ok (.int 0)) (fStar (gV 1) fNil))) (sSeq (sFor (iL enL (fCons (gV 1) fNil)) (goTup 2 (goCons (goName 4) (goCons (goName 5) goNil))) (sAt 3 (gV 4) (fL (fCons (gV 0) (fCons (f2 subW (fIxO 3 (gV 4)) (f2 mulW (gV 2) (gV 5))) fNil)) F_rest_of))) (onFrz 3 (sRet (gV 3)))))
def F_through_in : List W → T W := defF 12 2 (sSeq (sSet 2 (f2 mulL (fL (fCons (fun _ => .ok (.int 0)) fNil) mkLst) (fL (fCons (gV 1) fNil) lenW))) (sSeq (sFor (iOf tupW (gV 1)) (goTup 2 (goCons (goName 3) (goCons (goName 4) goNil))) (sSeq (sPar 5 6 (fCons (fL (fCons (fun _ => .ok (.int 1)) fNil) mkLst) (fCons (fun _ => .ok (.int 1)) fNil))) (sSeq (sFor (iOf tupW (gV 1)) (goTup 2 (goCons (goName 7) (goCons (goName 8) goNil))) (sIf (fBl (f2 neS (gV 7) (gV 3))) (sPar 5 6 (fCons (fL (fCons (gV 0) (fCons (gV 5) (fCons (gV 7) fNil))) F_times_root) (fCons (fL (fCons (gV 0) (fCons (f2 mulW (gV 6) (f2 subW (gV 3) (gV 7))) fNil)) F_rest_of) fNil))) sNil)) (sSeq (sSet 9 (fL (fCons (gV 0) (fCons (f2 mulW (gV 4) (fL (fCons (gV 0) (fCons (gV 6) fNil)) F_inverse_in)) fNil)) F_rest_of)) (sSet 2 (fComp [10, 11] (iL zpW (fCons (gV 2) (fCons (gV 5) fNil))) (goTup 2 (goCons (goName 10) (goCons (goName 11) goNil))) fYes (fL (fCons (gV 0) (fCons (f2 addF (gV 10) (f2 mulW (gV 9) (gV 11))) fNil)) F_rest_of))))))) (sRet (fL (fCons (gV 2) fNil) tupOfW))))
def F_is_laying : List W → T W := defF 2 1 (sSeq (sIf (fOr (fNot (fTru (f1 (isTy 3) (gV 0)))) (fNot (fBl (fCh leW leW (fun _ => .ok (.int 1)) (fL (fCons (gV 0) fNil) lenW) (fun _ => .ok k_MOST_LETTERS))))) (sRet (fun _ => .ok (.bl false))) sNil) (sRet (fAndV (fL (fCons (fComp [1] (iOf tupW (gV 0)) (goName 1) fYes (fL (fCons (gV 1) (fCons (fun _ => .ok (.int 0)) (fCons (fun _ => .ok k_MOST_SHARE) fNil))) F_is_between)) fNil) allW) (f2 leW (fL (fCons (gV 0) fNil) sumW) (fun _ => .ok k_MOST_ROOM)))))
def F_need_laying : List W → T W := defF 1 1 (sSeq (sIf (fNot (fTru (fL (fCons (gV 0) fNil) F_is_laying))) (sRaise 6 (fCons (gV 0) fNil)) sNil) (sRet (gV 0)))
def F_profile_in : List W → T W := defF 5 1 (sSeq (sOwnPar 1 2 (fCons (fun _ => .ok (.int 0)) fNil)) (sSeq (sFor (iL enT (fCons (gV 0) fNil)) (goTup 2 (goCons (goName 3) (goCons (goName 4) goNil))) (sSeq (sSet 2 (f2 addF (gV 2) (f2 mulW (f2 addF (gV 3) (fun _ => .ok (.int 1))) (gV 4)))) (sApp 1 (fCons (gV 2) fNil)))) (onFrz 1 (sRet (gV 1)))))
def F_needs_in : List W → T W := defF 4 1 (sSeq (sSet 1 (fL fNil mkLst)) (sSeq (sFor (iL enT (fCons (gV 0) fNil)) (goTup 2 (goCons (goName 2) (goCons (goName 3) goNil))) (sSet 1 (f2 addF (gV 1) (f2 mulL (fL (fCons (f2 addF (gV 2) (fun _ => .ok (.int 1))) fNil) mkLst) (fL (fCons (gV 3) fNil) intSF))))) (sRet (gV 1))))
def F_is_pair : List W → T W := defF 3 3 (sSeq (sIf (fOr (fNot (fTru (f1 (isTy 3) (gV 2)))) (fOr (fBl (f2 neS (fL (fCons (gV 2) fNil) lenW) (fun _ => .ok (.int 2)))) (fNot (fTru (fL (fCons (f2 ixW (gV 2) (fun _ => .ok (.int 0))) (fCons (fun _ => .ok (.int 0)) (fCons (f2 subW (fL (fCons (gV 1) fNil) lenW) (fun _ => .ok (.int 1))) fNil))) F_is_between))))) (sRet (fun _ => .ok (.bl false))) sNil) (sRet (fAndV (fL (fCons (gV 0) (fCons (f2 ixW (gV 2) (fun _ => .ok (.int 1))) fNil)) F_are_signs) (f2 eqS (fL (fCons (f2 ixW (gV 2) (fun _ => .ok (.int 1))) fNil) lenW) (fL (fCons (gV 1) fNil) sumW)))))
def F_need_mail_of : List W → T W := defF 4 3 (sSeq (sIf (fOr (fNot (fTru (f1 (isTy 3) (gV 2)))) (fNot (fTru (fL (fCons (fComp [3] (iOf tupW (gV 2)) (goName 3) fYes (fL (fCons (gV 0) (fCons (gV 1) (fCons (gV 3) fNil))) F_is_pair)) fNil) allW)))) (sRaise 7 (fCons (gV 2) fNil)) sNil) (sIf (fNot (fTru (fL (fCons (fComp [3] (iOf tupW (gV 2)) (goName 3) fYes (f2 ixW (gV 3) (fun _ => .ok (.int 0)))) fNil) F_are_rising))) (sRaise 7 (fCons (gV 2) fNil)) sNil))
def F_need_mail : List W → T W := defF 3 3 (sSeq (sExpr (fL (fCons (gV 0) fNil) F_need_prime)) (sSeq (sExpr (fL (fCons (gV 1) fNil) F_need_laying)) (sSeq (sExpr (fL (fCons (gV 0) (fCons (gV 1) (fCons (gV 2) fNil))) F_need_mail_of)) (sRet (gV 2)))))
def F_points_at : List W → T W := defF 4 2 (sRet (fComp [2, 3] (iOf tupW (gV 0)) (goTup 2 (goCons (goName 2) (goCons (goName 3) goNil))) fYes (fL (fCons (f2 addF (gV 2) (fun _ => .ok (.int 1))) (fCons (f2 ixW (gV 3) (gV 1)) fNil)) mkTup)))
def F_fits_at : List W → T W := defF 8 4 (sSeq (sSet 4 (fL (fCons (gV 1) (fCons (gV 2) fNil)) F_points_at)) (sSeq (sIf (fBl (f2 leW (fL (fCons (gV 4) fNil) lenW) (gV 3))) (sRet (fun _ => .ok (.bl true))) sNil) (sSeq (sSet 5 (fL (fCons (gV 0) (fCons (fL (fCons (fSl (gV 4) pNo (pSome (gV 3))) fNil) tupOfW) fNil)) F_through_in)) (sRet (fL (fCons (fComp [6, 7] (iOf lstW (fSl (gV 4) (pSome (gV 3)) pNo)) (goTup 2 (goCons (goName 6) (goCons (goName 7) goNil))) fYes (f2 eqS (fL (fCons (gV 0) (fCons (gV 5) (fCons (gV 6) fNil))) F_value_in) (gV 7))) fNil) allW)))))
def F_unfit_in : List W → T W := defF 6 3 (sSeq (sOwnD 3) (sSeq (sFor (iL enL (fCons (fL (fCons (gV 1) fNil) F_needs_in) fNil)) (goTup 2 (goCons (goName 4) (goCons (goName 5) goNil))) (sIf (fNot (fTru (fL (fCons (gV 0) (fCons (gV 2) (fCons (gV 4) (fCons (gV 5) fNil)))) F_fits_at))) (sDPutO 3 (gV 5) (fun _ => .ok (.bl true))) sNil)) (onFrz 3 (sRet (fL (fCons (gV 3) fNil) sortedD)))))
def F_read_in : List W → T W := defF 6 3 (sSeq (sSet 3 (fL fNil mkTup)) (sSeq (sFor (iL enL (fCons (fL (fCons (gV 1) fNil) F_needs_in) fNil)) (goTup 2 (goCons (goName 4) (goCons (goName 5) goNil))) (sIf (fBl (f2 leW (gV 5) (fL (fCons (gV 2) fNil) lenW))) (sSet 3 (f2 addF (gV 3) (fL (fCons (gV 0) (fCons (fL (fCons (fSl (fL (fCons (gV 2) (fCons (gV 4) fNil)) F_points_at) pNo (pSome (gV 5))) fNil) tupOfW) fNil)) F_through_in))) sNil)) (sRet (gV 3))))
def F_suspects_in : List W → T W := defF 8 3 (sSeq (sIf (fBl (f2 eqS (fL (fCons (gV 0) (fCons (gV 1) (fCons (gV 2) fNil))) F_unfit_in) (fL fNil mkLst))) (sRet (fL fNil mkLst)) sNil) (sSeq (sOwn 3 fNil) (sSeq (sFor (iOf tupW (gV 2)) (goTup 2 (goCons (goName 4) (goCons (goName 5) goNil))) (sSeq (sSet 6 (fL (fCons (fComp [7] (iOf tupW (gV 2)) (goName 7) (fBl (f2 neS (f2 ixW (gV 7) (fun _ => .ok (.int 0))) (gV 4))) (gV 7)) fNil) tupOfW)) (sIf (fBl (f2 eqS (fL (fCons (gV 0) (fCons (gV 1) (fCons (gV 6) fNil))) F_unfit_in) (fL fNil mkLst))) (sApp 3 (fCons (gV 4) fNil)) sNil))) (onFrz 3 (sRet (gV 3))))))
def F_lines_in : List W → T W := defF 2 1 (sSeq (sIf (fNot (fTru (f1 (isTy 2) (gV 0)))) (sRaise2 22 (fCons (fun _ => .ok .non) (fCons (fun _ => .ok .non) fNil))) sNil) (sRet (fComp [1] (iOf lstW (fBM splitF (gV 0) (fCons (fun _ => .ok k_LINE_END) fNil))) (goName 1) fYes (fBM splitF (gV 1) (fCons (fun _ => .ok k_BLANK) fNil)))))
def F_Words__is_over : List W → T W := defF 1 1 (sRet (f2 eqS (fun ρ => ((gV 0) ρ).bind (getW 0 2)) (fL (fCons (fun ρ => ((gV 0) ρ).bind (getW 0 0)) fNil) lenW)))
def F_Words__next_word : List W → T W := defF 1 1 (sRet (fIf (fTru (fMeth0 0 F_Words__is_over (gV 0))) (fun _ => .ok (.str ⟨⟨[]⟩⟩)) (f2 ixW (fun ρ => ((gV 0) ρ).bind (getW 0 0)) (fun ρ => ((gV 0) ρ).bind (getW 0 2)))))
def F_Words__refuse : List W → T W := defF 1 1 (sRaise2 22 (fCons (fun ρ => ((gV 0) ρ).bind (getW 0 1)) (fCons (fun ρ => ((gV 0) ρ).bind (getW 0 2)) fNil)))
def F_Words__read_word : List W → T W := defF 3 2 (sSeq (sSet 2 (fMeth0 0 F_Words__next_word (gV 0))) (sSeq (sIf (fBl (f2 ninW (gV 2) (gV 1))) (sExpr (fMeth0 0 F_Words__refuse (gV 0))) sNil) (sSeq (sPut 0 2 (gV 0) (f2 addF (fun ρ => ((gV 0) ρ).bind (getW 0 2)) (fun _ => .ok (.int 1)))) (sRet (gV 2)))))
def F_Words__need_over : List W → T W := defF 1 1 (sIf (fNot (fTru (fMeth0 0 F_Words__is_over (gV 0)))) (sExpr (fMeth0 0 F_Words__refuse (gV 0))) sNil)
def F_Words__read_number : List W → T W := defF 3 1 (sSeq (sSet 1 (fMeth0 0 F_Words__next_word (gV 0))) (sSeq (sIf (fOr (fNot (fBl (fCh leW leW (fun _ => .ok (.int 1)) (fL (fCons (gV 1) fNil) lenW) (fun _ => .ok k_MOST_FIGURES)))) (fNot (fTru (fL (fCons (fComp [2] (iOf chrW (gV 1)) (goName 2) fYes (f2 inS (gV 2) (fun _ => .ok k_FIGURES))) fNil) allW)))) (sExpr (fMeth0 0 F_Words__refuse (gV 0))) sNil) (sSeq (sIf (fAnd (fBl (f2 gtW (fL (fCons (gV 1) fNil) lenW) (fun _ => .ok (.int 1)))) (fBl (f2 eqS (f2 ixW (gV 1) (fun _ => .ok (.int 0))) (fun _ => .ok (.str ⟨⟨[48]⟩⟩))))) (sExpr (fMeth0 0 F_Words__refuse (gV 0))) sNil) (sSeq (sPut 0 2 (gV 0) (f2 addF (fun ρ => ((gV 0) ρ).bind (getW 0 2)) (fun _ => .ok (.int 1)))) (sRet (fL (fCons (gV 1) fNil) intSF))))))
def F_Words__read_numbers : List W → T W := defF 3 2 (sSeq (sOwn 2 (fCons (fMeth0 0 F_Words__read_number (gV 0)) fNil)) (sSeq (sWhile (fun _ => 1000000) (fAnd (fNot (fTru (fMeth0 0 F_Words__is_over (gV 0)))) (fBl (f2 ltW (fLenO 2) (gV 1)))) (sApp 2 (fCons (fMeth0 0 F_Words__read_number (gV 0)) fNil))) (sSeq (sExpr (fMeth0 0 F_Words__need_over (gV 0))) (onFrz 2 (sRet (fL (fCons (gV 2) fNil) tupOfW))))))
def F_Words__read_some : List W → T W := defF 2 2 (sSeq (sIf (fBl (f2 eqS (fMeth0 0 F_Words__next_word (gV 0)) (fun _ => .ok k_NONE))) (sSeq (sPut 0 2 (gV 0) (f2 addF (fun ρ => ((gV 0) ρ).bind (getW 0 2)) (fun _ => .ok (.int 1)))) (sSeq (sExpr (fMeth0 0 F_Words__need_over (gV 0))) (sRet (fL fNil mkTup)))) sNil) (sRet (fMeth 0 F_Words__read_numbers (gV 0) (fCons (gV 1) fNil))))
def F_letter_in : List W → T W := defF 1 1 (sSeq (sExpr (fMeth 0 F_Words__read_word (gV 0) (fCons (fL (fCons (fun _ => .ok k_COLON) fNil) mkTup) fNil))) (sRet (fMeth 0 F_Words__read_some (gV 0) (fCons (fun _ => .ok k_MOST_ROOM) fNil))))
def F_Words____init__ : List W → T W := defF 3 3 (sSeq (sPut 0 0 (gV 0) (gV 1)) (sSeq (sPut 0 1 (gV 0) (gV 2)) (sPut 0 2 (gV 0) (fun _ => .ok (.int 0)))))
def F_pair_in : List W → T W := defF 4 2 (sSeq (sSet 2 (fNew 0 F_Words____init__ (fCons (gV 0) (fCons (gV 1) fNil)))) (sSeq (sSet 3 (fMeth0 0 F_Words__read_number (gV 2))) (sRet (fL (fCons (gV 3) (fCons (fL (fCons (gV 2) fNil) F_letter_in) fNil)) mkTup))))
def F_number_in : List W → T W := defF 2 2 (sRet (f2 ixW (fMeth 0 F_Words__read_numbers (fNew 0 F_Words____init__ (fCons (gV 0) (fCons (gV 1) fNil))) (fCons (fun _ => .ok (.int 1)) fNil)) (fun _ => .ok (.int 0))))
def F_saying_in : List W → T W := defF 5 2 (sSeq (sSet 2 (fNew 0 F_Words____init__ (fCons (gV 0) (fCons (gV 1) fNil)))) (sSeq (sOwn 3 (fCons (fMeth 0 F_Words__read_word (gV 2) (fCons (fun _ => .ok (.tup ((keysL k_NUMBERS).map W.str))) fNil)) fNil)) (sSeq (sFor (iL rng1 (fCons (f1 (kdW k_NUMBERS) (fIxO 3 (fun _ => .ok (.int 0)))) fNil)) (goName 4) (sApp 3 (fCons (fMeth0 0 F_Words__read_number (gV 2)) fNil))) (sSeq (sExpr (fMeth0 0 F_Words__need_over (gV 2))) (onFrz 3 (sRet (gV 3)))))))
def F_Words__refuse_last : List W → T W := defF 1 1 (sRaise2 22 (fCons (fun ρ => ((gV 0) ρ).bind (getW 0 1)) (fCons (f2 subW (fun ρ => ((gV 0) ρ).bind (getW 0 2)) (fun _ => .ok (.int 1))) fNil)))
def F_count_in : List W → T W := defF 4 2 (sSeq (sSet 2 (fNew 0 F_Words____init__ (fCons (gV 0) (fCons (gV 1) fNil)))) (sSeq (sSet 3 (fMeth0 0 F_Words__read_number (gV 2))) (sSeq (sIf (fBl (f2 gtW (gV 3) (fun _ => .ok k_MOST_LETTERS))) (sExpr (fMeth0 0 F_Words__refuse_last (gV 2))) sNil) (sSeq (sExpr (fMeth0 0 F_Words__need_over (gV 2))) (sRet (gV 3))))))
def F_parts_in : List W → T W := defF 9 1 (sSeq (sSet 1 (fL (fCons (gV 0) fNil) F_lines_in)) (sSeq (sSet 2 (fL (fCons (f2 ixW (gV 1) (fun _ => .ok (.int 0))) (fCons (fun _ => .ok (.int 0)) fNil)) F_number_in)) (sSeq (sIf (fBl (f2 eqS (fL (fCons (gV 1) fNil) lenW) (fun _ => .ok (.int 1)))) (sRaise2 22 (fCons (fun _ => .ok (.int 1)) (fCons (fun _ => .ok (.int 0)) fNil))) sNil) (sSeq (sSet 3 (fMeth 0 F_Words__read_numbers (fNew 0 F_Words____init__ (fCons (f2 ixW (gV 1) (fun _ => .ok (.int 1))) (fCons (fun _ => .ok (.int 1)) fNil))) (fCons (fun _ => .ok k_MOST_LETTERS) fNil))) (sSeq (sIf (fBl (f2 eqS (fL (fCons (gV 1) fNil) lenW) (fun _ => .ok (.int 2)))) (sRaise2 22 (fCons (fun _ => .ok (.int 2)) (fCons (fun _ => .ok (.int 0)) fNil))) sNil) (sSeq (sSet 4 (fL (fCons (f2 ixW (gV 1) (fun _ => .ok (.int 2))) (fCons (fun _ => .ok (.int 2)) fNil)) F_count_in)) (sSeq (sSet 5 (fL (fCons (fCompX [7, 8] (iL enL (fCons (fSl (gV 1) (pSome (fun _ => .ok (.int 3))) (pSome (f2 addF (fun _ => .ok (.int 3)) (gV 4)))) fNil)) (goTup 2 (goCons (goName 7) (goCons (goName 8) goNil))) fYes (fL (fCons (gV 8) (fCons (f2 addF (gV 7) (fun _ => .ok (.int 3))) fNil)) F_pair_in)) fNil) tupOfW)) (sSeq (sIf (fBl (f2 ltW (fL (fCons (gV 5) fNil) lenW) (gV 4))) (sRaise2 22 (fCons (fL (fCons (gV 1) fNil) lenW) (fCons (fun _ => .ok (.int 0)) fNil))) sNil) (sSeq (sSet 6 (fCompX [7, 8] (iL enL (fCons (fSl (gV 1) (pSome (f2 addF (fun _ => .ok (.int 3)) (gV 4))) pNo) fNil)) (goTup 2 (goCons (goName 7) (goCons (goName 8) goNil))) fYes (fL (fCons (gV 8) (fCons (f2 addF (f2 addF (gV 7) (fun _ => .ok (.int 3))) (gV 4)) fNil)) F_saying_in))) (sRet (fL (fCons (gV 2) (fCons (gV 3) (fCons (gV 5) (fCons (gV 6) fNil)))) mkTup)))))))))))
def F_is_so : List W → T W := defF 8 4 (sSeq (sPar 4 5 (fCons (f2 ixW (gV 3) (fun _ => .ok (.int 0))) (fCons (fL (fCons (gV 0) (fCons (gV 1) (fCons (gV 2) fNil))) F_unfit_in) fNil))) (sSeq (sIf (fBl (f2 eqS (gV 4) (fun _ => .ok k_SOUND))) (sRet (f2 eqS (gV 5) (fL fNil mkLst))) sNil) (sSeq (sIf (fBl (f2 eqS (gV 4) (fun _ => .ok k_KNOWN))) (sRet (f2 eqS (f2 ixW (gV 3) (fun _ => .ok (.int 1))) (f2 ixW (f2 addF (fL (fCons (fun _ => .ok (.int 0)) fNil) mkLst) (fL (fCons (gV 1) fNil) F_profile_in)) (fL (fCons (gV 2) fNil) lenW)))) sNil) (sSeq (sIf (fBl (f2 eqS (gV 4) (fun _ => .ok k_SIGN))) (sSeq (sIf (fBl (f2 neS (gV 5) (fL fNil mkLst))) (sRet (fun _ => .ok (.bl false))) sNil) (sSeq (sSet 6 (fL (fCons (gV 0) (fCons (gV 1) (fCons (gV 2) fNil))) F_read_in)) (sRet (fAndV (f2 ltW (f2 ixW (gV 3) (fun _ => .ok (.int 1))) (fL (fCons (gV 6) fNil) lenW)) (f2 eqS (f2 ixW (gV 6) (f2 ixW (gV 3) (fun _ => .ok (.int 1)))) (f2 ixW (gV 3) (fun _ => .ok (.int 2)))))))) sNil) (sSeq (sIf (fBl (f2 eqS (gV 4) (fun _ => .ok k_UNFIT))) (sRet (f2 inS (f2 ixW (gV 3) (fun _ => .ok (.int 1))) (gV 5))) sNil) (sSeq (sIf (fBl (f2 eqS (gV 4) (fun _ => .ok k_SUSPECT))) (sRet (f2 inS (f2 ixW (gV 3) (fun _ => .ok (.int 1))) (fL (fCons (gV 0) (fCons (gV 1) (fCons (gV 2) fNil))) F_suspects_in))) sNil) (sRet (f2 inS (f2 ixW (gV 3) (fun _ => .ok (.int 1))) (fComp [7] (iOf tupW (gV 2)) (goName 7) fYes (f2 ixW (gV 7) (fun _ => .ok (.int 0))))))))))))
def F_judged : List W → T W := defF 6 1 (sSeq (sAsg (fL (fCons (gV 0) fNil) F_parts_in) (goTup 4 (goCons (goName 1) (goCons (goName 2) (goCons (goName 3) (goCons (goName 4) goNil)))))) (sSeq (sExpr (fL (fCons (gV 1) fNil) F_need_prime)) (sSeq (sExpr (fL (fCons (gV 2) fNil) F_need_laying)) (sSeq (sExpr (fL (fCons (gV 1) (fCons (gV 2) (fCons (gV 3) fNil))) F_need_mail)) (sRet (fL (fCons (fComp [5] (iOf lstW (gV 4)) (goName 5) fYes (fL (fCons (gV 1) (fCons (gV 2) (fCons (gV 3) (fCons (gV 5) fNil)))) F_is_so)) fNil) tupOfW))))))
def F__law_mixed : List W → T W := defF 2 2 (sSeq (sSet 0 (f2 modW (fL (fCons (gV 0) fNil) intW) (fun _ => .ok (.int 2147483647)))) (sRet (f2 modW (f2 mulW (f2 modW (f2 addW (f2 addW (f2 mulW (gV 0) (f2 addW (fun _ => .ok (.int 48271)) (f2 mulW (f2 mulW (fun _ => .ok (.int 2)) (gV 1)) (gV 1)))) (f2 mulW (fun _ => .ok (.int 69621)) (gV 1))) (fun _ => .ok (.int 11))) (fun _ => .ok (.int 2147483647))) (fun _ => .ok (.int 69621))) (fun _ => .ok (.int 2147483629)))))
def mixv (c k : Int) : Int := ((c % 2147483647) * (48271 + 2 * k * k) + 69621 * k + 11) % 2147483647 * 69621 % 2147483629
theorem mix_run {c k : Int} (h0 : 0 ≤ k) (h1 : k ≤ 2 ^ 61) : F__law_mixed [.int c, .int k] = .ok (.int (mixv c k)) := by
  have hc0 : 0 ≤ c % 2147483647 := Int.emod_nonneg _ (by decide)
  have hc1 : c % 2147483647 < 2147483647 := Int.emod_lt_of_pos _ (by decide)
  have m1 : mulOk 2 k = true := mulOk_of (a := 2) (b := 62) (by decide) (by omega) (by decide) (by decide) (by decide)
  have m2 : mulOk (2 * k) k = true := mulOk_of (a := 64) (b := 62) (by omega) (by omega) (by decide) (by decide) (by decide)
  have hkk : (2 * k * k).natAbs < 2 ^ 126 := wide_lt (a := 64) (b := 62) (by omega) (by omega)
  have m3 : mulOk (c % 2147483647) (48271 + 2 * k * k) = true := mulOk_of (a := 32) (b := 127) (by omega) (by omega) (by decide) (by decide) (by decide)
  have m4 : mulOk 69621 k = true := mulOk_of (a := 20) (b := 62) (by decide) (by omega) (by decide) (by decide) (by decide)
  have hr0 : 0 ≤ ((c % 2147483647) * (48271 + 2 * k * k) + 69621 * k + 11) % 2147483647 := Int.emod_nonneg _ (by decide)
  have hr1 : ((c % 2147483647) * (48271 + 2 * k * k) + 69621 * k + 11) % 2147483647 < 2147483647 := Int.emod_lt_of_pos _ (by decide)
  have m5 : mulOk (((c % 2147483647) * (48271 + 2 * k * k) + 69621 * k + 11) % 2147483647) 69621 = true := mulOk_of (a := 32) (b := 20) (by omega) (by decide) (by decide) (by decide) (by decide)
  simp [F__law_mixed, defF, startE, endOf, m1, m2, m3, m4, m5, mixv]
theorem mixv_lt (c k : Int) : 0 ≤ mixv c k ∧ mixv c k < 2147483629 := ⟨Int.emod_nonneg _ (by decide), Int.emod_lt_of_pos _ (by decide)⟩
def N__law_heard : List Nat := [4, 6, 7, 22]
def H__law_heard : List Hd := [⟨(fun n => [22].contains n), some 1, (hL (hCons (hC (.str ⟨⟨[116, 101, 120, 116]⟩⟩)) (hCons (hF 0) (hCons (hF 1) hNil))) mkTup)⟩, ⟨(fun n => [4].contains n), some 1, (hL (hCons (hC (.str ⟨⟨[112, 114, 105, 109, 101]⟩⟩)) (hCons (hF 0) hNil)) mkTup)⟩, ⟨(fun n => [6].contains n), some 1, (hL (hCons (hC (.str ⟨⟨[108, 97, 121, 105, 110, 103]⟩⟩)) (hCons (hF 0) hNil)) mkTup)⟩, ⟨(fun n => [7].contains n), some 1, (hL (hCons (hC (.str ⟨⟨[109, 97, 105, 108]⟩⟩)) (hCons (hF 0) hNil)) mkTup)⟩]
def L__law_heard (fb : En → T W) : En → T W := fHear wrL N__law_heard H__law_heard fb
def cap__law_refused_right : Str → List Nat → Option (List Nat) := slotR "_law_refused_right" [([1, 0, 0, 0, 0, 0, 0], [2]), ([1, 13, 0, 0, 0, 0, 0], [3])]
def F__law_refused_right : List W → T W := defL 4 0 (sSeq (sFor (iOf tupW (fL (fCons (fun _ => .ok .non) (fCons (fun _ => .ok (.int 5)) (fCons (fun _ => .ok (.bl true)) (fCons (fL fNil mkTup) (fCons (fL (fCons (fun _ => .ok (.str ⟨⟨[49, 49]⟩⟩)) fNil) mkLst) fNil))))) mkTup)) (goName 2) (sIf (fBl (f2 neS (L__law_heard (fL (fCons (gV 2) fNil) F_judged)) (fL (fCons (fun _ => .ok (.str ⟨⟨[116, 101, 120, 116]⟩⟩)) (fCons (fun _ => .ok .non) (fCons (fun _ => .ok .non) fNil))) mkTup))) (sRet (fun _ => .ok (.bl false))) sNil)) (sSeq (sOwn 0 (fCons (fL (fCons (fun _ => .ok (.str ⟨⟨[]⟩⟩)) (fCons (fL (fCons (fun _ => .ok (.str ⟨⟨[116, 101, 120, 116]⟩⟩)) (fCons (fun _ => .ok (.int 0)) (fCons (fun _ => .ok (.int 0)) fNil))) mkTup) fNil)) mkTup) (fCons (fL (fCons (fun _ => .ok (.str ⟨⟨[49, 49]⟩⟩)) (fCons (fL (fCons (fun _ => .ok (.str ⟨⟨[116, 101, 120, 116]⟩⟩)) (fCons (fun _ => .ok (.int 1)) (fCons (fun _ => .ok (.int 0)) fNil))) mkTup) fNil)) mkTup) (fCons (fL (fCons (fun _ => .ok (.str ⟨⟨[49, 49, 32, 49]⟩⟩)) (fCons (fL (fCons (fun _ => .ok (.str ⟨⟨[116, 101, 120, 116]⟩⟩)) (fCons (fun _ => .ok (.int 0)) (fCons (fun _ => .ok (.int 1)) fNil))) mkTup) fNil)) mkTup) (fCons (fL (fCons (fun _ => .ok (.str ⟨⟨[49, 49, 10, 49]⟩⟩)) (fCons (fL (fCons (fun _ => .ok (.str ⟨⟨[116, 101, 120, 116]⟩⟩)) (fCons (fun _ => .ok (.int 2)) (fCons (fun _ => .ok (.int 0)) fNil))) mkTup) fNil)) mkTup) fNil))))) (sSeq (onFrz 0 (sOwnAdd 0 (gV 0) (fL (fCons (fL (fCons (fun _ => .ok (.str ⟨⟨[49, 49, 10, 110, 111, 110, 101]⟩⟩)) (fCons (fL (fCons (fun _ => .ok (.str ⟨⟨[116, 101, 120, 116]⟩⟩)) (fCons (fun _ => .ok (.int 1)) (fCons (fun _ => .ok (.int 0)) fNil))) mkTup) fNil)) mkTup) (fCons (fL (fCons (fun _ => .ok (.str ⟨⟨[49, 49, 10, 49, 10]⟩⟩)) (fCons (fL (fCons (fun _ => .ok (.str ⟨⟨[116, 101, 120, 116]⟩⟩)) (fCons (fun _ => .ok (.int 2)) (fCons (fun _ => .ok (.int 0)) fNil))) mkTup) fNil)) mkTup) (fCons (fL (fCons (fun _ => .ok (.str ⟨⟨[49, 49, 10, 49, 10, 57]⟩⟩)) (fCons (fL (fCons (fun _ => .ok (.str ⟨⟨[116, 101, 120, 116]⟩⟩)) (fCons (fun _ => .ok (.int 2)) (fCons (fun _ => .ok (.int 0)) fNil))) mkTup) fNil)) mkTup) fNil))) mkLst))) (sSeq (onFrz 0 (sOwnAdd 0 (gV 0) (fL (fCons (fL (fCons (fun _ => .ok (.str ⟨⟨[49, 49, 10, 49, 10, 49]⟩⟩)) (fCons (fL (fCons (fun _ => .ok (.str ⟨⟨[116, 101, 120, 116]⟩⟩)) (fCons (fun _ => .ok (.int 3)) (fCons (fun _ => .ok (.int 0)) fNil))) mkTup) fNil)) mkTup) (fCons (fL (fCons (fun _ => .ok (.str ⟨⟨[49, 49, 10, 49, 10, 48, 32, 48]⟩⟩)) (fCons (fL (fCons (fun _ => .ok (.str ⟨⟨[116, 101, 120, 116]⟩⟩)) (fCons (fun _ => .ok (.int 2)) (fCons (fun _ => .ok (.int 1)) fNil))) mkTup) fNil)) mkTup) fNil)) mkLst))) (sSeq (sApp 0 (fCons (fL (fCons (fun _ => .ok (.str ⟨⟨[49, 49, 10, 49, 10, 49, 10, 48, 32, 58, 32, 49, 10]⟩⟩)) (fCons (fL (fCons (fun _ => .ok (.str ⟨⟨[116, 101, 120, 116]⟩⟩)) (fCons (fun _ => .ok (.int 4)) (fCons (fun _ => .ok (.int 0)) fNil))) mkTup) fNil)) mkTup) fNil)) (sSeq (onFrz 0 (sOwnAdd 0 (gV 0) (fL (fCons (fL (fCons (fun _ => .ok (.str ⟨⟨[49, 49, 10, 49, 10, 48, 10, 115, 111, 117, 110, 100, 32, 49]⟩⟩)) (fCons (fL (fCons (fun _ => .ok (.str ⟨⟨[116, 101, 120, 116]⟩⟩)) (fCons (fun _ => .ok (.int 3)) (fCons (fun _ => .ok (.int 1)) fNil))) mkTup) fNil)) mkTup) (fCons (fL (fCons (fun _ => .ok (.str ⟨⟨[49, 49, 10, 49, 10, 48, 10, 107, 110, 111, 119, 110]⟩⟩)) (fCons (fL (fCons (fun _ => .ok (.str ⟨⟨[116, 101, 120, 116]⟩⟩)) (fCons (fun _ => .ok (.int 3)) (fCons (fun _ => .ok (.int 1)) fNil))) mkTup) fNil)) mkTup) fNil)) mkLst))) (sSeq (onFrz 0 (sOwnAdd 0 (gV 0) (fL (fCons (fL (fCons (fun _ => .ok (.str ⟨⟨[49, 49, 10, 49, 10, 48, 10, 115, 105, 103, 110, 32, 49]⟩⟩)) (fCons (fL (fCons (fun _ => .ok (.str ⟨⟨[116, 101, 120, 116]⟩⟩)) (fCons (fun _ => .ok (.int 3)) (fCons (fun _ => .ok (.int 2)) fNil))) mkTup) fNil)) mkTup) (fCons (fL (fCons (fun _ => .ok (.str ⟨⟨[49, 49, 10, 49, 10, 48, 10, 83, 111, 117, 110, 100]⟩⟩)) (fCons (fL (fCons (fun _ => .ok (.str ⟨⟨[116, 101, 120, 116]⟩⟩)) (fCons (fun _ => .ok (.int 3)) (fCons (fun _ => .ok (.int 0)) fNil))) mkTup) fNil)) mkTup) fNil)) mkLst))) (sSeq (onFrz 0 (sOwnAdd 0 (gV 0) (fL (fCons (fL (fCons (fun _ => .ok (.str ⟨⟨[49, 49, 10, 49, 10, 48, 10, 115, 111, 117, 110, 100, 10, 10, 115, 111, 117, 110, 100]⟩⟩)) (fCons (fL (fCons (fun _ => .ok (.str ⟨⟨[116, 101, 120, 116]⟩⟩)) (fCons (fun _ => .ok (.int 4)) (fCons (fun _ => .ok (.int 0)) fNil))) mkTup) fNil)) mkTup) (fCons (fL (fCons (fun _ => .ok (.str ⟨⟨[49, 50, 10, 55, 10, 48, 10, 120]⟩⟩)) (fCons (fL (fCons (fun _ => .ok (.str ⟨⟨[116, 101, 120, 116]⟩⟩)) (fCons (fun _ => .ok (.int 3)) (fCons (fun _ => .ok (.int 0)) fNil))) mkTup) fNil)) mkTup) fNil)) mkLst))) (sSeq (onFrz 0 (sOwnAdd 0 (gV 0) (fL (fCons (fL (fCons (fun _ => .ok (.str ⟨⟨[49, 50, 10, 55, 10, 48]⟩⟩)) (fCons (fL (fCons (fun _ => .ok (.str ⟨⟨[112, 114, 105, 109, 101]⟩⟩)) (fCons (fun _ => .ok (.int 12)) fNil)) mkTup) fNil)) mkTup) (fCons (fL (fCons (fun _ => .ok (.str ⟨⟨[49, 49, 10, 55, 10, 49, 10, 48, 32, 58, 32, 49]⟩⟩)) (fCons (fL (fCons (fun _ => .ok (.str ⟨⟨[108, 97, 121, 105, 110, 103]⟩⟩)) (fCons (fL (fCons (fun _ => .ok (.int 7)) fNil) mkTup) fNil)) mkTup) fNil)) mkTup) fNil)) mkLst))) (sSeq (onFrz 0 (sOwnAdd 0 (gV 0) (fL (fCons (fL (fCons (fun _ => .ok (.str ⟨⟨[49, 49, 10, 49, 10, 50, 10, 48, 32, 58, 32, 49]⟩⟩)) (fCons (fL (fCons (fun _ => .ok (.str ⟨⟨[116, 101, 120, 116]⟩⟩)) (fCons (fun _ => .ok (.int 4)) (fCons (fun _ => .ok (.int 0)) fNil))) mkTup) fNil)) mkTup) (fCons (fL (fCons (fun _ => .ok (.str ⟨⟨[49, 49, 10, 49, 10, 49, 10, 120, 10, 121]⟩⟩)) (fCons (fL (fCons (fun _ => .ok (.str ⟨⟨[116, 101, 120, 116]⟩⟩)) (fCons (fun _ => .ok (.int 3)) (fCons (fun _ => .ok (.int 0)) fNil))) mkTup) fNil)) mkTup) fNil)) mkLst))) (sSeq (onFrz 0 (sOwnAdd 0 (gV 0) (fL (fCons (fL (fCons (fun _ => .ok (.str ⟨⟨[49, 49, 10, 49, 10, 50, 10, 120]⟩⟩)) (fCons (fL (fCons (fun _ => .ok (.str ⟨⟨[116, 101, 120, 116]⟩⟩)) (fCons (fun _ => .ok (.int 3)) (fCons (fun _ => .ok (.int 0)) fNil))) mkTup) fNil)) mkTup) (fCons (fL (fCons (fun _ => .ok (.str ⟨⟨[49, 49, 10, 49, 10, 50, 10, 48, 32, 58, 32, 120]⟩⟩)) (fCons (fL (fCons (fun _ => .ok (.str ⟨⟨[116, 101, 120, 116]⟩⟩)) (fCons (fun _ => .ok (.int 3)) (fCons (fun _ => .ok (.int 2)) fNil))) mkTup) fNil)) mkTup) fNil)) mkLst))) (sSeq (onFrz 0 (sOwnAdd 0 (gV 0) (fL (fCons (fL (fCons (fun _ => .ok (.str ⟨⟨[49, 49, 10, 49, 10, 48, 10, 107, 110, 111, 119, 110, 32, 49, 48, 48, 48, 48]⟩⟩)) (fCons (fL (fCons (fun _ => .ok (.str ⟨⟨[116, 101, 120, 116]⟩⟩)) (fCons (fun _ => .ok (.int 3)) (fCons (fun _ => .ok (.int 1)) fNil))) mkTup) fNil)) mkTup) (fCons (fL (fCons (fun _ => .ok (.str ⟨⟨[49, 49, 10, 49, 10, 48, 10, 107, 110, 111, 119, 110, 32, 48, 49]⟩⟩)) (fCons (fL (fCons (fun _ => .ok (.str ⟨⟨[116, 101, 120, 116]⟩⟩)) (fCons (fun _ => .ok (.int 3)) (fCons (fun _ => .ok (.int 1)) fNil))) mkTup) fNil)) mkTup) fNil)) mkLst))) (sSeq (onFrz 0 (sOwnAdd 0 (gV 0) (fL (fCons (fL (fCons (fun _ => .ok (.str ⟨⟨[49, 49, 10, 49, 10, 49, 10, 49, 32, 58, 32, 49]⟩⟩)) (fCons (fL (fCons (fun _ => .ok (.str ⟨⟨[109, 97, 105, 108]⟩⟩)) (fCons (fL (fCons (fL (fCons (fun _ => .ok (.int 1)) (fCons (fL (fCons (fun _ => .ok (.int 1)) fNil) mkTup) fNil)) mkTup) fNil) mkTup) fNil)) mkTup) fNil)) mkTup) (fCons (fL (fCons (fun _ => .ok (.str ⟨⟨[49, 49, 10, 49, 10, 49, 10, 110, 111, 110, 101]⟩⟩)) (fCons (fL (fCons (fun _ => .ok (.str ⟨⟨[116, 101, 120, 116]⟩⟩)) (fCons (fun _ => .ok (.int 3)) (fCons (fun _ => .ok (.int 0)) fNil))) mkTup) fNil)) mkTup) fNil)) mkLst))) (sSeq (onFrz 0 (sFor (iOf lstW (f2 addF (gV 0) (fL (fCons (fL (fCons (fun _ => .ok (.str ⟨⟨[49, 49, 10, 49, 10, 49, 10, 48, 32, 58, 32, 49, 32, 49]⟩⟩)) (fCons (fL (fCons (fun _ => .ok (.str ⟨⟨[109, 97, 105, 108]⟩⟩)) (fCons (fL (fCons (fL (fCons (fun _ => .ok (.int 0)) (fCons (fL (fCons (fun _ => .ok (.int 1)) (fCons (fun _ => .ok (.int 1)) fNil)) mkTup) fNil)) mkTup) fNil) mkTup) fNil)) mkTup) fNil)) mkTup) (fCons (fL (fCons (fun _ => .ok (.str ⟨⟨[49, 49, 10, 49, 10, 48]⟩⟩)) (fCons (fL (fCons (fL fNil mkTup) fNil) mkLst) fNil)) mkTup) fNil)) mkLst))) (goTup 2 (goCons (goName 3) (goCons (goName 1) goNil))) (sIf (fBl (f2 neS (L__law_heard (fL (fCons (gV 3) fNil) F_judged)) (gV 1))) (sRet (fun _ => .ok (.bl false))) sNil))) (sRet (fun _ => .ok (.bl true)))))))))))))))))
def g_law : En → T (Fl × En) := (sSeq (sSet 2 (fL (fCons (gV 1) (fCons (fun _ => .ok (.int 11)) fNil)) F__law_draw)) (sSeq (sSet 3 (fL (fCons (fun _ => .ok (.str ⟨⟨[49, 49]⟩⟩)) (fCons (fun _ => .ok (.str ⟨⟨[49, 32, 49, 32, 48]⟩⟩)) (fCons (fun _ => .ok (.str ⟨⟨[51]⟩⟩)) (fCons (f2 addF (fun _ => .ok (.str ⟨⟨[48, 32, 58, 32, 53, 32]⟩⟩)) (fL (fCons (f2 modW (fL (fCons (f2 addF (gV 2) (fun _ => .ok (.int 1))) fNil) intSF) (fun _ => .ok (.int 11))) fNil) strIF)) (fCons (f2 addF (fun _ => .ok (.str ⟨⟨[49, 32, 58, 32, 53, 32]⟩⟩)) (fL (fCons (f2 modW (fL (fCons (f2 addF (gV 2) (fun _ => .ok (.int 2))) fNil) intSF) (fun _ => .ok (.int 11))) fNil) strIF)) fNil))))) mkLst)) (sSeq (sSet 4 (f2 addF (gV 3) (fL (fCons (f2 addF (fun _ => .ok (.str ⟨⟨[50, 32, 58, 32, 53, 32]⟩⟩)) (fL (fCons (f2 modW (fL (fCons (f2 addF (gV 2) (fun _ => .ok (.int 3))) fNil) intSF) (fun _ => .ok (.int 11))) fNil) strIF)) (fCons (fun _ => .ok (.str ⟨⟨[115, 111, 117, 110, 100]⟩⟩)) (fCons (fun _ => .ok (.str ⟨⟨[107, 110, 111, 119, 110, 32, 51]⟩⟩)) (fCons (fun _ => .ok (.str ⟨⟨[107, 110, 111, 119, 110, 32, 50]⟩⟩)) (fCons (fun _ => .ok (.str ⟨⟨[115, 105, 103, 110, 32, 48, 32, 53]⟩⟩)) (fCons (fun _ => .ok (.str ⟨⟨[115, 105, 103, 110, 32, 48, 32, 54]⟩⟩)) fNil)))))) mkLst))) (sSeq (sSet 4 (f2 addF (gV 4) (fL (fCons (f2 addF (fun _ => .ok (.str ⟨⟨[115, 105, 103, 110, 32, 49, 32]⟩⟩)) (fL (fCons (gV 2) fNil) strIF)) (fCons (fun _ => .ok (.str ⟨⟨[115, 105, 103, 110, 32, 50, 32, 49]⟩⟩)) (fCons (fun _ => .ok (.str ⟨⟨[115, 105, 103, 110, 32, 50, 32, 50]⟩⟩)) (fCons (fun _ => .ok (.str ⟨⟨[115, 105, 103, 110, 32, 51, 32, 48]⟩⟩)) (fCons (fun _ => .ok (.str ⟨⟨[117, 110, 102, 105, 116, 32, 50]⟩⟩)) (fCons (fun _ => .ok (.str ⟨⟨[115, 117, 115, 112, 101, 99, 116, 32, 48]⟩⟩)) fNil)))))) mkLst))) (sSeq (sSet 4 (f2 addF (gV 4) (fL (fCons (fun _ => .ok (.str ⟨⟨[99, 97, 109, 101, 32, 50]⟩⟩)) (fCons (fun _ => .ok (.str ⟨⟨[99, 97, 109, 101, 32, 51]⟩⟩)) fNil)) mkLst))) (sSeq (sSet 5 (fL (fCons (fun _ => .ok (.bl true)) (fCons (fun _ => .ok (.bl true)) (fCons (fun _ => .ok (.bl false)) (fCons (fun _ => .ok (.bl true)) (fCons (fun _ => .ok (.bl false)) (fCons (fun _ => .ok (.bl true)) (fCons (fun _ => .ok (.bl true)) (fCons (fun _ => .ok (.bl false)) (fCons (fun _ => .ok (.bl false)) (fCons (fun _ => .ok (.bl false)) (fCons (fun _ => .ok (.bl false)) (fCons (fun _ => .ok (.bl true)) (fCons (fun _ => .ok (.bl false)) fNil))))))))))))) mkLst)) (sSeq (sIf (fBl (f2 neS (fL (fCons (fBM joinF (fun _ => .ok (.str ⟨⟨[10]⟩⟩)) (fCons (gV 4) fNil)) fNil) F_judged) (fL (fCons (gV 5) fNil) tupOfW))) (sRet (fun _ => .ok (.bl false))) sNil) (sSeq (sSet 6 (f2 addF (gV 3) (fL (fCons (f2 addF (fun _ => .ok (.str ⟨⟨[50, 32, 58, 32, 53, 32]⟩⟩)) (fL (fCons (f2 modW (fL (fCons (f2 addF (gV 2) (fun _ => .ok (.int 4))) fNil) intSF) (fun _ => .ok (.int 11))) fNil) strIF)) (fCons (fun _ => .ok (.str ⟨⟨[115, 111, 117, 110, 100]⟩⟩)) (fCons (fun _ => .ok (.str ⟨⟨[107, 110, 111, 119, 110, 32, 51]⟩⟩)) (fCons (fun _ => .ok (.str ⟨⟨[115, 105, 103, 110, 32, 48, 32, 53]⟩⟩)) (fCons (fun _ => .ok (.str ⟨⟨[117, 110, 102, 105, 116, 32, 49]⟩⟩)) (fCons (fun _ => .ok (.str ⟨⟨[117, 110, 102, 105, 116, 32, 50]⟩⟩)) fNil)))))) mkLst))) (sSeq (sSet 6 (f2 addF (gV 6) (fL (fCons (fun _ => .ok (.str ⟨⟨[117, 110, 102, 105, 116, 32, 51]⟩⟩)) (fCons (fun _ => .ok (.str ⟨⟨[115, 117, 115, 112, 101, 99, 116, 32, 48]⟩⟩)) (fCons (fun _ => .ok (.str ⟨⟨[115, 117, 115, 112, 101, 99, 116, 32, 49]⟩⟩)) (fCons (fun _ => .ok (.str ⟨⟨[115, 117, 115, 112, 101, 99, 116, 32, 50]⟩⟩)) (fCons (fun _ => .ok (.str ⟨⟨[115, 117, 115, 112, 101, 99, 116, 32, 51]⟩⟩)) (fCons (fun _ => .ok (.str ⟨⟨[99, 97, 109, 101, 32, 50]⟩⟩)) fNil)))))) mkLst))) (sSeq (sIf (fBl (f2 neS (fL (fCons (fBM joinF (fun _ => .ok (.str ⟨⟨[10]⟩⟩)) (fCons (gV 6) fNil)) fNil) F_judged) (fL (fCons (fun _ => .ok (.bl false)) (fCons (fun _ => .ok (.bl true)) (fCons (fun _ => .ok (.bl false)) (fCons (fun _ => .ok (.bl false)) (fCons (fun _ => .ok (.bl true)) (fCons (fun _ => .ok (.bl false)) (fCons (fun _ => .ok (.bl true)) (fCons (fun _ => .ok (.bl true)) (fCons (fun _ => .ok (.bl true)) (fCons (fun _ => .ok (.bl false)) (fCons (fun _ => .ok (.bl true)) fNil))))))))))) mkTup))) (sRet (fun _ => .ok (.bl false))) sNil) (sSeq (sSet 7 (f2 addF (gV 3) (fL (fCons (f2 addF (fun _ => .ok (.str ⟨⟨[50, 32, 58, 32, 54, 32]⟩⟩)) (fL (fCons (f2 modW (fL (fCons (f2 addF (gV 2) (fun _ => .ok (.int 3))) fNil) intSF) (fun _ => .ok (.int 11))) fNil) strIF)) (fCons (fun _ => .ok (.str ⟨⟨[115, 111, 117, 110, 100]⟩⟩)) (fCons (fun _ => .ok (.str ⟨⟨[117, 110, 102, 105, 116, 32, 49]⟩⟩)) (fCons (fun _ => .ok (.str ⟨⟨[117, 110, 102, 105, 116, 32, 50]⟩⟩)) (fCons (fun _ => .ok (.str ⟨⟨[115, 117, 115, 112, 101, 99, 116, 32, 48]⟩⟩)) fNil))))) mkLst))) (sSeq (sSet 7 (f2 addF (gV 7) (fL (fCons (fun _ => .ok (.str ⟨⟨[115, 117, 115, 112, 101, 99, 116, 32, 49]⟩⟩)) (fCons (fun _ => .ok (.str ⟨⟨[115, 117, 115, 112, 101, 99, 116, 32, 50]⟩⟩)) fNil)) mkLst))) (sSeq (sIf (fBl (f2 neS (fL (fCons (fBM joinF (fun _ => .ok (.str ⟨⟨[10]⟩⟩)) (fCons (gV 7) fNil)) fNil) F_judged) (fL (fCons (fun _ => .ok (.bl false)) (fCons (fun _ => .ok (.bl true)) (fCons (fun _ => .ok (.bl false)) (fCons (fun _ => .ok (.bl false)) (fCons (fun _ => .ok (.bl false)) (fCons (fun _ => .ok (.bl true)) fNil)))))) mkTup))) (sRet (fun _ => .ok (.bl false))) sNil) (sSeq (sOwn 8 (fCons (fun _ => .ok (.str ⟨⟨[49, 49]⟩⟩)) (fCons (fun _ => .ok (.str ⟨⟨[49, 32, 49, 32, 48]⟩⟩)) (fCons (fun _ => .ok (.str ⟨⟨[49]⟩⟩)) (fCons (fun _ => .ok (.str ⟨⟨[50, 32, 58, 32, 53, 32, 55]⟩⟩)) (fCons (fun _ => .ok (.str ⟨⟨[115, 111, 117, 110, 100]⟩⟩)) (fCons (fun _ => .ok (.str ⟨⟨[107, 110, 111, 119, 110, 32, 49]⟩⟩)) (fCons (fun _ => .ok (.str ⟨⟨[115, 105, 103, 110, 32, 48, 32, 53]⟩⟩)) (fCons (fun _ => .ok (.str ⟨⟨[115, 105, 103, 110, 32, 49, 32, 48]⟩⟩)) (fCons (fun _ => .ok (.str ⟨⟨[99, 97, 109, 101, 32, 50]⟩⟩)) (fCons (fun _ => .ok (.str ⟨⟨[99, 97, 109, 101, 32, 48]⟩⟩)) fNil))))))))))) (sSeq (sApp 8 (fCons (fun _ => .ok (.str ⟨⟨[117, 110, 102, 105, 116, 32, 51]⟩⟩)) fNil)) (sSeq (sIf (fBl (f2 neS (fL (fCons (fJoinOF 8 (fun _ => .ok (.str ⟨⟨[10]⟩⟩))) fNil) F_judged) (fL (fCons (fun _ => .ok (.bl true)) (fCons (fun _ => .ok (.bl true)) (fCons (fun _ => .ok (.bl true)) (fCons (fun _ => .ok (.bl false)) (fCons (fun _ => .ok (.bl true)) (fCons (fun _ => .ok (.bl false)) (fCons (fun _ => .ok (.bl false)) fNil))))))) mkTup))) (sRet (fun _ => .ok (.bl false))) sNil) (sSeq (sSet 9 (f2 addF (fL (fCons (fun _ => .ok (.str ⟨⟨[49, 49]⟩⟩)) (fCons (fun _ => .ok (.str ⟨⟨[49, 32, 48, 32, 48, 32, 48, 32, 48, 32, 48, 32, 48, 32, 48]⟩⟩)) (fCons (fun _ => .ok (.str ⟨⟨[56]⟩⟩)) fNil))) mkLst) (fComp [11] (iL rng1 (fCons (fun _ => .ok (.int 8)) fNil)) (goName 11) fYes (f2 addF (fL (fCons (gV 11) fNil) strIF) (fun _ => .ok (.str ⟨⟨[32, 58, 32, 53]⟩⟩)))))) (sSeq (sIf (fBl (f2 neS (fL (fCons (fBM joinF (fun _ => .ok (.str ⟨⟨[10]⟩⟩)) (fCons (f2 addF (gV 9) (fL (fCons (fun _ => .ok (.str ⟨⟨[115, 111, 117, 110, 100]⟩⟩)) (fCons (fun _ => .ok (.str ⟨⟨[107, 110, 111, 119, 110, 32, 49]⟩⟩)) (fCons (fun _ => .ok (.str ⟨⟨[115, 105, 103, 110, 32, 48, 32, 53]⟩⟩)) (fCons (fun _ => .ok (.str ⟨⟨[99, 97, 109, 101, 32, 55]⟩⟩)) fNil)))) mkLst)) fNil)) fNil) F_judged) (f2 mulTA (fL (fCons (fun _ => .ok (.bl true)) fNil) mkTup) (fun _ => .ok (.int 4))))) (sRet (fun _ => .ok (.bl false))) sNil) (sSeq (sSet 10 (fun _ => .ok (.str ⟨⟨[49, 51, 10, 48, 32, 48, 10, 50, 10, 48, 32, 58, 32, 110, 111, 110, 101, 10, 49, 32, 58, 32, 110, 111, 110, 101, 10, 115, 111, 117, 110, 100, 10, 107, 110, 111, 119, 110, 32, 48, 10, 115, 105, 103, 110, 32, 48, 32, 48, 10, 117, 110, 102, 105, 116, 32, 49, 10, 115, 117, 115, 112, 101, 99, 116, 32, 48, 10, 99, 97, 109, 101, 32, 49]⟩⟩))) (sRet (fAndV (f2 eqS (fL (fCons (gV 10) fNil) F_judged) (fL (fCons (fun _ => .ok (.bl true)) (fCons (fun _ => .ok (.bl true)) (fCons (fun _ => .ok (.bl false)) (fCons (fun _ => .ok (.bl false)) (fCons (fun _ => .ok (.bl false)) (fCons (fun _ => .ok (.bl true)) fNil)))))) mkTup)) (fun _ => F__law_refused_right []))))))))))))))))))))))
end Lw
namespace Lw
open PySem L2 PF
/-- what comes behind the first draw -/
def T.chkAt {α : Type} (p : α → Bool) (t : PF.T α) (i : Nat) : Bool := match t with
  | .ask _ k => (k i).chkW p 0 []
  | _ => false
def T.asks {α : Type} (t : PF.T α) (n : Nat) : Bool := match t with
  | .ask m _ => m == n
  | _ => false
theorem e0 (n : Nat) : T.chkAt yes (g_law (lawE n 10)) 0 = true := by kernel_rfl
theorem e1 (n : Nat) : T.chkAt yes (g_law (lawE n 10)) 1 = true := by kernel_rfl
theorem e2 (n : Nat) : T.chkAt yes (g_law (lawE n 10)) 2 = true := by kernel_rfl
theorem e3 (n : Nat) : T.chkAt yes (g_law (lawE n 10)) 3 = true := by kernel_rfl
theorem e4 (n : Nat) : T.chkAt yes (g_law (lawE n 10)) 4 = true := by kernel_rfl
theorem e5 (n : Nat) : T.chkAt yes (g_law (lawE n 10)) 5 = true := by kernel_rfl
theorem e6 (n : Nat) : T.chkAt yes (g_law (lawE n 10)) 6 = true := by kernel_rfl
theorem e7 (n : Nat) : T.chkAt yes (g_law (lawE n 10)) 7 = true := by kernel_rfl
theorem e8 (n : Nat) : T.chkAt yes (g_law (lawE n 10)) 8 = true := by kernel_rfl
theorem e9 (n : Nat) : T.chkAt yes (g_law (lawE n 10)) 9 = true := by kernel_rfl
theorem e10 (n : Nat) : T.chkAt yes (g_law (lawE n 10)) 10 = true := by kernel_rfl
theorem eA (n : Nat) : T.asks (g_law (lawE n 10)) 11 = true := by kernel_rfl
theorem of_parts {α : Type} {p : α → Bool} {t : PF.T α} {n : Nat} (h : T.asks t n = true) (g : ∀ i < n, T.chkAt p t i = true) : t.chkW p 1 [] = true := by
  cases t with
  | ask m k =>
    have e : m = n := by simpa [T.asks] using h
    subst e
    exact List.all_eq_true.mpr fun i hi => g i (List.mem_range.mp hi)
  | _ => cases h
theorem ends_chk (n : Nat) : (g_law (lawE n 10)).chkW yes 1 [] = true := of_parts (eA n) fun i hi => match i, hi with
  | 0, _ => e0 n
  | 1, _ => e1 n
  | 2, _ => e2 n
  | 3, _ => e3 n
  | 4, _ => e4 n
  | 5, _ => e5 n
  | 6, _ => e6 n
  | 7, _ => e7 n
  | 8, _ => e8 n
  | 9, _ => e9 n
  | 10, _ => e10 n
theorem law_ends : LawEndsW g_law 10 := fun n _ => law_tailW (ends_chk n) (by decide)
end Lw
namespace Lw
open PySem PySem.Spec PyProof.Rows L2 PF
def top (i : Nat) : Stmt := PySem.Challenge.pw_nestletters_k36_sheets_by_hand.main.body.getD i (.Pass ⟨0, 0, 0, 0⟩)
abbrev FnP (K : PySem.W.Frag) (x : Str) (st : Stmt) (sc : Scope) (f : Addr) (fd : FuncData) : Prop := FunD K x x (defArgs st) (defBody st) sc [] [] f fd
def sc_is_integer : Scope := ⟨.function, [("thing", .local), ("isinstance", .globalImplicit), ("int", .globalImplicit), ("bool", .globalImplicit)], false, false, (defScope (top 7)).more⟩
def sc_is_between : Scope := ⟨.function, [("thing", .local), ("least", .local), ("most", .local), ("is_integer", .globalImplicit)], false, false, (defScope (top 10)).more⟩
def sc_are_rising : Scope := ⟨.function, [("some", .local), ("all", .globalImplicit), ("zip", .globalImplicit)], false, false, (defScope (top 11)).more⟩
def sc_need_prime : Scope := ⟨.function, [("prime", .local), ("is_integer", .globalImplicit), ("PRIMES", .globalImplicit), ("BadPrime", .globalImplicit)], false, false, (defScope (top 12)).more⟩
def sc_is_sign : Scope := ⟨.function, [("prime", .local), ("thing", .local), ("is_between", .globalImplicit)], false, false, (defScope (top 13)).more⟩
def sc_are_signs : Scope := ⟨.function, [("prime", .cell), ("thing", .local), ("isinstance", .globalImplicit), ("tuple", .globalImplicit), ("all", .globalImplicit)], false, false, (defScope (top 14)).more⟩
def sc_rest_of : Scope := ⟨.function, [("prime", .local), ("number", .local), ("int", .globalImplicit)], false, false, (defScope (top 15)).more⟩
def sc_value_in : Scope := ⟨.function, [("prime", .local), ("block", .local), ("sign", .local), ("found", .local), ("one", .local), ("rest_of", .globalImplicit)], false, false, (defScope (top 16)).more⟩
def sc_inverse_in : Scope := ⟨.function, [("prime", .cell), ("sign", .cell), ("range", .globalImplicit)], false, false, (defScope (top 17)).more⟩
def sc_times_root : Scope := ⟨.function, [("prime", .local), ("block", .local), ("root", .local), ("found", .local), ("spot", .local), ("one", .local), ("enumerate", .globalImplicit), ("rest_of", .globalImplicit)], false, false, (defScope (top 18)).more⟩
def sc_through_in : Scope := ⟨.function, [("prime", .cell), ("points", .local), ("found", .local), ("one", .local), ("value", .local), ("block", .local), ("bottom", .local), ("other", .local), ("rest", .local), ("factor", .cell), ("len", .globalImplicit), ("times_root", .globalImplicit), ("rest_of", .globalImplicit), ("inverse_in", .globalImplicit), ("zip", .globalImplicit), ("tuple", .globalImplicit)], false, false, (defScope (top 19)).more⟩
def sc_is_laying : Scope := ⟨.function, [("thing", .local), ("isinstance", .globalImplicit), ("tuple", .globalImplicit), ("len", .globalImplicit), ("MOST_LETTERS", .globalImplicit), ("all", .globalImplicit), ("sum", .globalImplicit), ("MOST_ROOM", .globalImplicit)], false, false, (defScope (top 24)).more⟩
def sc_need_laying : Scope := ⟨.function, [("thing", .local), ("is_laying", .globalImplicit), ("BadLaying", .globalImplicit)], false, false, (defScope (top 25)).more⟩
def sc_profile_in : Scope := ⟨.function, [("laying", .local), ("found", .local), ("last", .local), ("spot", .local), ("share", .local), ("enumerate", .globalImplicit)], false, false, (defScope (top 26)).more⟩
def sc_needs_in : Scope := ⟨.function, [("laying", .local), ("found", .local), ("spot", .local), ("share", .local), ("enumerate", .globalImplicit), ("int", .globalImplicit)], false, false, (defScope (top 27)).more⟩
def sc_is_pair : Scope := ⟨.function, [("prime", .local), ("laying", .local), ("thing", .local), ("isinstance", .globalImplicit), ("tuple", .globalImplicit), ("len", .globalImplicit), ("is_between", .globalImplicit), ("are_signs", .globalImplicit), ("sum", .globalImplicit)], false, false, (defScope (top 29)).more⟩
def sc_need_mail_of : Scope := ⟨.function, [("prime", .cell), ("laying", .cell), ("thing", .local), ("isinstance", .globalImplicit), ("tuple", .globalImplicit), ("all", .globalImplicit), ("BadMail", .globalImplicit), ("are_rising", .globalImplicit)], false, false, (defScope (top 30)).more⟩
def sc_need_mail : Scope := ⟨.function, [("prime", .local), ("laying", .local), ("thing", .local), ("need_prime", .globalImplicit), ("need_laying", .globalImplicit), ("need_mail_of", .globalImplicit)], false, false, (defScope (top 31)).more⟩
def sc_points_at : Scope := ⟨.function, [("mail", .local), ("place", .cell)], false, false, (defScope (top 32)).more⟩
def sc_fits_at : Scope := ⟨.function, [("prime", .cell), ("mail", .local), ("place", .local), ("need", .local), ("points", .local), ("block", .cell), ("points_at", .globalImplicit), ("len", .globalImplicit), ("through_in", .globalImplicit), ("tuple", .globalImplicit), ("all", .globalImplicit)], false, false, (defScope (top 33)).more⟩
def sc_unfit_in : Scope := ⟨.function, [("prime", .local), ("laying", .local), ("mail", .local), ("found", .local), ("place", .local), ("need", .local), ("enumerate", .globalImplicit), ("needs_in", .globalImplicit), ("fits_at", .globalImplicit), ("sorted", .globalImplicit)], false, false, (defScope (top 34)).more⟩
def sc_read_in : Scope := ⟨.function, [("prime", .local), ("laying", .local), ("mail", .local), ("found", .local), ("place", .local), ("need", .local), ("enumerate", .globalImplicit), ("needs_in", .globalImplicit), ("len", .globalImplicit), ("through_in", .globalImplicit), ("tuple", .globalImplicit), ("points_at", .globalImplicit)], false, false, (defScope (top 35)).more⟩
def sc_suspects_in : Scope := ⟨.function, [("by_prime", .local), ("by_laying", .local), ("came", .local), ("found", .local), ("number", .cell), ("letter", .local), ("rest", .local), ("unfit_in", .globalImplicit), ("tuple", .globalImplicit)], false, false, (defScope (top 37)).more⟩
def sc_lines_in : Scope := ⟨.function, [("text", .local), ("isinstance", .globalImplicit), ("str", .globalImplicit), ("BadText", .globalImplicit), ("LINE_END", .globalImplicit)], false, false, (defScope (top 45)).more⟩
def sc_letter_in : Scope := ⟨.function, [("words", .local), ("COLON", .globalImplicit), ("MOST_ROOM", .globalImplicit)], false, false, (defScope (top 47)).more⟩
def sc_pair_in : Scope := ⟨.function, [("words", .local), ("line", .local), ("here", .local), ("number", .local), ("Words", .globalImplicit), ("letter_in", .globalImplicit)], false, false, (defScope (top 48)).more⟩
def sc_number_in : Scope := ⟨.function, [("words", .local), ("line", .local), ("Words", .globalImplicit)], false, false, (defScope (top 57)).more⟩
def sc_saying_in : Scope := ⟨.function, [("words", .local), ("line", .local), ("here", .local), ("found", .local), ("turn", .local), ("Words", .globalImplicit), ("tuple", .globalImplicit), ("NUMBERS", .globalImplicit), ("range", .globalImplicit)], false, false, (defScope (top 58)).more⟩
def sc_count_in : Scope := ⟨.function, [("words", .local), ("line", .local), ("here", .local), ("found", .local), ("Words", .globalImplicit), ("MOST_LETTERS", .globalImplicit)], false, false, (defScope (top 59)).more⟩
def sc_parts_in : Scope := ⟨.function, [("text", .local), ("rows", .local), ("prime", .local), ("laying", .local), ("count", .cell), ("mail", .local), ("sayings", .local), ("lines_in", .globalImplicit), ("number_in", .globalImplicit), ("len", .globalImplicit), ("BadText", .globalImplicit), ("Words", .globalImplicit), ("MOST_LETTERS", .globalImplicit), ("count_in", .globalImplicit), ("tuple", .globalImplicit), ("enumerate", .globalImplicit)], false, false, (defScope (top 60)).more⟩
def sc_is_so : Scope := ⟨.function, [("prime", .local), ("laying", .local), ("mail", .local), ("saying", .local), ("word", .local), ("unfit", .local), ("found", .local), ("unfit_in", .globalImplicit), ("SOUND", .globalImplicit), ("KNOWN", .globalImplicit), ("profile_in", .globalImplicit), ("len", .globalImplicit), ("SIGN", .globalImplicit), ("read_in", .globalImplicit), ("UNFIT", .globalImplicit), ("SUSPECT", .globalImplicit), ("suspects_in", .globalImplicit)], false, false, (defScope (top 61)).more⟩
def sc_judged : Scope := ⟨.function, [("text", .local), ("prime", .cell), ("laying", .cell), ("mail", .cell), ("sayings", .local), ("parts_in", .globalImplicit), ("need_prime", .globalImplicit), ("need_laying", .globalImplicit), ("need_mail", .globalImplicit), ("tuple", .globalImplicit)], false, false, (defScope (top 62)).more⟩
def sc__law_mixed : Scope := ⟨.function, [("_law_cell", .local), ("_law_k", .local), ("int", .globalImplicit)], false, false, (defScope (top 64)).more⟩
def sc__law_begin : Scope := ⟨.function, [("_law_script", .local), ("_law_cells", .local), ("list", .globalImplicit)], false, false, (defScope (top 65)).more⟩
def sc__law_draw : Scope := ⟨.function, [("_law_state", .local), ("_law_many", .local), ("_law_at", .local), ("_law_place", .local), ("_law_left", .local), ("_law_number", .local), ("int", .globalImplicit), ("len", .globalImplicit), ("_law_mixed", .globalImplicit)], false, false, (defScope (top 66)).more⟩
def sc__law_heard : Scope := ⟨.function, [("_law_call", .local), ("error", .local), ("BadText", .globalImplicit), ("BadPrime", .globalImplicit), ("BadLaying", .globalImplicit), ("BadMail", .globalImplicit)], false, false, (defScope (top 67)).more⟩
def sc__law_refused_right : Scope := ⟨.function, [("_law_rows", .local), ("_law_due", .local), ("_law_odd", .cell), ("_law_sheet", .cell), ("_law_heard", .globalImplicit)], false, false, (defScope (top 68)).more⟩
def sc_law : Scope := ⟨.function, [("_law_script", .local), ("_law_state", .local), ("_law_by", .local), ("_law_lines", .local), ("_law_good", .local), ("_law_due", .local), ("_law_bad", .local), ("_law_wrong", .local), ("_law_few", .local), ("_law_eight", .local), ("_law_none", .local), ("_law_begin", .globalImplicit), ("_law_draw", .globalImplicit), ("str", .globalImplicit), ("int", .globalImplicit), ("judged", .globalImplicit), ("tuple", .globalImplicit), ("range", .globalImplicit), ("_law_refused_right", .globalImplicit)], false, false, (defScope (top 69)).more⟩
def sc_Words____init__ : Scope := ⟨.function, [("self", .local), ("words", .local), ("line", .local)], false, false, (defScope (mtd (top 46) 0)).more⟩
def sc_Words__is_over : Scope := ⟨.function, [("self", .local), ("len", .globalImplicit)], false, false, (defScope (mtd (top 46) 1)).more⟩
def sc_Words__refuse : Scope := ⟨.function, [("self", .local), ("BadText", .globalImplicit)], false, false, (defScope (mtd (top 46) 2)).more⟩
def sc_Words__next_word : Scope := ⟨.function, [("self", .local)], false, false, (defScope (mtd (top 46) 3)).more⟩
def sc_Words__read_word : Scope := ⟨.function, [("self", .local), ("some", .local), ("word", .local)], false, false, (defScope (mtd (top 46) 4)).more⟩
def sc_Words__read_number : Scope := ⟨.function, [("self", .local), ("word", .local), ("len", .globalImplicit), ("MOST_FIGURES", .globalImplicit), ("all", .globalImplicit), ("int", .globalImplicit)], false, false, (defScope (mtd (top 46) 5)).more⟩
def sc_Words__read_numbers : Scope := ⟨.function, [("self", .local), ("most", .local), ("found", .local), ("len", .globalImplicit), ("tuple", .globalImplicit)], false, false, (defScope (mtd (top 46) 6)).more⟩
def sc_Words__read_some : Scope := ⟨.function, [("self", .local), ("most", .local), ("NONE", .globalImplicit)], false, false, (defScope (mtd (top 46) 7)).more⟩
def sc_Words__refuse_last : Scope := ⟨.function, [("self", .local), ("BadText", .globalImplicit)], false, false, (defScope (mtd (top 46) 8)).more⟩
def sc_Words__need_over : Scope := ⟨.function, [("self", .local)], false, false, (defScope (mtd (top 46) 9)).more⟩
end Lw
namespace Lw
open PySem PySem.Spec PyProof.Rows L2 PF
namespace Hd
open He in
def fa : List Fa := [.glo "is_integer", .glo "is_between", .glo "are_rising", .glo "need_prime", .glo "is_sign", .glo "are_signs", .glo "rest_of", .glo "value_in", .glo "inverse_in", .glo "times_root", .glo "through_in", .glo "is_laying", .glo "need_laying", .glo "profile_in", .glo "needs_in", .glo "is_pair", .glo "need_mail_of", .glo "need_mail", .glo "points_at", .glo "fits_at", .glo "unfit_in", .glo "read_in", .glo "suspects_in", .glo "lines_in", .glo "letter_in", .glo "pair_in", .glo "number_in", .glo "saying_in", .glo "count_in", .glo "parts_in", .glo "is_so", .glo "judged", .glo "_law_mixed", .glo "_law_begin", .glo "_law_draw", .glo "_law_heard", .glo "_law_refused_right", .glo "law", .glo "PRIMES", .int "MOST_LETTERS" 8, .int "MOST_SHARE" 6, .int "MOST_ROOM" 12, .str "BLANK" " ", .str "LINE_END" "\n", .str "NONE" "none", .str "COLON" ":", .str "FIGURES" "0123456789", .int "MOST_FIGURES" 4, .str "SOUND" "sound", .str "KNOWN" "known", .str "SIGN" "sign", .str "UNFIT" "unfit", .str "SUSPECT" "suspect", .str "CAME" "came", .free "list", .free "isinstance", .free "int", .free "bool", .free "all", .free "zip", .free "tuple", .free "range", .free "enumerate", .free "len", .free "sum", .free "sorted", .free "str", .glo "BadPrime", .glo "BadLaying", .glo "BadMail", .glo "BadText", .glo "NestError", .glo "Words", .glo "NUMBERS", .exm "BadText" "BadText" true, .exm "BadMail" "BadText" false, .exm "BadLaying" "BadText" false, .exm "BadPrime" "BadText" false, .exm "BadText" "BadPrime" false, .exm "BadMail" "BadPrime" false, .exm "BadLaying" "BadPrime" false, .exm "BadPrime" "BadPrime" true, .exm "BadText" "BadLaying" false, .exm "BadMail" "BadLaying" false, .exm "BadLaying" "BadLaying" true, .exm "BadPrime" "BadLaying" false, .exm "BadText" "BadMail" false, .exm "BadMail" "BadMail" true, .exm "BadLaying" "BadMail" false, .exm "BadPrime" "BadMail" false]
def d_is_integer : He.DefD := ⟨("is_integer", none), "is_integer", "is_integer", defArgs (top 7), defBody (top 7), sc_is_integer, [], []⟩
def d_is_between : He.DefD := ⟨("is_between", none), "is_between", "is_between", defArgs (top 10), defBody (top 10), sc_is_between, [], []⟩
def d_are_rising : He.DefD := ⟨("are_rising", none), "are_rising", "are_rising", defArgs (top 11), defBody (top 11), sc_are_rising, [], []⟩
def d_need_prime : He.DefD := ⟨("need_prime", none), "need_prime", "need_prime", defArgs (top 12), defBody (top 12), sc_need_prime, [], []⟩
def d_is_sign : He.DefD := ⟨("is_sign", none), "is_sign", "is_sign", defArgs (top 13), defBody (top 13), sc_is_sign, [], []⟩
def d_are_signs : He.DefD := ⟨("are_signs", none), "are_signs", "are_signs", defArgs (top 14), defBody (top 14), sc_are_signs, [], []⟩
def d_rest_of : He.DefD := ⟨("rest_of", none), "rest_of", "rest_of", defArgs (top 15), defBody (top 15), sc_rest_of, [], []⟩
def d_value_in : He.DefD := ⟨("value_in", none), "value_in", "value_in", defArgs (top 16), defBody (top 16), sc_value_in, [], []⟩
def d_inverse_in : He.DefD := ⟨("inverse_in", none), "inverse_in", "inverse_in", defArgs (top 17), defBody (top 17), sc_inverse_in, [], []⟩
def d_times_root : He.DefD := ⟨("times_root", none), "times_root", "times_root", defArgs (top 18), defBody (top 18), sc_times_root, [], []⟩
def d_through_in : He.DefD := ⟨("through_in", none), "through_in", "through_in", defArgs (top 19), defBody (top 19), sc_through_in, [], []⟩
def d_is_laying : He.DefD := ⟨("is_laying", none), "is_laying", "is_laying", defArgs (top 24), defBody (top 24), sc_is_laying, [], []⟩
def d_need_laying : He.DefD := ⟨("need_laying", none), "need_laying", "need_laying", defArgs (top 25), defBody (top 25), sc_need_laying, [], []⟩
def d_profile_in : He.DefD := ⟨("profile_in", none), "profile_in", "profile_in", defArgs (top 26), defBody (top 26), sc_profile_in, [], []⟩
def d_needs_in : He.DefD := ⟨("needs_in", none), "needs_in", "needs_in", defArgs (top 27), defBody (top 27), sc_needs_in, [], []⟩
def d_is_pair : He.DefD := ⟨("is_pair", none), "is_pair", "is_pair", defArgs (top 29), defBody (top 29), sc_is_pair, [], []⟩
def d_need_mail_of : He.DefD := ⟨("need_mail_of", none), "need_mail_of", "need_mail_of", defArgs (top 30), defBody (top 30), sc_need_mail_of, [], []⟩
def d_need_mail : He.DefD := ⟨("need_mail", none), "need_mail", "need_mail", defArgs (top 31), defBody (top 31), sc_need_mail, [], []⟩
def d_points_at : He.DefD := ⟨("points_at", none), "points_at", "points_at", defArgs (top 32), defBody (top 32), sc_points_at, [], []⟩
def d_fits_at : He.DefD := ⟨("fits_at", none), "fits_at", "fits_at", defArgs (top 33), defBody (top 33), sc_fits_at, [], []⟩
def d_unfit_in : He.DefD := ⟨("unfit_in", none), "unfit_in", "unfit_in", defArgs (top 34), defBody (top 34), sc_unfit_in, [], []⟩
def d_read_in : He.DefD := ⟨("read_in", none), "read_in", "read_in", defArgs (top 35), defBody (top 35), sc_read_in, [], []⟩
def d_suspects_in : He.DefD := ⟨("suspects_in", none), "suspects_in", "suspects_in", defArgs (top 37), defBody (top 37), sc_suspects_in, [], []⟩
def d_lines_in : He.DefD := ⟨("lines_in", none), "lines_in", "lines_in", defArgs (top 45), defBody (top 45), sc_lines_in, [], []⟩
def d_letter_in : He.DefD := ⟨("letter_in", none), "letter_in", "letter_in", defArgs (top 47), defBody (top 47), sc_letter_in, [], []⟩
def d_pair_in : He.DefD := ⟨("pair_in", none), "pair_in", "pair_in", defArgs (top 48), defBody (top 48), sc_pair_in, [], []⟩
def d_number_in : He.DefD := ⟨("number_in", none), "number_in", "number_in", defArgs (top 57), defBody (top 57), sc_number_in, [], []⟩
def d_saying_in : He.DefD := ⟨("saying_in", none), "saying_in", "saying_in", defArgs (top 58), defBody (top 58), sc_saying_in, [], []⟩
def d_count_in : He.DefD := ⟨("count_in", none), "count_in", "count_in", defArgs (top 59), defBody (top 59), sc_count_in, [], []⟩
def d_parts_in : He.DefD := ⟨("parts_in", none), "parts_in", "parts_in", defArgs (top 60), defBody (top 60), sc_parts_in, [], []⟩
def d_is_so : He.DefD := ⟨("is_so", none), "is_so", "is_so", defArgs (top 61), defBody (top 61), sc_is_so, [], []⟩
def d_judged : He.DefD := ⟨("judged", none), "judged", "judged", defArgs (top 62), defBody (top 62), sc_judged, [], []⟩
def d__law_mixed : He.DefD := ⟨("_law_mixed", none), "_law_mixed", "_law_mixed", defArgs (top 64), defBody (top 64), sc__law_mixed, [], []⟩
def d__law_begin : He.DefD := ⟨("_law_begin", none), "_law_begin", "_law_begin", defArgs (top 65), defBody (top 65), sc__law_begin, [], []⟩
def d__law_draw : He.DefD := ⟨("_law_draw", none), "_law_draw", "_law_draw", defArgs (top 66), defBody (top 66), sc__law_draw, [], []⟩
def d__law_heard : He.DefD := ⟨("_law_heard", none), "_law_heard", "_law_heard", defArgs (top 67), defBody (top 67), sc__law_heard, [], []⟩
def d__law_refused_right : He.DefD := ⟨("_law_refused_right", none), "_law_refused_right", "_law_refused_right", defArgs (top 68), defBody (top 68), sc__law_refused_right, [], []⟩
def d_law : He.DefD := ⟨("law", none), "law", "law", defArgs (top 69), defBody (top 69), sc_law, [], []⟩
def di_BadPrime : He.DefD := ⟨("BadPrime", some "__init__"), "__init__", "BadPrime.__init__", defArgs (mth (top 2)), defBody (mth (top 2)), defScope (mth (top 2)), [], []⟩
def di_BadLaying : He.DefD := ⟨("BadLaying", some "__init__"), "__init__", "BadLaying.__init__", defArgs (mth (top 3)), defBody (mth (top 3)), defScope (mth (top 3)), [], []⟩
def di_BadMail : He.DefD := ⟨("BadMail", some "__init__"), "__init__", "BadMail.__init__", defArgs (mth (top 4)), defBody (mth (top 4)), defScope (mth (top 4)), [], []⟩
def di_BadText : He.DefD := ⟨("BadText", some "__init__"), "__init__", "BadText.__init__", defArgs (mth (top 5)), defBody (mth (top 5)), defScope (mth (top 5)), [], []⟩
def d_Words____init__ : He.DefD := ⟨("Words", some "__init__"), "__init__", "Words.__init__", defArgs (mtd (top 46) 0), defBody (mtd (top 46) 0), sc_Words____init__, [], []⟩
def d_Words__is_over : He.DefD := ⟨("Words", some "is_over"), "is_over", "Words.is_over", defArgs (mtd (top 46) 1), defBody (mtd (top 46) 1), sc_Words__is_over, [], []⟩
def d_Words__refuse : He.DefD := ⟨("Words", some "refuse"), "refuse", "Words.refuse", defArgs (mtd (top 46) 2), defBody (mtd (top 46) 2), sc_Words__refuse, [], []⟩
def d_Words__next_word : He.DefD := ⟨("Words", some "next_word"), "next_word", "Words.next_word", defArgs (mtd (top 46) 3), defBody (mtd (top 46) 3), sc_Words__next_word, [], []⟩
def d_Words__read_word : He.DefD := ⟨("Words", some "read_word"), "read_word", "Words.read_word", defArgs (mtd (top 46) 4), defBody (mtd (top 46) 4), sc_Words__read_word, [], []⟩
def d_Words__read_number : He.DefD := ⟨("Words", some "read_number"), "read_number", "Words.read_number", defArgs (mtd (top 46) 5), defBody (mtd (top 46) 5), sc_Words__read_number, [], []⟩
def d_Words__read_numbers : He.DefD := ⟨("Words", some "read_numbers"), "read_numbers", "Words.read_numbers", defArgs (mtd (top 46) 6), defBody (mtd (top 46) 6), sc_Words__read_numbers, [], []⟩
def d_Words__read_some : He.DefD := ⟨("Words", some "read_some"), "read_some", "Words.read_some", defArgs (mtd (top 46) 7), defBody (mtd (top 46) 7), sc_Words__read_some, [], []⟩
def d_Words__refuse_last : He.DefD := ⟨("Words", some "refuse_last"), "refuse_last", "Words.refuse_last", defArgs (mtd (top 46) 8), defBody (mtd (top 46) 8), sc_Words__refuse_last, [], []⟩
def d_Words__need_over : He.DefD := ⟨("Words", some "need_over"), "need_over", "Words.need_over", defArgs (mtd (top 46) 9), defBody (mtd (top 46) 9), sc_Words__need_over, [], []⟩
def fn1 : List He.DefD := [d_is_integer, d_is_between, d_are_rising, d_need_prime, d_is_sign, d_are_signs, d_rest_of, d_value_in, d_inverse_in, d_times_root, d_through_in, d_is_laying, d_need_laying, d_profile_in, d_needs_in, d_is_pair, d_need_mail_of, d_need_mail, d_points_at, d_fits_at, d_unfit_in, d_read_in, d_suspects_in, d_lines_in, d_letter_in, d_pair_in]
def fn2 : List He.DefD := [d_number_in, d_saying_in, d_count_in, d_parts_in, d_is_so, d_judged, d__law_mixed, d__law_begin, d__law_draw, d__law_heard, d__law_refused_right, d_law, di_BadPrime, di_BadLaying, di_BadMail, di_BadText, d_Words____init__, d_Words__is_over, d_Words__refuse, d_Words__next_word, d_Words__read_word, d_Words__read_number, d_Words__read_numbers, d_Words__read_some, d_Words__refuse_last, d_Words__need_over]
def fn : List He.DefD := fn1 ++ fn2
open He in
def ex : PySem.W.Frag → Bool := fun K => (tupB K "PRIMES" [(.int 11), (.int 13), (.int 17), (.int 19), (.int 23)]) && (xB K "BadPrime" "given" "ValueError.__new__" tlV) && (xB K "BadLaying" "given" "ValueError.__new__" tlV) && (xB K "BadMail" "given" "ValueError.__new__" tlV) && (xB2 K "BadText" "line" "word" "ValueError.__new__" tlV) && (ownB K (He.ga K "NestError") "ValueError.__init__") && (valsB K (He.ga K "NUMBERS") (i_NUMBERS.map fun q => (q.1, Dv.int q.2))) && (ycB K 0) && (mkB K 0 (He.fAd K ("Words", some "__init__"))) && (mtB K 0 "is_over" (He.fAd K ("Words", some "is_over"))) && (mtB K 0 "refuse" (He.fAd K ("Words", some "refuse"))) && (mtB K 0 "next_word" (He.fAd K ("Words", some "next_word"))) && (mtB K 0 "read_word" (He.fAd K ("Words", some "read_word"))) && (mtB K 0 "read_number" (He.fAd K ("Words", some "read_number"))) && (mtB K 0 "read_numbers" (He.fAd K ("Words", some "read_numbers"))) && (mtB K 0 "read_some" (He.fAd K ("Words", some "read_some"))) && (mtB K 0 "refuse_last" (He.fAd K ("Words", some "refuse_last"))) && (mtB K 0 "need_over" (He.fAd K ("Words", some "need_over"))) && (true)
def names0 : List Str := ["NestError", "BadPrime", "BadLaying", "BadMail", "BadText", "Words", "PRIMES", "MOST_LETTERS", "MOST_SHARE", "MOST_ROOM", "BLANK", "LINE_END", "NONE", "COLON", "FIGURES", "MOST_FIGURES", "SOUND", "KNOWN", "SIGN", "UNFIT"]
def names1 : List Str := ["SUSPECT", "CAME", "NUMBERS", "is_integer", "is_between", "are_rising", "need_prime", "is_sign", "are_signs", "rest_of", "value_in", "inverse_in", "times_root", "through_in", "is_laying", "need_laying", "profile_in", "needs_in", "is_pair", "need_mail_of"]
def names2 : List Str := ["need_mail", "points_at", "fits_at", "unfit_in", "read_in", "suspects_in", "lines_in", "letter_in", "pair_in", "number_in", "saying_in", "count_in", "parts_in", "is_so", "judged", "_law_mixed", "_law_begin", "_law_draw", "_law_heard", "_law_refused_right"]
def names : List Str := names0 ++ names1 ++ names2
abbrev R : PySem.W.OpenRow := PySem.W.OpenLaw.row PySem.Challenge.rw_nestletters_k36_sheets_by_hand
open He in
def ts : List Tab := [(fun K => He.ga K "NUMBERS", keysL k_NUMBERS)]
def ads : List Addr := [1, 2, 3, 6, 4, 24, 44, 63, 82, 101, 110, 111, 118, 123, 130, 137, 142, 149, 156, 161, 168, 173, 178, 185, 192, 199, 206, 211, 218, 223, 228, 235, 242, 247, 252, 330, 341, 348, 349, 356, 363, 370, 375, 380, 385, 392, 397, 404, 411, 418, 423, 0, 23, 43, 62, 81, 100, 109, 117, 122, 129, 136, 141, 148, 155, 160, 167, 172, 177, 184, 191, 198, 205, 210, 217, 222, 227, 234, 241, 246, 251, 329, 340, 347, 355, 362, 369, 374, 379, 384, 391, 396, 403, 410, 417, 422, 22, 25, 41, 42, 60, 61, 79, 80, 98, 99, 104, 105, 106, 107, 108, 112, 113, 114, 115, 116, 119, 120, 121, 124, 125, 126, 127, 128, 131, 132, 133, 134, 135, 138, 139, 140, 143, 144, 145, 146, 147, 150, 151, 152, 153, 154, 157, 158, 159, 162, 163, 164, 165, 166, 169, 170, 171, 174, 175, 176, 179, 180, 181, 182, 183, 186, 187, 188, 189, 190, 193, 194, 195, 196, 197, 200, 201, 202, 203, 204, 207, 208, 209, 212, 213, 214, 215, 216, 219, 220, 221, 224, 225, 226, 229, 230, 231, 232, 233, 236, 237, 238, 239, 240, 243, 244, 245, 248, 249, 250, 266, 273, 280, 287, 294, 299, 306, 313, 320, 327, 328, 331, 332, 335, 336, 337, 338, 339, 342, 343, 344, 345, 346, 350, 351, 352, 353, 354, 357, 358, 359, 360, 361, 364, 365, 366, 367, 368, 371, 372, 373, 376, 377, 378, 381, 382, 383, 386, 387, 388, 389, 390, 393, 394, 395, 398, 399, 400, 401, 402, 405, 406, 407, 408, 409, 412, 413, 414, 415, 416, 419, 420, 421, 40, 59, 78, 97, 265, 272, 279, 286, 293, 298, 305, 312, 319, 326, 35, 36, 37, 38, 39, 54, 55, 56, 57, 58, 73, 74, 75, 76, 77, 92, 93, 94, 95, 96, 260, 261, 262, 263, 264, 267, 268, 269, 270, 271, 274, 275, 276, 277, 278, 281, 282, 283, 284, 285, 288, 289, 290, 291, 292, 295, 296, 297, 300, 301, 302, 303, 304, 307, 308, 309, 310, 311, 314, 315, 316, 317, 318, 321, 322, 323, 324, 325]
abbrev hk : PySem.W.Hook := hookK ads fa fn ts ex
def ob (s : PySem.W.SharedT) : AlK := obsK ads fa fn ts ex (HandSHeadRun.getT s)
theorem ob_eq (s : PySem.W.SharedT) : ob s = hk.obs s.abs := obsK_eq (HandSHeadRun.getT_eq s)
open HandSHeadRun PySem.W He in
set_option maxHeartbeats 0 in
theorem runZ : ∀ w : World, RunV R 8000 w (fun s => (looksF R.prog (boot_heap w.params) s.abs, seenQ (PySem.W.view R.prog [69]) names (importedModules R.prog.main.body) (fun s => xlAt (PySem.W.view R.prog [69]) [] s && recOk R.toRowW.records s) s.abs)) (true, openGood (PySem.W.view R.prog [69]) names) := by
  refine follow_both "special-get-raises" (fun b w => ?_)
  cases b <;> (intro os; kernel_rfl)
open HandSHeadRun PySem.W He in
set_option maxHeartbeats 0 in
theorem runA : ∀ w : World, RunV R 8000 w (fun s => obsD fa fn1 (frT (getT s) ads)) (valD fn1) := by
  refine follow_both "special-get-raises" (fun b w => ?_)
  cases b <;> (intro os; kernel_rfl)
open HandSHeadRun PySem.W He in
set_option maxHeartbeats 0 in
theorem runB : ∀ w : World, RunV R 8000 w (fun s => obsD [] fn2 (frT (getT s) ads)) (valD fn2) := by
  refine follow_both "special-get-raises" (fun b w => ?_)
  cases b <;> (intro os; kernel_rfl)
open HandSHeadRun PySem.W He in
set_option maxHeartbeats 0 in
theorem runC : ∀ w : World, RunV R 8000 w (fun s => ex (frT (getT s) ads)) true := by
  refine follow_both "special-get-raises" (fun b w => ?_)
  cases b <;> (intro os; kernel_rfl)
open HandSHeadRun PySem.W He in
set_option maxHeartbeats 0 in
theorem runD : ∀ w : World, RunV R 8000 w (fun s => tabOkB (getT s) (frT (getT s) ads)) true := by
  refine follow_both "special-get-raises" (fun b w => ?_)
  cases b <;> (intro os; kernel_rfl)
open HandSHeadRun PySem.W He in
set_option maxHeartbeats 0 in
theorem runE : ∀ w : World, RunV R 8000 w (fun s => ts.map fun t => dicW (frT (getT s) ads) (t.1 (frT (getT s) ads))) (valTs ts w) := by
  refine follow_both "special-get-raises" (fun b w => ?_)
  cases b <;> (intro os; kernel_rfl)
theorem run (w : World) : HandSHeadRun.RunEq R (PySem.W.view R.prog [69]) hk ob 8000 names w := run_partsK (runZ w) (runA w) (runB w) (runC w) (runD w) (runE w)
end Hd
end Lw
namespace Lw
open PySem PySem.Spec PyProof.Rows L2 PF
section
variable {P : Program} {w : World} {K : PySem.W.Frag} {mg : Str → Option Value} {base : Heap}
theorem xi_BadPrime {fd : FuncData} (F : FunD K "__init__" "BadPrime.__init__" (defArgs (mth (top 2))) (defBody (mth (top 2))) (defScope (mth (top 2))) [] [] (He.ma K (He.ga K (xName 4)) "__init__") fd) (gl : mg (xName 4) = some (.ref (He.ga K (xName 4)))) (xb : XB K (xName 4) "given" "ValueError.__new__" tlV) (g_NestError : mg "NestError" = some (.ref (He.ga K "NestError"))) (b_NestError : ownB K (He.ga K "NestError") "ValueError.__init__" = true) : XIs P w K mg base 4 "ValueError.__new__" tlV := by
  have sc : FnScope ["self", "given"] ["self", "given"] (defScope (mth (top 2))) := ⟨rfl, rfl, rfl, by decide +kernel, rfl, by decide +kernel, by decide +kernel⟩
  exact xb.is rfl gl PySem.F.excBase_ValueError (ini_ok (f := "given") F sc PySem.F.excBase_ValueError PySem.F.store_ValueError (.inl rfl) (.inl rfl) (by decide) (by decide) (fun _ _ _ _ _ _ => ownB_base rfl g_NestError b_NestError handed_VE (by decide)) (fun _ => ⟨_, rfl⟩) (fun _ => rfl) (fun _ => rfl)) (F.bindsN fun _ _ _ _ _ _ us hl => match us, hl with | [_, _], _ => rfl)
theorem xi_BadLaying {fd : FuncData} (F : FunD K "__init__" "BadLaying.__init__" (defArgs (mth (top 3))) (defBody (mth (top 3))) (defScope (mth (top 3))) [] [] (He.ma K (He.ga K (xName 6)) "__init__") fd) (gl : mg (xName 6) = some (.ref (He.ga K (xName 6)))) (xb : XB K (xName 6) "given" "ValueError.__new__" tlV) (g_NestError : mg "NestError" = some (.ref (He.ga K "NestError"))) (b_NestError : ownB K (He.ga K "NestError") "ValueError.__init__" = true) : XIs P w K mg base 6 "ValueError.__new__" tlV := by
  have sc : FnScope ["self", "given"] ["self", "given"] (defScope (mth (top 3))) := ⟨rfl, rfl, rfl, by decide +kernel, rfl, by decide +kernel, by decide +kernel⟩
  exact xb.is rfl gl PySem.F.excBase_ValueError (ini_ok (f := "given") F sc PySem.F.excBase_ValueError PySem.F.store_ValueError (.inl rfl) (.inl rfl) (by decide) (by decide) (fun _ _ _ _ _ _ => ownB_base rfl g_NestError b_NestError handed_VE (by decide)) (fun _ => ⟨_, rfl⟩) (fun _ => rfl) (fun _ => rfl)) (F.bindsN fun _ _ _ _ _ _ us hl => match us, hl with | [_, _], _ => rfl)
theorem xi_BadMail {fd : FuncData} (F : FunD K "__init__" "BadMail.__init__" (defArgs (mth (top 4))) (defBody (mth (top 4))) (defScope (mth (top 4))) [] [] (He.ma K (He.ga K (xName 7)) "__init__") fd) (gl : mg (xName 7) = some (.ref (He.ga K (xName 7)))) (xb : XB K (xName 7) "given" "ValueError.__new__" tlV) (g_NestError : mg "NestError" = some (.ref (He.ga K "NestError"))) (b_NestError : ownB K (He.ga K "NestError") "ValueError.__init__" = true) : XIs P w K mg base 7 "ValueError.__new__" tlV := by
  have sc : FnScope ["self", "given"] ["self", "given"] (defScope (mth (top 4))) := ⟨rfl, rfl, rfl, by decide +kernel, rfl, by decide +kernel, by decide +kernel⟩
  exact xb.is rfl gl PySem.F.excBase_ValueError (ini_ok (f := "given") F sc PySem.F.excBase_ValueError PySem.F.store_ValueError (.inl rfl) (.inl rfl) (by decide) (by decide) (fun _ _ _ _ _ _ => ownB_base rfl g_NestError b_NestError handed_VE (by decide)) (fun _ => ⟨_, rfl⟩) (fun _ => rfl) (fun _ => rfl)) (F.bindsN fun _ _ _ _ _ _ us hl => match us, hl with | [_, _], _ => rfl)
theorem xi_BadText {fd : FuncData} (F : FunD K "__init__" "BadText.__init__" (defArgs (mth (top 5))) (defBody (mth (top 5))) (defScope (mth (top 5))) [] [] (He.ma K (He.ga K (xName 22)) "__init__") fd) (gl : mg (xName 22) = some (.ref (He.ga K (xName 22)))) (xb : XB2 K (xName 22) "line" "word" "ValueError.__new__" tlV) (g_NestError : mg "NestError" = some (.ref (He.ga K "NestError"))) (b_NestError : ownB K (He.ga K "NestError") "ValueError.__init__" = true) : XIs2 P w K mg base 22 "ValueError.__new__" tlV := by
  have sc : FnScope ["self", "line", "word"] ["self", "line", "word"] (defScope (mth (top 5))) := ⟨rfl, rfl, rfl, by decide +kernel, rfl, by decide +kernel, by decide +kernel⟩
  exact xb.is rfl gl PySem.F.excBase_ValueError (ini_ok2 (f := "line") (g := "word") F sc PySem.F.excBase_ValueError PySem.F.store_ValueError (.inl rfl) (.inl rfl) (.inl rfl) (by decide) (by decide) (by decide) (by decide) (fun _ _ _ _ _ _ => ownB_base rfl g_NestError b_NestError handed_VE (by decide)) (fun _ => ⟨_, rfl⟩) (fun _ => rfl) (fun _ => rfl) (fun _ => rfl)) (F.bindsN fun _ _ _ _ _ _ us hl => match us, hl with | [_, _, _], _ => rfl)
theorem ok_is_integer {f : Addr} {fd : FuncData} (F : FnP K "is_integer" (top 7) sc_is_integer f fd) (gl : mg "is_integer" = some (.ref f)) (m_isinstance : mg "isinstance" = none) (m_int : mg "int" = none) (m_bool : mg "bool" = none) : FnGs P w K mg base 1 "is_integer" ["thing"] F_is_integer := by
  have sc : FnScope ["thing"] ["thing"] sc_is_integer := ⟨rfl, rfl, rfl, by decide +kernel, rfl, by decide +kernel, by decide +kernel⟩
  refine ⟨f, fd, fn_trG (k := 0) F sc (fun Γ cdv A outer s H E hcd hgd hr => ?_), gl, F.kp, F.bindsN fun _ _ _ _ _ _ us hl => match us, hl with | [_], _ => rfl⟩
  have tk : Takes (cxOf (L2.CX P w) P w K mg base ["thing"] "is_integer" sc_is_integer f cdv A outer s H E) (wOf E) := takes_of rfl rfl rfl rfl
  exact (trs_one (tr_ret (tr_and (tr_f1 ty_int (tr_isi isi_int rfl m_isinstance rfl m_int boot_ty_int (tr_var 0))) (tr_one (tr_not (tr_f1 ty_bool (tr_isi isi_bool rfl m_isinstance rfl m_bool boot_ty_bool (tr_var 0))))))))
theorem ok_is_between {f : Addr} {fd : FuncData} (F : FnP K "is_between" (top 10) sc_is_between f fd) (gl : mg "is_between" = some (.ref f)) (h_is_integer : FnGs P w K mg base 1 "is_integer" ["thing"] F_is_integer) : FnGs P w K mg base 2 "is_between" ["thing", "least", "most"] F_is_between := by
  have sc : FnScope ["thing", "least", "most"] ["thing", "least", "most"] sc_is_between := ⟨rfl, rfl, rfl, by decide +kernel, rfl, by decide +kernel, by decide +kernel⟩
  refine ⟨f, fd, fn_trG (k := 1) F sc (fun Γ cdv A outer s H E hcd hgd hr => ?_), gl, F.kp, F.bindsN fun _ _ _ _ _ _ us hl => match us, hl with | [_, _, _], _ => rfl⟩
  have tk : Takes (cxOf (L2.CX P w) P w K mg base ["thing", "least", "most"] "is_between" sc_is_between f cdv A outer s H E) (wOf E) := takes_of rfl rfl rfl rfl
  exact (trs_one (tr_ret (tr_and (tr_callG h_is_integer hgd (hr.mono (by decide)) tk rfl (tra_cons (tr_var 0) tra_nil)) (tr_one (tr_chain op_le op_le sem_le sem_le (tr_var 1) (tr_var 0) (tr_var 2))))))
theorem ok_are_rising {f : Addr} {fd : FuncData} (F : FnP K "are_rising" (top 11) sc_are_rising f fd) (gl : mg "are_rising" = some (.ref f)) (m_all : mg "all" = none) (m_zip : mg "zip" = none) : FnGs P w K mg base 1 "are_rising" ["some"] F_are_rising := by
  have sc : FnScope ["some", "one", "other"] ["some"] sc_are_rising := ⟨rfl, rfl, rfl, by decide +kernel, rfl, by decide +kernel, by decide +kernel⟩
  refine ⟨f, fd, fn_trG (k := 0) F sc (fun Γ cdv A outer s H E hcd hgd hr => ?_), gl, F.kp, F.bindsN fun _ _ _ _ _ _ us hl => match us, hl with | [_], _ => rfl⟩
  have tk : Takes (cxOf (L2.CX P w) P w K mg base ["some", "one", "other"] "are_rising" sc_are_rising f cdv A outer s H E) (wOf E) := takes_of rfl rfl rfl rfl
  exact (trs_one (tr_ret (tr_callB (cr_all rfl) sem_all rfl m_all bo_all (tra_cons (tr_lc (own := [("one", 1), ("other", 2)]) rfl sc.nd (tri_zip rfl m_zip (tra_cons (tr_var 0) (tra_cons (tr_slice (tr_var 0) (tro_some tr_int) tro_no) tra_nil))) (blkOk_by (N := ["some", "one", "other"]) (sc := sc_are_rising) (by decide +kernel)) (by decide) (fun _ _ _ _ _ => (trg_tup rfl (trgs_cons (trg_name sc.nd rfl (by first | exact .inl rfl | exact .inr rfl)) (trgs_cons (trg_name sc.nd rfl (by first | exact .inl rfl | exact .inr rfl)) trgs_nil)))) (fun _ _ _ _ _ => trt_nil) (fun _ _ _ _ _ => (tr_cmp op_lt sem_lt (tr_var 1) (tr_var 2) (nomark _)))) tra_nil))))
theorem ok_need_prime {f : Addr} {fd : FuncData} (F : FnP K "need_prime" (top 12) sc_need_prime f fd) (gl : mg "need_prime" = some (.ref f)) (c_PRIMES : CsIs K mg "PRIMES" k_PRIMES) (x_BadPrime : XIs P w K mg base 4 "ValueError.__new__" tlV) (h_is_integer : FnGs P w K mg base 1 "is_integer" ["thing"] F_is_integer) : FnGs P w K mg base 3 "need_prime" ["prime"] F_need_prime := by
  have sc : FnScope ["prime"] ["prime"] sc_need_prime := ⟨rfl, rfl, rfl, by decide +kernel, rfl, by decide +kernel, by decide +kernel⟩
  refine ⟨f, fd, fn_trG (k := 2) F sc (fun Γ cdv A outer s H E hcd hgd hr => ?_), gl, F.kp, F.bindsN fun _ _ _ _ _ _ us hl => match us, hl with | [_], _ => rfl⟩
  have tk : Takes (cxOf (L2.CX P w) P w K mg base ["prime"] "need_prime" sc_need_prime f cdv A outer s H E) (wOf E) := takes_of rfl rfl rfl rfl
  exact (trs_one (tr_ifs (TrW.toB (trw_or (trb_not (trb_tru (tr_callG h_is_integer hgd (hr.mono (by decide)) tk rfl (tra_cons (tr_var 0) tra_nil)))) (trw_or1 (trb_cmp (op_ninW (Room.units65 hr)) sem_nin (tr_var 0) (tr_cs c_PRIMES rfl) (by with_unfolding_all rfl))))) (trs_one (tr_raise (n := 4) x_BadPrime rfl tk (hr.mono (by decide)) rfl (tra_cons (tr_var 0) tra_nil))) trs_nil))
theorem ok_is_sign {f : Addr} {fd : FuncData} (F : FnP K "is_sign" (top 13) sc_is_sign f fd) (gl : mg "is_sign" = some (.ref f)) (h_is_between : FnGs P w K mg base 2 "is_between" ["thing", "least", "most"] F_is_between) : FnGs P w K mg base 3 "is_sign" ["prime", "thing"] F_is_sign := by
  have sc : FnScope ["prime", "thing"] ["prime", "thing"] sc_is_sign := ⟨rfl, rfl, rfl, by decide +kernel, rfl, by decide +kernel, by decide +kernel⟩
  refine ⟨f, fd, fn_trG (k := 2) F sc (fun Γ cdv A outer s H E hcd hgd hr => ?_), gl, F.kp, F.bindsN fun _ _ _ _ _ _ us hl => match us, hl with | [_, _], _ => rfl⟩
  have tk : Takes (cxOf (L2.CX P w) P w K mg base ["prime", "thing"] "is_sign" sc_is_sign f cdv A outer s H E) (wOf E) := takes_of rfl rfl rfl rfl
  exact (trs_one (tr_ret (tr_callG h_is_between hgd (hr.mono (by decide)) tk rfl (tra_cons (tr_var 1) (tra_cons tr_int (tra_cons (tr_op op_sub sem_sub (tr_var 0) tr_int) tra_nil))))))
theorem ok_are_signs {f : Addr} {fd : FuncData} (F : FnP K "are_signs" (top 14) sc_are_signs f fd) (gl : mg "are_signs" = some (.ref f)) (m_isinstance : mg "isinstance" = none) (m_tuple : mg "tuple" = none) (m_all : mg "all" = none) (h_is_sign : FnGs P w K mg base 3 "is_sign" ["prime", "thing"] F_is_sign) : FnGs P w K mg base 4 "are_signs" ["prime", "thing"] F_are_signs := by
  have sc : FnScope ["prime", "thing", "one"] ["prime", "thing"] sc_are_signs := ⟨rfl, rfl, rfl, by decide +kernel, rfl, by decide +kernel, by decide +kernel⟩
  refine ⟨f, fd, fn_trG (k := 3) F sc (fun Γ cdv A outer s H E hcd hgd hr => ?_), gl, F.kp, F.bindsN fun _ _ _ _ _ _ us hl => match us, hl with | [_, _], _ => rfl⟩
  have tk : Takes (cxOf (L2.CX P w) P w K mg base ["prime", "thing", "one"] "are_signs" sc_are_signs f cdv A outer s H E) (wOf E) := takes_of rfl rfl rfl rfl
  exact (trs_one (tr_ret (tr_and (tr_f1 ty_tuple (tr_isi isi_tuple rfl m_isinstance rfl m_tuple boot_ty_tuple (tr_var 1))) (tr_one (tr_callB (cr_all rfl) sem_all rfl m_all bo_all (tra_cons (tr_lc (own := [("one", 2)]) rfl sc.nd (tri_tup (tr_var 1)) (blkOk_by (N := ["prime", "thing", "one"]) (sc := sc_are_signs) (by decide +kernel)) (by decide) (fun _ _ _ _ _ => (trg_name sc.nd rfl (by first | exact .inl rfl | exact .inr rfl))) (fun _ _ _ _ _ => trt_nil) (fun _ _ _ _ _ => (tr_callG h_is_sign hgd (hr.mono (by decide)) takes0 rfl (tra_cons (tr_var 0) (tra_cons (tr_var 2) tra_nil))))) tra_nil))))))
theorem ok_rest_of {f : Addr} {fd : FuncData} (F : FnP K "rest_of" (top 15) sc_rest_of f fd) (gl : mg "rest_of" = some (.ref f)) (m_int : mg "int" = none) : FnGs P w K mg base 1 "rest_of" ["prime", "number"] F_rest_of := by
  have sc : FnScope ["prime", "number"] ["prime", "number"] sc_rest_of := ⟨rfl, rfl, rfl, by decide +kernel, rfl, by decide +kernel, by decide +kernel⟩
  refine ⟨f, fd, fn_trG (k := 0) F sc (fun Γ cdv A outer s H E hcd hgd hr => ?_), gl, F.kp, F.bindsN fun _ _ _ _ _ _ us hl => match us, hl with | [_, _], _ => rfl⟩
  have tk : Takes (cxOf (L2.CX P w) P w K mg base ["prime", "number"] "rest_of" sc_rest_of f cdv A outer s H E) (wOf E) := takes_of rfl rfl rfl rfl
  exact (trs_one (tr_ret (tr_op op_mod sem_mod (tr_fL intSF_eq (tr_callTy (callR_or call_int1 call_int_str) sem_intS rfl m_int bo_int (tra_cons (tr_var 1) tra_nil))) (tr_var 0))))
theorem ok_value_in {f : Addr} {fd : FuncData} (F : FnP K "value_in" (top 16) sc_value_in f fd) (gl : mg "value_in" = some (.ref f)) (h_rest_of : FnGs P w K mg base 1 "rest_of" ["prime", "number"] F_rest_of) : FnGs P w K mg base 2 "value_in" ["prime", "block", "sign"] F_value_in := by
  have sc : FnScope ["prime", "block", "sign", "found", "one"] ["prime", "block", "sign"] sc_value_in := ⟨rfl, rfl, rfl, by decide +kernel, rfl, by decide +kernel, by decide +kernel⟩
  refine ⟨f, fd, fn_trG (k := 1) F sc (fun Γ cdv A outer s H E hcd hgd hr => ?_), gl, F.kp, F.bindsN fun _ _ _ _ _ _ us hl => match us, hl with | [_, _, _], _ => rfl⟩
  have tk : Takes (cxOf (L2.CX P w) P w K mg base ["prime", "block", "sign", "found", "one"] "value_in" sc_value_in f cdv A outer s H E) (wOf E) := takes_of rfl rfl rfl rfl
  exact (trs_cons (tr_set (i := 3) sc.nd rfl (.inl rfl) tr_int) (trs_cons (tr_for (passes_of rfl) rfl (tri_tup (tr_back (tr_var 1))) (trg_name sc.nd rfl (.inl rfl)) (trs_one (tr_set (i := 3) sc.nd rfl (.inl rfl) (tr_callG h_rest_of hgd (hr.mono (by decide)) tk rfl (tra_cons (tr_var 0) (tra_cons (tr_f2 addF_eq (tr_op op_addW sem_add (tr_op op_mulW sem_mul (tr_var 3) (tr_var 2)) (tr_var 4))) tra_nil)))))) (trs_one (tr_ret (tr_var 3)))))
theorem ok_inverse_in {f : Addr} {fd : FuncData} (F : FnP K "inverse_in" (top 17) sc_inverse_in f fd) (gl : mg "inverse_in" = some (.ref f)) (m_range : mg "range" = none) (h_rest_of : FnGs P w K mg base 1 "rest_of" ["prime", "number"] F_rest_of) : FnGs P w K mg base 2 "inverse_in" ["prime", "sign"] F_inverse_in := by
  have sc : FnScope ["prime", "sign", "one"] ["prime", "sign"] sc_inverse_in := ⟨rfl, rfl, rfl, by decide +kernel, rfl, by decide +kernel, by decide +kernel⟩
  refine ⟨f, fd, fn_trG (k := 1) F sc (fun Γ cdv A outer s H E hcd hgd hr => ?_), gl, F.kp, F.bindsN fun _ _ _ _ _ _ us hl => match us, hl with | [_, _], _ => rfl⟩
  have tk : Takes (cxOf (L2.CX P w) P w K mg base ["prime", "sign", "one"] "inverse_in" sc_inverse_in f cdv A outer s H E) (wOf E) := takes_of rfl rfl rfl rfl
  exact (trs_one (tr_ret (tr_ix ix_seq sem_ix (tr_lc (own := [("one", 2)]) rfl sc.nd (tri_rng2 rfl m_range (tra_cons tr_int (tra_cons (tr_var 0) tra_nil))) (blkOk_by (N := ["prime", "sign", "one"]) (sc := sc_inverse_in) (by decide +kernel)) (by decide) (fun _ _ _ _ _ => (trg_name sc.nd rfl (by first | exact .inl rfl | exact .inr rfl))) (fun _ _ _ _ _ => (trt_one (trb_cmp (op_eqS hr.units) sem_eqS (tr_callG h_rest_of hgd (hr.mono (by decide)) takes0 rfl (tra_cons (tr_var 0) (tra_cons (tr_op op_mulW sem_mul (tr_var 2) (tr_var 1)) tra_nil))) tr_int (nomark _)))) (fun _ _ _ _ _ => (tr_var 2))) tr_int)))
theorem ok_times_root {f : Addr} {fd : FuncData} (F : FnP K "times_root" (top 18) sc_times_root f fd) (gl : mg "times_root" = some (.ref f)) (m_enumerate : mg "enumerate" = none) (h_rest_of : FnGs P w K mg base 1 "rest_of" ["prime", "number"] F_rest_of) : FnGs P w K mg base 2 "times_root" ["prime", "block", "root"] F_times_root := by
  have sc : FnScope ["prime", "block", "root", "found", "spot", "one"] ["prime", "block", "root"] sc_times_root := ⟨rfl, rfl, rfl, by decide +kernel, rfl, by decide +kernel, by decide +kernel⟩
  refine ⟨f, fd, fn_trG (k := 1) F sc (fun Γ cdv A outer s H E hcd hgd hr => ?_), gl, F.kp, F.bindsN fun _ _ _ _ _ _ us hl => match us, hl with | [_, _, _], _ => rfl⟩
  have tk : Takes (cxOf (L2.CX P w) P w K mg base ["prime", "block", "root", "found", "spot", "one"] "times_root" sc_times_root f cdv A outer s H E) (wOf E) := takes_of rfl rfl rfl rfl
  exact (trs_cons (tr_own (i := 3) sc.nd rfl (.inl rfl) (tra_cons tr_int (tra_star (tr_var 1) tra_nil))) (trs_cons (tr_for (passes_of rfl) rfl (tri_enL rfl m_enumerate (tra_cons (tr_var 1) tra_nil)) (trg_tup rfl (trgs_cons (trg_name sc.nd rfl (.inl rfl)) (trgs_cons (trg_name sc.nd rfl (.inl rfl)) trgs_nil))) (trs_one (tr_at (pv 3) (tr_var 4) (tr_callG h_rest_of hgd (hr.mono (by decide)) tk rfl (tra_cons (tr_var 0) (tra_cons (tr_op op_sub sem_sub (tr_ixO (pv 3) (tr_var 4)) (tr_op op_mulW sem_mul (tr_var 2) (tr_var 5))) tra_nil)))))) (trs_one (tr_frz 3 (tr_ret (tr_var 3))))))
theorem ok_through_in {f : Addr} {fd : FuncData} (F : FnP K "through_in" (top 19) sc_through_in f fd) (gl : mg "through_in" = some (.ref f)) (m_len : mg "len" = none) (m_zip : mg "zip" = none) (m_tuple : mg "tuple" = none) (h_rest_of : FnGs P w K mg base 1 "rest_of" ["prime", "number"] F_rest_of) (h_times_root : FnGs P w K mg base 2 "times_root" ["prime", "block", "root"] F_times_root) (h_inverse_in : FnGs P w K mg base 2 "inverse_in" ["prime", "sign"] F_inverse_in) : FnGs P w K mg base 3 "through_in" ["prime", "points"] F_through_in := by
  have sc : FnScope ["prime", "points", "found", "one", "value", "block", "bottom", "other", "rest", "factor", "near", "far"] ["prime", "points"] sc_through_in := ⟨rfl, rfl, rfl, by decide +kernel, rfl, by decide +kernel, by decide +kernel⟩
  refine ⟨f, fd, fn_trG (k := 2) F sc (fun Γ cdv A outer s H E hcd hgd hr => ?_), gl, F.kp, F.bindsN fun _ _ _ _ _ _ us hl => match us, hl with | [_, _], _ => rfl⟩
  have tk : Takes (cxOf (L2.CX P w) P w K mg base ["prime", "points", "found", "one", "value", "block", "bottom", "other", "rest", "factor", "near", "far"] "through_in" sc_through_in f cdv A outer s H E) (wOf E) := takes_of rfl rfl rfl rfl
  exact (trs_cons (tr_set (i := 2) sc.nd rfl (.inl rfl) (tr_op op_rep sem_mulL (tr_lst (tra_cons tr_int tra_nil)) (tr_callB call_len sem_len rfl m_len bo_len (tra_cons (tr_var 1) tra_nil)))) (trs_cons (tr_for (passes_of rfl) rfl (tri_tup (tr_var 1)) (trg_tup rfl (trgs_cons (trg_name sc.nd rfl (.inl rfl)) (trgs_cons (trg_name sc.nd rfl (.inl rfl)) trgs_nil))) (trs_cons (tr_par (ps_par rfl sc.nd rfl rfl (by decide) rfl rfl (tra_cons (tr_lst (tra_cons tr_int tra_nil)) (tra_cons tr_int tra_nil)) (by rfl))) (trs_cons (tr_for (passes_of rfl) rfl (tri_tup (tr_var 1)) (trg_tup rfl (trgs_cons (trg_name sc.nd rfl (.inl rfl)) (trgs_cons (trg_name sc.nd rfl (.inl rfl)) trgs_nil))) (trs_one (tr_ifs (trb_cmp (op_neS hr.units) sem_neS (tr_var 7) (tr_var 3) (nomark _)) (trs_one (tr_par (ps_par rfl sc.nd rfl rfl (by decide) rfl rfl (tra_cons (tr_callG h_times_root hgd (hr.mono (by decide)) tk rfl (tra_cons (tr_var 0) (tra_cons (tr_var 5) (tra_cons (tr_var 7) tra_nil)))) (tra_cons (tr_callG h_rest_of hgd (hr.mono (by decide)) tk rfl (tra_cons (tr_var 0) (tra_cons (tr_op op_mulW sem_mul (tr_var 6) (tr_op op_sub sem_sub (tr_var 3) (tr_var 7))) tra_nil))) tra_nil)) (by rfl)))) trs_nil))) (trs_cons (tr_set (i := 9) sc.nd rfl (.inr rfl) (tr_callG h_rest_of hgd (hr.mono (by decide)) tk rfl (tra_cons (tr_var 0) (tra_cons (tr_op op_mulW sem_mul (tr_var 4) (tr_callG h_inverse_in hgd (hr.mono (by decide)) tk rfl (tra_cons (tr_var 0) (tra_cons (tr_var 6) tra_nil)))) tra_nil)))) (trs_one (tr_setLc (i := 2) (own := [("near", 10), ("far", 11)]) rfl sc.nd rfl rfl (sw_true rfl rfl rfl (by decide +kernel)) (tri_zip rfl m_zip (tra_cons (tr_var 2) (tra_cons (tr_var 5) tra_nil))) (blkOk_by (N := ["prime", "points", "found", "one", "value", "block", "bottom", "other", "rest", "factor", "near", "far"]) (sc := sc_through_in) (by decide +kernel)) (by decide) (fun _ _ _ _ _ => (trg_tup rfl (trgs_cons (trg_name sc.nd rfl (by first | exact .inl rfl | exact .inr rfl)) (trgs_cons (trg_name sc.nd rfl (by first | exact .inl rfl | exact .inr rfl)) trgs_nil)))) (fun _ _ _ _ _ => trt_nil) (fun _ _ _ _ _ => (tr_callG h_rest_of hgd (hr.mono (by decide)) takes0 rfl (tra_cons (tr_var 0) (tra_cons (tr_f2 addF_eq (tr_op op_addW sem_add (tr_var 10) (tr_op op_mulW sem_mul (tr_var 9) (tr_var 11)))) tra_nil)))))))))) (trs_one (tr_ret (tr_callTy call_tuple_of sem_tupOf rfl m_tuple bo_tuple (tra_cons (tr_var 2) tra_nil))))))
theorem ok_is_laying {f : Addr} {fd : FuncData} (F : FnP K "is_laying" (top 24) sc_is_laying f fd) (gl : mg "is_laying" = some (.ref f)) (m_isinstance : mg "isinstance" = none) (m_tuple : mg "tuple" = none) (m_len : mg "len" = none) (m_all : mg "all" = none) (m_sum : mg "sum" = none) (c_MOST_LETTERS : CsIs K mg "MOST_LETTERS" k_MOST_LETTERS) (c_MOST_SHARE : CsIs K mg "MOST_SHARE" k_MOST_SHARE) (c_MOST_ROOM : CsIs K mg "MOST_ROOM" k_MOST_ROOM) (h_is_between : FnGs P w K mg base 2 "is_between" ["thing", "least", "most"] F_is_between) : FnGs P w K mg base 3 "is_laying" ["thing"] F_is_laying := by
  have sc : FnScope ["thing", "share"] ["thing"] sc_is_laying := ⟨rfl, rfl, rfl, by decide +kernel, rfl, by decide +kernel, by decide +kernel⟩
  refine ⟨f, fd, fn_trG (k := 2) F sc (fun Γ cdv A outer s H E hcd hgd hr => ?_), gl, F.kp, F.bindsN fun _ _ _ _ _ _ us hl => match us, hl with | [_], _ => rfl⟩
  have tk : Takes (cxOf (L2.CX P w) P w K mg base ["thing", "share"] "is_laying" sc_is_laying f cdv A outer s H E) (wOf E) := takes_of rfl rfl rfl rfl
  exact (trs_cons (tr_ifs (TrW.toB (trw_or (trb_not (trb_tru (tr_f1 ty_tuple (tr_isi isi_tuple rfl m_isinstance rfl m_tuple boot_ty_tuple (tr_var 0))))) (trw_or1 (trb_not (trb_chain op_le op_le sem_le sem_le tr_int (tr_callB call_len sem_len rfl m_len bo_len (tra_cons (tr_var 0) tra_nil)) (tr_cs c_MOST_LETTERS rfl)))))) (trs_one (tr_ret tr_bl)) trs_nil) (trs_one (tr_ret (tr_and (tr_callB (cr_all rfl) sem_all rfl m_all bo_all (tra_cons (tr_lc (own := [("share", 1)]) rfl sc.nd (tri_tup (tr_var 0)) (blkOk_by (N := ["thing", "share"]) (sc := sc_is_laying) (by decide +kernel)) (by decide) (fun _ _ _ _ _ => (trg_name sc.nd rfl (by first | exact .inl rfl | exact .inr rfl))) (fun _ _ _ _ _ => trt_nil) (fun _ _ _ _ _ => (tr_callG h_is_between hgd (hr.mono (by decide)) takes0 rfl (tra_cons (tr_var 1) (tra_cons tr_int (tra_cons (tr_cs c_MOST_SHARE rfl) tra_nil)))))) tra_nil)) (tr_one (tr_cmp op_le sem_le (tr_callB (callR_or (cr_sum rfl) (cr_sumT rfl)) sem_sum rfl m_sum bo_sum (tra_cons (tr_var 0) tra_nil)) (tr_cs c_MOST_ROOM rfl) (nomark _)))))))
theorem ok_need_laying {f : Addr} {fd : FuncData} (F : FnP K "need_laying" (top 25) sc_need_laying f fd) (gl : mg "need_laying" = some (.ref f)) (x_BadLaying : XIs P w K mg base 6 "ValueError.__new__" tlV) (h_is_laying : FnGs P w K mg base 3 "is_laying" ["thing"] F_is_laying) : FnGs P w K mg base 4 "need_laying" ["thing"] F_need_laying := by
  have sc : FnScope ["thing"] ["thing"] sc_need_laying := ⟨rfl, rfl, rfl, by decide +kernel, rfl, by decide +kernel, by decide +kernel⟩
  refine ⟨f, fd, fn_trG (k := 3) F sc (fun Γ cdv A outer s H E hcd hgd hr => ?_), gl, F.kp, F.bindsN fun _ _ _ _ _ _ us hl => match us, hl with | [_], _ => rfl⟩
  have tk : Takes (cxOf (L2.CX P w) P w K mg base ["thing"] "need_laying" sc_need_laying f cdv A outer s H E) (wOf E) := takes_of rfl rfl rfl rfl
  exact (trs_cons (tr_ifs (trb_not (trb_tru (tr_callG h_is_laying hgd (hr.mono (by decide)) tk rfl (tra_cons (tr_var 0) tra_nil)))) (trs_one (tr_raise (n := 6) x_BadLaying rfl tk (hr.mono (by decide)) rfl (tra_cons (tr_var 0) tra_nil))) trs_nil) (trs_one (tr_ret (tr_var 0))))
theorem ok_profile_in {f : Addr} {fd : FuncData} (F : FnP K "profile_in" (top 26) sc_profile_in f fd) (gl : mg "profile_in" = some (.ref f)) (m_enumerate : mg "enumerate" = none) : FnGs P w K mg base 1 "profile_in" ["laying"] F_profile_in := by
  have sc : FnScope ["laying", "found", "last", "spot", "share"] ["laying"] sc_profile_in := ⟨rfl, rfl, rfl, by decide +kernel, rfl, by decide +kernel, by decide +kernel⟩
  refine ⟨f, fd, fn_trG (k := 0) F sc (fun Γ cdv A outer s H E hcd hgd hr => ?_), gl, F.kp, F.bindsN fun _ _ _ _ _ _ us hl => match us, hl with | [_], _ => rfl⟩
  have tk : Takes (cxOf (L2.CX P w) P w K mg base ["laying", "found", "last", "spot", "share"] "profile_in" sc_profile_in f cdv A outer s H E) (wOf E) := takes_of rfl rfl rfl rfl
  exact (trs_cons (tr_ownPar (by decide) (ps_par rfl sc.nd rfl rfl (by decide) rfl rfl (pa_cons (pe_lst pa_nil) (tra_cons tr_int tra_nil)) (by rfl))) (trs_cons (tr_for (passes_of rfl) rfl (tri_enT rfl m_enumerate (tra_cons (tr_var 0) tra_nil)) (trg_tup rfl (trgs_cons (trg_name sc.nd rfl (.inl rfl)) (trgs_cons (trg_name sc.nd rfl (.inl rfl)) trgs_nil))) (trs_cons (tr_set (i := 2) sc.nd rfl (.inl rfl) (tr_f2 addF_eq (tr_op op_addW sem_add (tr_var 2) (tr_op op_mulW sem_mul (tr_f2 addF_eq (tr_op op_addW sem_add (tr_var 3) tr_int)) (tr_var 4))))) (trs_one (tr_app (pv 1) (tra_cons (tr_var 2) tra_nil))))) (trs_one (tr_frz 1 (tr_ret (tr_var 1))))))
theorem ok_needs_in {f : Addr} {fd : FuncData} (F : FnP K "needs_in" (top 27) sc_needs_in f fd) (gl : mg "needs_in" = some (.ref f)) (m_enumerate : mg "enumerate" = none) (m_int : mg "int" = none) : FnGs P w K mg base 1 "needs_in" ["laying"] F_needs_in := by
  have sc : FnScope ["laying", "found", "spot", "share"] ["laying"] sc_needs_in := ⟨rfl, rfl, rfl, by decide +kernel, rfl, by decide +kernel, by decide +kernel⟩
  refine ⟨f, fd, fn_trG (k := 0) F sc (fun Γ cdv A outer s H E hcd hgd hr => ?_), gl, F.kp, F.bindsN fun _ _ _ _ _ _ us hl => match us, hl with | [_], _ => rfl⟩
  have tk : Takes (cxOf (L2.CX P w) P w K mg base ["laying", "found", "spot", "share"] "needs_in" sc_needs_in f cdv A outer s H E) (wOf E) := takes_of rfl rfl rfl rfl
  exact (trs_cons (tr_set (i := 1) sc.nd rfl (.inl rfl) (tr_lst tra_nil)) (trs_cons (tr_for (passes_of rfl) rfl (tri_enT rfl m_enumerate (tra_cons (tr_var 0) tra_nil)) (trg_tup rfl (trgs_cons (trg_name sc.nd rfl (.inl rfl)) (trgs_cons (trg_name sc.nd rfl (.inl rfl)) trgs_nil))) (trs_one (tr_set (i := 1) sc.nd rfl (.inl rfl) (tr_f2 addF_eq (tr_op op_addW sem_add (tr_var 1) (tr_op op_rep sem_mulL (tr_lst (tra_cons (tr_f2 addF_eq (tr_op op_addW sem_add (tr_var 2) tr_int)) tra_nil)) (tr_fL intSF_eq (tr_callTy (callR_or call_int1 call_int_str) sem_intS rfl m_int bo_int (tra_cons (tr_var 3) tra_nil))))))))) (trs_one (tr_ret (tr_var 1)))))
theorem ok_is_pair {f : Addr} {fd : FuncData} (F : FnP K "is_pair" (top 29) sc_is_pair f fd) (gl : mg "is_pair" = some (.ref f)) (m_isinstance : mg "isinstance" = none) (m_tuple : mg "tuple" = none) (m_len : mg "len" = none) (m_sum : mg "sum" = none) (h_is_between : FnGs P w K mg base 2 "is_between" ["thing", "least", "most"] F_is_between) (h_are_signs : FnGs P w K mg base 4 "are_signs" ["prime", "thing"] F_are_signs) : FnGs P w K mg base 5 "is_pair" ["prime", "laying", "thing"] F_is_pair := by
  have sc : FnScope ["prime", "laying", "thing"] ["prime", "laying", "thing"] sc_is_pair := ⟨rfl, rfl, rfl, by decide +kernel, rfl, by decide +kernel, by decide +kernel⟩
  refine ⟨f, fd, fn_trG (k := 4) F sc (fun Γ cdv A outer s H E hcd hgd hr => ?_), gl, F.kp, F.bindsN fun _ _ _ _ _ _ us hl => match us, hl with | [_, _, _], _ => rfl⟩
  have tk : Takes (cxOf (L2.CX P w) P w K mg base ["prime", "laying", "thing"] "is_pair" sc_is_pair f cdv A outer s H E) (wOf E) := takes_of rfl rfl rfl rfl
  exact (trs_cons (tr_ifs (TrW.toB (trw_or (trb_not (trb_tru (tr_f1 ty_tuple (tr_isi isi_tuple rfl m_isinstance rfl m_tuple boot_ty_tuple (tr_var 2))))) (trw_or (trb_cmp (op_neS hr.units) sem_neS (tr_callB call_len sem_len rfl m_len bo_len (tra_cons (tr_var 2) tra_nil)) tr_int (nomark _)) (trw_or1 (trb_not (trb_tru (tr_callG h_is_between hgd (hr.mono (by decide)) tk rfl (tra_cons (tr_ix ix_seq sem_ix (tr_var 2) tr_int) (tra_cons tr_int (tra_cons (tr_op op_sub sem_sub (tr_callB call_len sem_len rfl m_len bo_len (tra_cons (tr_var 1) tra_nil)) tr_int) tra_nil)))))))))) (trs_one (tr_ret tr_bl)) trs_nil) (trs_one (tr_ret (tr_and (tr_callG h_are_signs hgd (hr.mono (by decide)) tk rfl (tra_cons (tr_var 0) (tra_cons (tr_ix ix_seq sem_ix (tr_var 2) tr_int) tra_nil))) (tr_one (tr_cmp (op_eqS hr.units) sem_eqS (tr_callB call_len sem_len rfl m_len bo_len (tra_cons (tr_ix ix_seq sem_ix (tr_var 2) tr_int) tra_nil)) (tr_callB (callR_or (cr_sum rfl) (cr_sumT rfl)) sem_sum rfl m_sum bo_sum (tra_cons (tr_var 1) tra_nil)) (nomark _)))))))
theorem ok_need_mail_of {f : Addr} {fd : FuncData} (F : FnP K "need_mail_of" (top 30) sc_need_mail_of f fd) (gl : mg "need_mail_of" = some (.ref f)) (m_isinstance : mg "isinstance" = none) (m_tuple : mg "tuple" = none) (m_all : mg "all" = none) (x_BadMail : XIs P w K mg base 7 "ValueError.__new__" tlV) (h_is_pair : FnGs P w K mg base 5 "is_pair" ["prime", "laying", "thing"] F_is_pair) (h_are_rising : FnGs P w K mg base 1 "are_rising" ["some"] F_are_rising) : FnGs P w K mg base 6 "need_mail_of" ["prime", "laying", "thing"] F_need_mail_of := by
  have sc : FnScope ["prime", "laying", "thing", "pair"] ["prime", "laying", "thing"] sc_need_mail_of := ⟨rfl, rfl, rfl, by decide +kernel, rfl, by decide +kernel, by decide +kernel⟩
  refine ⟨f, fd, fn_trG (k := 5) F sc (fun Γ cdv A outer s H E hcd hgd hr => ?_), gl, F.kp, F.bindsN fun _ _ _ _ _ _ us hl => match us, hl with | [_, _, _], _ => rfl⟩
  have tk : Takes (cxOf (L2.CX P w) P w K mg base ["prime", "laying", "thing", "pair"] "need_mail_of" sc_need_mail_of f cdv A outer s H E) (wOf E) := takes_of rfl rfl rfl rfl
  exact (trs_cons (tr_ifs (TrW.toB (trw_or (trb_not (trb_tru (tr_f1 ty_tuple (tr_isi isi_tuple rfl m_isinstance rfl m_tuple boot_ty_tuple (tr_var 2))))) (trw_or1 (trb_not (trb_tru (tr_callB (cr_all rfl) sem_all rfl m_all bo_all (tra_cons (tr_lc (own := [("pair", 3)]) rfl sc.nd (tri_tup (tr_var 2)) (blkOk_by (N := ["prime", "laying", "thing", "pair"]) (sc := sc_need_mail_of) (by decide +kernel)) (by decide) (fun _ _ _ _ _ => (trg_name sc.nd rfl (by first | exact .inl rfl | exact .inr rfl))) (fun _ _ _ _ _ => trt_nil) (fun _ _ _ _ _ => (tr_callG h_is_pair hgd (hr.mono (by decide)) takes0 rfl (tra_cons (tr_var 0) (tra_cons (tr_var 1) (tra_cons (tr_var 3) tra_nil)))))) tra_nil))))))) (trs_one (tr_raise (n := 7) x_BadMail rfl tk (hr.mono (by decide)) rfl (tra_cons (tr_var 2) tra_nil))) trs_nil) (trs_one (tr_ifs (trb_not (trb_tru (tr_callG h_are_rising hgd (hr.mono (by decide)) tk rfl (tra_cons (tr_lc (own := [("pair", 3)]) rfl sc.nd (tri_tup (tr_var 2)) (blkOk_by (N := ["prime", "laying", "thing", "pair"]) (sc := sc_need_mail_of) (by decide +kernel)) (by decide) (fun _ _ _ _ _ => (trg_name sc.nd rfl (by first | exact .inl rfl | exact .inr rfl))) (fun _ _ _ _ _ => trt_nil) (fun _ _ _ _ _ => (tr_ix ix_seq sem_ix (tr_var 3) tr_int))) tra_nil)))) (trs_one (tr_raise (n := 7) x_BadMail rfl tk (hr.mono (by decide)) rfl (tra_cons (tr_var 2) tra_nil))) trs_nil)))
theorem ok_need_mail {f : Addr} {fd : FuncData} (F : FnP K "need_mail" (top 31) sc_need_mail f fd) (gl : mg "need_mail" = some (.ref f)) (h_need_prime : FnGs P w K mg base 3 "need_prime" ["prime"] F_need_prime) (h_need_laying : FnGs P w K mg base 4 "need_laying" ["thing"] F_need_laying) (h_need_mail_of : FnGs P w K mg base 6 "need_mail_of" ["prime", "laying", "thing"] F_need_mail_of) : FnGs P w K mg base 7 "need_mail" ["prime", "laying", "thing"] F_need_mail := by
  have sc : FnScope ["prime", "laying", "thing"] ["prime", "laying", "thing"] sc_need_mail := ⟨rfl, rfl, rfl, by decide +kernel, rfl, by decide +kernel, by decide +kernel⟩
  refine ⟨f, fd, fn_trG (k := 6) F sc (fun Γ cdv A outer s H E hcd hgd hr => ?_), gl, F.kp, F.bindsN fun _ _ _ _ _ _ us hl => match us, hl with | [_, _, _], _ => rfl⟩
  have tk : Takes (cxOf (L2.CX P w) P w K mg base ["prime", "laying", "thing"] "need_mail" sc_need_mail f cdv A outer s H E) (wOf E) := takes_of rfl rfl rfl rfl
  exact (trs_cons (tr_expr (tr_callG h_need_prime hgd (hr.mono (by decide)) tk rfl (tra_cons (tr_var 0) tra_nil))) (trs_cons (tr_expr (tr_callG h_need_laying hgd (hr.mono (by decide)) tk rfl (tra_cons (tr_var 1) tra_nil))) (trs_cons (tr_expr (tr_callG h_need_mail_of hgd (hr.mono (by decide)) tk rfl (tra_cons (tr_var 0) (tra_cons (tr_var 1) (tra_cons (tr_var 2) tra_nil))))) (trs_one (tr_ret (tr_var 2))))))
theorem ok_points_at {f : Addr} {fd : FuncData} (F : FnP K "points_at" (top 32) sc_points_at f fd) (gl : mg "points_at" = some (.ref f))  : FnGs P w K mg base 1 "points_at" ["mail", "place"] F_points_at := by
  have sc : FnScope ["mail", "place", "number", "letter"] ["mail", "place"] sc_points_at := ⟨rfl, rfl, rfl, by decide +kernel, rfl, by decide +kernel, by decide +kernel⟩
  refine ⟨f, fd, fn_trG (k := 0) F sc (fun Γ cdv A outer s H E hcd hgd hr => ?_), gl, F.kp, F.bindsN fun _ _ _ _ _ _ us hl => match us, hl with | [_, _], _ => rfl⟩
  have tk : Takes (cxOf (L2.CX P w) P w K mg base ["mail", "place", "number", "letter"] "points_at" sc_points_at f cdv A outer s H E) (wOf E) := takes_of rfl rfl rfl rfl
  exact (trs_one (tr_ret (tr_lc (own := [("number", 2), ("letter", 3)]) rfl sc.nd (tri_tup (tr_var 0)) (blkOk_by (N := ["mail", "place", "number", "letter"]) (sc := sc_points_at) (by decide +kernel)) (by decide) (fun _ _ _ _ _ => (trg_tup rfl (trgs_cons (trg_name sc.nd rfl (by first | exact .inl rfl | exact .inr rfl)) (trgs_cons (trg_name sc.nd rfl (by first | exact .inl rfl | exact .inr rfl)) trgs_nil)))) (fun _ _ _ _ _ => trt_nil) (fun _ _ _ _ _ => (tr_tup (tra_cons (tr_f2 addF_eq (tr_op op_addW sem_add (tr_var 2) tr_int)) (tra_cons (tr_ix ix_seq sem_ix (tr_var 3) (tr_var 1)) tra_nil)))))))
theorem ok_fits_at {f : Addr} {fd : FuncData} (F : FnP K "fits_at" (top 33) sc_fits_at f fd) (gl : mg "fits_at" = some (.ref f)) (m_len : mg "len" = none) (m_tuple : mg "tuple" = none) (m_all : mg "all" = none) (h_points_at : FnGs P w K mg base 1 "points_at" ["mail", "place"] F_points_at) (h_through_in : FnGs P w K mg base 3 "through_in" ["prime", "points"] F_through_in) (h_value_in : FnGs P w K mg base 2 "value_in" ["prime", "block", "sign"] F_value_in) : FnGs P w K mg base 4 "fits_at" ["prime", "mail", "place", "need"] F_fits_at := by
  have sc : FnScope ["prime", "mail", "place", "need", "points", "block", "sign", "value"] ["prime", "mail", "place", "need"] sc_fits_at := ⟨rfl, rfl, rfl, by decide +kernel, rfl, by decide +kernel, by decide +kernel⟩
  refine ⟨f, fd, fn_trG (k := 3) F sc (fun Γ cdv A outer s H E hcd hgd hr => ?_), gl, F.kp, F.bindsN fun _ _ _ _ _ _ us hl => match us, hl with | [_, _, _, _], _ => rfl⟩
  have tk : Takes (cxOf (L2.CX P w) P w K mg base ["prime", "mail", "place", "need", "points", "block", "sign", "value"] "fits_at" sc_fits_at f cdv A outer s H E) (wOf E) := takes_of rfl rfl rfl rfl
  exact (trs_cons (tr_set (i := 4) sc.nd rfl (.inl rfl) (tr_callG h_points_at hgd (hr.mono (by decide)) tk rfl (tra_cons (tr_var 1) (tra_cons (tr_var 2) tra_nil)))) (trs_cons (tr_ifs (trb_cmp op_le sem_le (tr_callB call_len sem_len rfl m_len bo_len (tra_cons (tr_var 4) tra_nil)) (tr_var 3) (nomark _)) (trs_one (tr_ret tr_bl)) trs_nil) (trs_cons (tr_set (i := 5) sc.nd rfl (.inr rfl) (tr_callG h_through_in hgd (hr.mono (by decide)) tk rfl (tra_cons (tr_var 0) (tra_cons (tr_callTy call_tuple_of sem_tupOf rfl m_tuple bo_tuple (tra_cons (tr_slice (tr_var 4) tro_no (tro_some (tr_var 3))) tra_nil)) tra_nil)))) (trs_one (tr_ret (tr_callB (cr_all rfl) sem_all rfl m_all bo_all (tra_cons (tr_lc (own := [("sign", 6), ("value", 7)]) rfl sc.nd (tri_lst (tr_slice (tr_var 4) (tro_some (tr_var 3)) tro_no)) (blkOk_by (N := ["prime", "mail", "place", "need", "points", "block", "sign", "value"]) (sc := sc_fits_at) (by decide +kernel)) (by decide) (fun _ _ _ _ _ => (trg_tup rfl (trgs_cons (trg_name sc.nd rfl (by first | exact .inl rfl | exact .inr rfl)) (trgs_cons (trg_name sc.nd rfl (by first | exact .inl rfl | exact .inr rfl)) trgs_nil)))) (fun _ _ _ _ _ => trt_nil) (fun _ _ _ _ _ => (tr_cmp (op_eqS hr.units) sem_eqS (tr_callG h_value_in hgd (hr.mono (by decide)) takes0 rfl (tra_cons (tr_var 0) (tra_cons (tr_var 5) (tra_cons (tr_var 6) tra_nil)))) (tr_var 7) (nomark _)))) tra_nil)))))))
theorem ok_unfit_in {f : Addr} {fd : FuncData} (F : FnP K "unfit_in" (top 34) sc_unfit_in f fd) (gl : mg "unfit_in" = some (.ref f)) (m_enumerate : mg "enumerate" = none) (m_sorted : mg "sorted" = none) (h_needs_in : FnGs P w K mg base 1 "needs_in" ["laying"] F_needs_in) (h_fits_at : FnGs P w K mg base 4 "fits_at" ["prime", "mail", "place", "need"] F_fits_at) : FnGs P w K mg base 5 "unfit_in" ["prime", "laying", "mail"] F_unfit_in := by
  have sc : FnScope ["prime", "laying", "mail", "found", "place", "need"] ["prime", "laying", "mail"] sc_unfit_in := ⟨rfl, rfl, rfl, by decide +kernel, rfl, by decide +kernel, by decide +kernel⟩
  refine ⟨f, fd, fn_trG (k := 4) F sc (fun Γ cdv A outer s H E hcd hgd hr => ?_), gl, F.kp, F.bindsN fun _ _ _ _ _ _ us hl => match us, hl with | [_, _, _], _ => rfl⟩
  have tk : Takes (cxOf (L2.CX P w) P w K mg base ["prime", "laying", "mail", "found", "place", "need"] "unfit_in" sc_unfit_in f cdv A outer s H E) (wOf E) := takes_of rfl rfl rfl rfl
  exact (trs_cons (tr_ownD (i := 3) sc.nd rfl (.inl rfl)) (trs_cons (tr_for (passes_of rfl) rfl (tri_enL rfl m_enumerate (tra_cons (tr_callG h_needs_in hgd (hr.mono (by decide)) tk rfl (tra_cons (tr_var 1) tra_nil)) tra_nil)) (trg_tup rfl (trgs_cons (trg_name sc.nd rfl (.inl rfl)) (trgs_cons (trg_name sc.nd rfl (.inl rfl)) trgs_nil))) (trs_one (tr_ifs (trb_not (trb_tru (tr_callG h_fits_at hgd (hr.mono (by decide)) tk rfl (tra_cons (tr_var 0) (tra_cons (tr_var 2) (tra_cons (tr_var 4) (tra_cons (tr_var 5) tra_nil))))))) (trs_one (tr_dput (units1 (Room.units65 hr)) (pv 3) (tr_var 5) tr_bl)) trs_nil))) (trs_one (tr_frz 3 (tr_ret (tr_callB (call_sortedDI rfl) sem_sortedD rfl m_sorted bo_sorted (tra_cons (tr_var 3) tra_nil)))))))
theorem ok_read_in {f : Addr} {fd : FuncData} (F : FnP K "read_in" (top 35) sc_read_in f fd) (gl : mg "read_in" = some (.ref f)) (m_enumerate : mg "enumerate" = none) (m_len : mg "len" = none) (m_tuple : mg "tuple" = none) (h_needs_in : FnGs P w K mg base 1 "needs_in" ["laying"] F_needs_in) (h_through_in : FnGs P w K mg base 3 "through_in" ["prime", "points"] F_through_in) (h_points_at : FnGs P w K mg base 1 "points_at" ["mail", "place"] F_points_at) : FnGs P w K mg base 4 "read_in" ["prime", "laying", "mail"] F_read_in := by
  have sc : FnScope ["prime", "laying", "mail", "found", "place", "need"] ["prime", "laying", "mail"] sc_read_in := ⟨rfl, rfl, rfl, by decide +kernel, rfl, by decide +kernel, by decide +kernel⟩
  refine ⟨f, fd, fn_trG (k := 3) F sc (fun Γ cdv A outer s H E hcd hgd hr => ?_), gl, F.kp, F.bindsN fun _ _ _ _ _ _ us hl => match us, hl with | [_, _, _], _ => rfl⟩
  have tk : Takes (cxOf (L2.CX P w) P w K mg base ["prime", "laying", "mail", "found", "place", "need"] "read_in" sc_read_in f cdv A outer s H E) (wOf E) := takes_of rfl rfl rfl rfl
  exact (trs_cons (tr_set (i := 3) sc.nd rfl (.inl rfl) (tr_tup tra_nil)) (trs_cons (tr_for (passes_of rfl) rfl (tri_enL rfl m_enumerate (tra_cons (tr_callG h_needs_in hgd (hr.mono (by decide)) tk rfl (tra_cons (tr_var 1) tra_nil)) tra_nil)) (trg_tup rfl (trgs_cons (trg_name sc.nd rfl (.inl rfl)) (trgs_cons (trg_name sc.nd rfl (.inl rfl)) trgs_nil))) (trs_one (tr_ifs (trb_cmp op_le sem_le (tr_var 5) (tr_callB call_len sem_len rfl m_len bo_len (tra_cons (tr_var 2) tra_nil)) (nomark _)) (trs_one (tr_set (i := 3) sc.nd rfl (.inl rfl) (tr_f2 addF_eq (tr_op op_addW sem_add (tr_var 3) (tr_callG h_through_in hgd (hr.mono (by decide)) tk rfl (tra_cons (tr_var 0) (tra_cons (tr_callTy call_tuple_of sem_tupOf rfl m_tuple bo_tuple (tra_cons (tr_slice (tr_callG h_points_at hgd (hr.mono (by decide)) tk rfl (tra_cons (tr_var 2) (tra_cons (tr_var 4) tra_nil))) tro_no (tro_some (tr_var 5))) tra_nil)) tra_nil))))))) trs_nil))) (trs_one (tr_ret (tr_var 3)))))
theorem ok_suspects_in {f : Addr} {fd : FuncData} (F : FnP K "suspects_in" (top 37) sc_suspects_in f fd) (gl : mg "suspects_in" = some (.ref f)) (m_tuple : mg "tuple" = none) (h_unfit_in : FnGs P w K mg base 5 "unfit_in" ["prime", "laying", "mail"] F_unfit_in) : FnGs P w K mg base 6 "suspects_in" ["by_prime", "by_laying", "came"] F_suspects_in := by
  have sc : FnScope ["by_prime", "by_laying", "came", "found", "number", "letter", "rest", "pair"] ["by_prime", "by_laying", "came"] sc_suspects_in := ⟨rfl, rfl, rfl, by decide +kernel, rfl, by decide +kernel, by decide +kernel⟩
  refine ⟨f, fd, fn_trG (k := 5) F sc (fun Γ cdv A outer s H E hcd hgd hr => ?_), gl, F.kp, F.bindsN fun _ _ _ _ _ _ us hl => match us, hl with | [_, _, _], _ => rfl⟩
  have tk : Takes (cxOf (L2.CX P w) P w K mg base ["by_prime", "by_laying", "came", "found", "number", "letter", "rest", "pair"] "suspects_in" sc_suspects_in f cdv A outer s H E) (wOf E) := takes_of rfl rfl rfl rfl
  exact (trs_cons (tr_ifs (trb_cmp (op_eqS hr.units) sem_eqS (tr_callG h_unfit_in hgd (hr.mono (by decide)) tk rfl (tra_cons (tr_var 0) (tra_cons (tr_var 1) (tra_cons (tr_var 2) tra_nil)))) (tr_lst tra_nil) (nomark _)) (trs_one (tr_ret (tr_lst tra_nil))) trs_nil) (trs_cons (tr_own (i := 3) sc.nd rfl (.inl rfl) tra_nil) (trs_cons (tr_for (passes_of rfl) rfl (tri_tup (tr_var 2)) (trg_tup rfl (trgs_cons (trg_name sc.nd rfl (.inr rfl)) (trgs_cons (trg_name sc.nd rfl (.inl rfl)) trgs_nil))) (trs_cons (tr_set (i := 6) sc.nd rfl (.inl rfl) (tr_callTy call_tuple_of sem_tupOf rfl m_tuple bo_tuple (tra_cons (tr_lc (own := [("pair", 7)]) rfl sc.nd (tri_tup (tr_var 2)) (blkOk_by (N := ["by_prime", "by_laying", "came", "found", "number", "letter", "rest", "pair"]) (sc := sc_suspects_in) (by decide +kernel)) (by decide) (fun _ _ _ _ _ => (trg_name sc.nd rfl (by first | exact .inl rfl | exact .inr rfl))) (fun _ _ _ _ _ => (trt_one (trb_cmp (op_neS hr.units) sem_neS (tr_ix ix_seq sem_ix (tr_var 7) tr_int) (tr_var 4) (nomark _)))) (fun _ _ _ _ _ => (tr_var 7))) tra_nil))) (trs_one (tr_ifs (trb_cmp (op_eqS hr.units) sem_eqS (tr_callG h_unfit_in hgd (hr.mono (by decide)) tk rfl (tra_cons (tr_var 0) (tra_cons (tr_var 1) (tra_cons (tr_var 6) tra_nil)))) (tr_lst tra_nil) (nomark _)) (trs_one (tr_app (pv 3) (tra_cons (tr_var 4) tra_nil))) trs_nil)))) (trs_one (tr_frz 3 (tr_ret (tr_var 3)))))))
theorem ok_lines_in {f : Addr} {fd : FuncData} (F : FnP K "lines_in" (top 45) sc_lines_in f fd) (gl : mg "lines_in" = some (.ref f)) (m_isinstance : mg "isinstance" = none) (m_str : mg "str" = none) (c_LINE_END : CsIs K mg "LINE_END" k_LINE_END) (c_BLANK : CsIs K mg "BLANK" k_BLANK) (x_BadText : XIs2 P w K mg base 22 "ValueError.__new__" tlV) : FnGs P w K mg base 3 "lines_in" ["text"] F_lines_in := by
  have sc : FnScope ["text", "line"] ["text"] sc_lines_in := ⟨rfl, rfl, rfl, by decide +kernel, rfl, by decide +kernel, by decide +kernel⟩
  refine ⟨f, fd, fn_trG (k := 2) F sc (fun Γ cdv A outer s H E hcd hgd hr => ?_), gl, F.kp, F.bindsN fun _ _ _ _ _ _ us hl => match us, hl with | [_], _ => rfl⟩
  have tk : Takes (cxOf (L2.CX P w) P w K mg base ["text", "line"] "lines_in" sc_lines_in f cdv A outer s H E) (wOf E) := takes_of rfl rfl rfl rfl
  exact (trs_cons (tr_ifs (trb_not (trb_tru (tr_f1 ty_str (tr_isi isi_str rfl m_isinstance rfl m_str boot_ty_str (tr_var 0))))) (trs_one (tr_raise2 (n := 22) x_BadText rfl tk (hr.mono (by decide)) rfl (tra_cons tr_non (tra_cons tr_non tra_nil)))) trs_nil) (trs_one (tr_ret (tr_lc (own := [("line", 1)]) rfl sc.nd (tri_lst (tr_fBM splitF_eq (tr_bmS sem_split (pe_bm PySem.F.plainAttrs_str PySem.F.slot_str_split PySem.F.type_str_split mt_split (tr_var 0) (tra_cons (tr_cs c_LINE_END rfl) tra_nil))))) (blkOk_by (N := ["text", "line"]) (sc := sc_lines_in) (by decide +kernel)) (by decide) (fun _ _ _ _ _ => (trg_name sc.nd rfl (by first | exact .inl rfl | exact .inr rfl))) (fun _ _ _ _ _ => trt_nil) (fun _ _ _ _ _ => (tr_fBM splitF_eq (tr_bmS sem_split (pe_bm PySem.F.plainAttrs_str PySem.F.slot_str_split PySem.F.type_str_split mt_split (tr_var 1) (tra_cons (tr_cs c_BLANK rfl) tra_nil)))))))))
theorem ok_Words__is_over {f : Addr} {fd : FuncData} (F : FunD K "is_over" "Words.is_over" (defArgs (mtd (top 46) 1)) (defBody (mtd (top 46) 1)) sc_Words__is_over [] [] f fd) (mt : Meth K (He.ga K (yName 0)) "is_over" f) (y_0 : YC K 0) (m_len : mg "len" = none) : MtIs P w K mg base 1 0 "is_over" ["self"] F_Words__is_over := by
  have sc : FnScope ["self"] ["self"] sc_Words__is_over := ⟨rfl, rfl, rfl, by decide +kernel, rfl, by decide +kernel, by decide +kernel⟩
  refine ⟨f, fd, fn_trG (k := 0) F sc (fun Γ cdv A outer s H E hcd hgd hr => ?_), mt, F.bindsN fun _ _ _ _ _ _ us hl => match us, hl with | [_], _ => rfl⟩
  have tk : Takes (cxOf (L2.CX P w) P w K mg base ["self"] "Words.is_over" sc_Words__is_over f cdv A outer s H E) (wOf E) := takes_of rfl rfl rfl rfl
  exact (trs_one (tr_ret (tr_cmp (op_eqS hr.units) sem_eqS (tr_attr (cl := 0) (j := 2) y_0 rfl (tr_var 0)) (tr_callB call_len sem_len rfl m_len bo_len (tra_cons (tr_attr (cl := 0) (j := 0) y_0 rfl (tr_var 0)) tra_nil)) (nomark _))))
theorem ok_Words__next_word {f : Addr} {fd : FuncData} (F : FunD K "next_word" "Words.next_word" (defArgs (mtd (top 46) 3)) (defBody (mtd (top 46) 3)) sc_Words__next_word [] [] f fd) (mt : Meth K (He.ga K (yName 0)) "next_word" f) (y_0 : YC K 0) (h_Words__is_over : MtIs P w K mg base 1 0 "is_over" ["self"] F_Words__is_over) : MtIs P w K mg base 2 0 "next_word" ["self"] F_Words__next_word := by
  have sc : FnScope ["self"] ["self"] sc_Words__next_word := ⟨rfl, rfl, rfl, by decide +kernel, rfl, by decide +kernel, by decide +kernel⟩
  refine ⟨f, fd, fn_trG (k := 1) F sc (fun Γ cdv A outer s H E hcd hgd hr => ?_), mt, F.bindsN fun _ _ _ _ _ _ us hl => match us, hl with | [_], _ => rfl⟩
  have tk : Takes (cxOf (L2.CX P w) P w K mg base ["self"] "Words.next_word" sc_Words__next_word f cdv A outer s H E) (wOf E) := takes_of rfl rfl rfl rfl
  exact (trs_one (tr_ret (tr_if (trb_tru (tr_meth0 y_0 h_Words__is_over hgd (hr.mono (by decide)) tk (tr_var 0))) (tr_strL (by kernel_rfl)) (tr_ix ix_seq sem_ix (tr_attr (cl := 0) (j := 0) y_0 rfl (tr_var 0)) (tr_attr (cl := 0) (j := 2) y_0 rfl (tr_var 0))))))
theorem ok_Words__refuse {f : Addr} {fd : FuncData} (F : FunD K "refuse" "Words.refuse" (defArgs (mtd (top 46) 2)) (defBody (mtd (top 46) 2)) sc_Words__refuse [] [] f fd) (mt : Meth K (He.ga K (yName 0)) "refuse" f) (y_0 : YC K 0) (x_BadText : XIs2 P w K mg base 22 "ValueError.__new__" tlV) : MtIs P w K mg base 3 0 "refuse" ["self"] F_Words__refuse := by
  have sc : FnScope ["self"] ["self"] sc_Words__refuse := ⟨rfl, rfl, rfl, by decide +kernel, rfl, by decide +kernel, by decide +kernel⟩
  refine ⟨f, fd, fn_trG (k := 2) F sc (fun Γ cdv A outer s H E hcd hgd hr => ?_), mt, F.bindsN fun _ _ _ _ _ _ us hl => match us, hl with | [_], _ => rfl⟩
  have tk : Takes (cxOf (L2.CX P w) P w K mg base ["self"] "Words.refuse" sc_Words__refuse f cdv A outer s H E) (wOf E) := takes_of rfl rfl rfl rfl
  exact (trs_one (tr_raise2 (n := 22) x_BadText rfl tk (hr.mono (by decide)) rfl (tra_cons (tr_attr (cl := 0) (j := 1) y_0 rfl (tr_var 0)) (tra_cons (tr_attr (cl := 0) (j := 2) y_0 rfl (tr_var 0)) tra_nil))))
theorem ok_Words__read_word {f : Addr} {fd : FuncData} (F : FunD K "read_word" "Words.read_word" (defArgs (mtd (top 46) 4)) (defBody (mtd (top 46) 4)) sc_Words__read_word [] [] f fd) (mt : Meth K (He.ga K (yName 0)) "read_word" f) (y_0 : YC K 0) (h_Words__next_word : MtIs P w K mg base 2 0 "next_word" ["self"] F_Words__next_word) (h_Words__refuse : MtIs P w K mg base 3 0 "refuse" ["self"] F_Words__refuse) : MtIs P w K mg base 4 0 "read_word" ["self", "some"] F_Words__read_word := by
  have sc : FnScope ["self", "some", "word"] ["self", "some"] sc_Words__read_word := ⟨rfl, rfl, rfl, by decide +kernel, rfl, by decide +kernel, by decide +kernel⟩
  refine ⟨f, fd, fn_trG (k := 3) F sc (fun Γ cdv A outer s H E hcd hgd hr => ?_), mt, F.bindsN fun _ _ _ _ _ _ us hl => match us, hl with | [_, _], _ => rfl⟩
  have tk : Takes (cxOf (L2.CX P w) P w K mg base ["self", "some", "word"] "Words.read_word" sc_Words__read_word f cdv A outer s H E) (wOf E) := takes_of rfl rfl rfl rfl
  exact (trs_cons (tr_set (i := 2) sc.nd rfl (.inl rfl) (tr_meth0 y_0 h_Words__next_word hgd (hr.mono (by decide)) tk (tr_var 0))) (trs_cons (tr_ifs (trb_cmp (op_ninW (Room.units65 hr)) sem_nin (tr_var 2) (tr_var 1) (by with_unfolding_all rfl)) (trs_one (tr_expr (tr_meth0 y_0 h_Words__refuse hgd (hr.mono (by decide)) tk (tr_var 0)))) trs_nil) (trs_cons (tr_put (cl := 0) (j := 2) y_0 rfl (tr_var 0) (tr_f2 addF_eq (tr_op op_addW sem_add (tr_attr (cl := 0) (j := 2) y_0 rfl (tr_var 0)) tr_int))) (trs_one (tr_ret (tr_var 2))))))
theorem ok_Words__need_over {f : Addr} {fd : FuncData} (F : FunD K "need_over" "Words.need_over" (defArgs (mtd (top 46) 9)) (defBody (mtd (top 46) 9)) sc_Words__need_over [] [] f fd) (mt : Meth K (He.ga K (yName 0)) "need_over" f) (y_0 : YC K 0) (h_Words__is_over : MtIs P w K mg base 1 0 "is_over" ["self"] F_Words__is_over) (h_Words__refuse : MtIs P w K mg base 3 0 "refuse" ["self"] F_Words__refuse) : MtIs P w K mg base 4 0 "need_over" ["self"] F_Words__need_over := by
  have sc : FnScope ["self"] ["self"] sc_Words__need_over := ⟨rfl, rfl, rfl, by decide +kernel, rfl, by decide +kernel, by decide +kernel⟩
  refine ⟨f, fd, fn_trG (k := 3) F sc (fun Γ cdv A outer s H E hcd hgd hr => ?_), mt, F.bindsN fun _ _ _ _ _ _ us hl => match us, hl with | [_], _ => rfl⟩
  have tk : Takes (cxOf (L2.CX P w) P w K mg base ["self"] "Words.need_over" sc_Words__need_over f cdv A outer s H E) (wOf E) := takes_of rfl rfl rfl rfl
  exact (trs_one (tr_ifs (trb_not (trb_tru (tr_meth0 y_0 h_Words__is_over hgd (hr.mono (by decide)) tk (tr_var 0)))) (trs_one (tr_expr (tr_meth0 y_0 h_Words__refuse hgd (hr.mono (by decide)) tk (tr_var 0)))) trs_nil))
theorem ok_Words__read_number {f : Addr} {fd : FuncData} (F : FunD K "read_number" "Words.read_number" (defArgs (mtd (top 46) 5)) (defBody (mtd (top 46) 5)) sc_Words__read_number [] [] f fd) (mt : Meth K (He.ga K (yName 0)) "read_number" f) (y_0 : YC K 0) (h_Words__next_word : MtIs P w K mg base 2 0 "next_word" ["self"] F_Words__next_word) (h_Words__refuse : MtIs P w K mg base 3 0 "refuse" ["self"] F_Words__refuse) (m_len : mg "len" = none) (m_all : mg "all" = none) (m_int : mg "int" = none) (c_MOST_FIGURES : CsIs K mg "MOST_FIGURES" k_MOST_FIGURES) (c_FIGURES : CsIs K mg "FIGURES" k_FIGURES) : MtIs P w K mg base 4 0 "read_number" ["self"] F_Words__read_number := by
  have sc : FnScope ["self", "word", "sign"] ["self"] sc_Words__read_number := ⟨rfl, rfl, rfl, by decide +kernel, rfl, by decide +kernel, by decide +kernel⟩
  refine ⟨f, fd, fn_trG (k := 3) F sc (fun Γ cdv A outer s H E hcd hgd hr => ?_), mt, F.bindsN fun _ _ _ _ _ _ us hl => match us, hl with | [_], _ => rfl⟩
  have tk : Takes (cxOf (L2.CX P w) P w K mg base ["self", "word", "sign"] "Words.read_number" sc_Words__read_number f cdv A outer s H E) (wOf E) := takes_of rfl rfl rfl rfl
  exact (trs_cons (tr_set (i := 1) sc.nd rfl (.inl rfl) (tr_meth0 y_0 h_Words__next_word hgd (hr.mono (by decide)) tk (tr_var 0))) (trs_cons (tr_ifs (TrW.toB (trw_or (trb_not (trb_chain op_le op_le sem_le sem_le tr_int (tr_callB call_len sem_len rfl m_len bo_len (tra_cons (tr_var 1) tra_nil)) (tr_cs c_MOST_FIGURES rfl))) (trw_or1 (trb_not (trb_tru (tr_callB (cr_all rfl) sem_all rfl m_all bo_all (tra_cons (tr_lc (own := [("sign", 2)]) rfl sc.nd (tri_str (tr_var 1)) (blkOk_by (N := ["self", "word", "sign"]) (sc := sc_Words__read_number) (by decide +kernel)) (by decide) (fun _ _ _ _ _ => (trg_name sc.nd rfl (by first | exact .inl rfl | exact .inr rfl))) (fun _ _ _ _ _ => trt_nil) (fun _ _ _ _ _ => (tr_cmp (op_inS2 (Room.units65 hr)) sem_inS (tr_var 2) (tr_cs c_FIGURES rfl) (by with_unfolding_all rfl)))) tra_nil))))))) (trs_one (tr_expr (tr_meth0 y_0 h_Words__refuse hgd (hr.mono (by decide)) tk (tr_var 0)))) trs_nil) (trs_cons (tr_ifs (TrW.toB (trw_and (trb_cmp op_gt sem_gt (tr_callB call_len sem_len rfl m_len bo_len (tra_cons (tr_var 1) tra_nil)) tr_int (nomark _)) (trw_and1 (trb_cmp (op_eqS hr.units) sem_eqS (tr_ix ix_seq sem_ix (tr_var 1) tr_int) (tr_strL (by kernel_rfl)) (nomark _))))) (trs_one (tr_expr (tr_meth0 y_0 h_Words__refuse hgd (hr.mono (by decide)) tk (tr_var 0)))) trs_nil) (trs_cons (tr_put (cl := 0) (j := 2) y_0 rfl (tr_var 0) (tr_f2 addF_eq (tr_op op_addW sem_add (tr_attr (cl := 0) (j := 2) y_0 rfl (tr_var 0)) tr_int))) (trs_one (tr_ret (tr_fL intSF_eq (tr_callTy (callR_or call_int1 call_int_str) sem_intS rfl m_int bo_int (tra_cons (tr_var 1) tra_nil)))))))))
theorem ok_Words__read_numbers {f : Addr} {fd : FuncData} (F : FunD K "read_numbers" "Words.read_numbers" (defArgs (mtd (top 46) 6)) (defBody (mtd (top 46) 6)) sc_Words__read_numbers [] [] f fd) (mt : Meth K (He.ga K (yName 0)) "read_numbers" f) (y_0 : YC K 0) (h_Words__read_number : MtIs P w K mg base 4 0 "read_number" ["self"] F_Words__read_number) (h_Words__is_over : MtIs P w K mg base 1 0 "is_over" ["self"] F_Words__is_over) (h_Words__need_over : MtIs P w K mg base 4 0 "need_over" ["self"] F_Words__need_over) (m_len : mg "len" = none) (m_tuple : mg "tuple" = none) : MtIs P w K mg base 5 0 "read_numbers" ["self", "most"] F_Words__read_numbers := by
  have sc : FnScope ["self", "most", "found"] ["self", "most"] sc_Words__read_numbers := ⟨rfl, rfl, rfl, by decide +kernel, rfl, by decide +kernel, by decide +kernel⟩
  refine ⟨f, fd, fn_trG (k := 4) F sc (fun Γ cdv A outer s H E hcd hgd hr => ?_), mt, F.bindsN fun _ _ _ _ _ _ us hl => match us, hl with | [_, _], _ => rfl⟩
  have tk : Takes (cxOf (L2.CX P w) P w K mg base ["self", "most", "found"] "Words.read_numbers" sc_Words__read_numbers f cdv A outer s H E) (wOf E) := takes_of rfl rfl rfl rfl
  exact (trs_cons (tr_own (i := 2) sc.nd rfl (.inl rfl) (tra_cons (tr_meth0 y_0 h_Words__read_number hgd (hr.mono (by decide)) tk (tr_var 0)) tra_nil)) (trs_cons (tr_while (fun _ => 1000000) (passes_of rfl) (TrW.toB (trw_and (trb_not (trb_tru (tr_meth0 y_0 h_Words__is_over hgd (hr.mono (by decide)) tk (tr_var 0)))) (trw_and1 (trb_cmp op_lt sem_lt (tr_lenO (pv 2) rfl m_len) (tr_var 1) (nomark _))))) (trs_one (tr_app (pv 2) (tra_cons (tr_meth0 y_0 h_Words__read_number hgd (hr.mono (by decide)) tk (tr_var 0)) tra_nil)))) (trs_cons (tr_expr (tr_meth0 y_0 h_Words__need_over hgd (hr.mono (by decide)) tk (tr_var 0))) (trs_one (tr_frz 2 (tr_ret (tr_callTy call_tuple_of sem_tupOf rfl m_tuple bo_tuple (tra_cons (tr_var 2) tra_nil))))))))
theorem ok_Words__read_some {f : Addr} {fd : FuncData} (F : FunD K "read_some" "Words.read_some" (defArgs (mtd (top 46) 7)) (defBody (mtd (top 46) 7)) sc_Words__read_some [] [] f fd) (mt : Meth K (He.ga K (yName 0)) "read_some" f) (y_0 : YC K 0) (h_Words__next_word : MtIs P w K mg base 2 0 "next_word" ["self"] F_Words__next_word) (h_Words__need_over : MtIs P w K mg base 4 0 "need_over" ["self"] F_Words__need_over) (h_Words__read_numbers : MtIs P w K mg base 5 0 "read_numbers" ["self", "most"] F_Words__read_numbers) (c_NONE : CsIs K mg "NONE" k_NONE) : MtIs P w K mg base 6 0 "read_some" ["self", "most"] F_Words__read_some := by
  have sc : FnScope ["self", "most"] ["self", "most"] sc_Words__read_some := ⟨rfl, rfl, rfl, by decide +kernel, rfl, by decide +kernel, by decide +kernel⟩
  refine ⟨f, fd, fn_trG (k := 5) F sc (fun Γ cdv A outer s H E hcd hgd hr => ?_), mt, F.bindsN fun _ _ _ _ _ _ us hl => match us, hl with | [_, _], _ => rfl⟩
  have tk : Takes (cxOf (L2.CX P w) P w K mg base ["self", "most"] "Words.read_some" sc_Words__read_some f cdv A outer s H E) (wOf E) := takes_of rfl rfl rfl rfl
  exact (trs_cons (tr_ifs (trb_cmp (op_eqS hr.units) sem_eqS (tr_meth0 y_0 h_Words__next_word hgd (hr.mono (by decide)) tk (tr_var 0)) (tr_cs c_NONE rfl) (nomark _)) (trs_cons (tr_put (cl := 0) (j := 2) y_0 rfl (tr_var 0) (tr_f2 addF_eq (tr_op op_addW sem_add (tr_attr (cl := 0) (j := 2) y_0 rfl (tr_var 0)) tr_int))) (trs_cons (tr_expr (tr_meth0 y_0 h_Words__need_over hgd (hr.mono (by decide)) tk (tr_var 0))) (trs_one (tr_ret (tr_tup tra_nil))))) trs_nil) (trs_one (tr_ret (tr_meth y_0 h_Words__read_numbers hgd (hr.mono (by decide)) tk (tr_var 0) (tra_cons (tr_var 1) tra_nil)))))
theorem ok_letter_in {f : Addr} {fd : FuncData} (F : FnP K "letter_in" (top 47) sc_letter_in f fd) (gl : mg "letter_in" = some (.ref f)) (y_0 : YC K 0) (h_Words__read_word : MtIs P w K mg base 4 0 "read_word" ["self", "some"] F_Words__read_word) (h_Words__read_some : MtIs P w K mg base 6 0 "read_some" ["self", "most"] F_Words__read_some) (c_COLON : CsIs K mg "COLON" k_COLON) (c_MOST_ROOM : CsIs K mg "MOST_ROOM" k_MOST_ROOM) : FnGs P w K mg base 7 "letter_in" ["words"] F_letter_in := by
  have sc : FnScope ["words"] ["words"] sc_letter_in := ⟨rfl, rfl, rfl, by decide +kernel, rfl, by decide +kernel, by decide +kernel⟩
  refine ⟨f, fd, fn_trG (k := 6) F sc (fun Γ cdv A outer s H E hcd hgd hr => ?_), gl, F.kp, F.bindsN fun _ _ _ _ _ _ us hl => match us, hl with | [_], _ => rfl⟩
  have tk : Takes (cxOf (L2.CX P w) P w K mg base ["words"] "letter_in" sc_letter_in f cdv A outer s H E) (wOf E) := takes_of rfl rfl rfl rfl
  exact (trs_cons (tr_expr (tr_meth y_0 h_Words__read_word hgd (hr.mono (by decide)) tk (tr_var 0) (tra_cons (tr_tup (tra_cons (tr_cs c_COLON rfl) tra_nil)) tra_nil))) (trs_one (tr_ret (tr_meth y_0 h_Words__read_some hgd (hr.mono (by decide)) tk (tr_var 0) (tra_cons (tr_cs c_MOST_ROOM rfl) tra_nil)))))
theorem ok_Words____init__ {f : Addr} {fd : FuncData} (F : FunD K "__init__" "Words.__init__" (defArgs (mtd (top 46) 0)) (defBody (mtd (top 46) 0)) sc_Words____init__ [] [] f fd) (mt : Mk K (He.ga K (yName 0)) f) (gl : mg (yName 0) = some (.ref (He.ga K (yName 0)))) (y_0 : YC K 0) : MkIs P w K mg base 1 0 ["self", "words", "line"] F_Words____init__ := by
  have sc : FnScope ["self", "words", "line"] ["self", "words", "line"] sc_Words____init__ := ⟨rfl, rfl, rfl, by decide +kernel, rfl, by decide +kernel, by decide +kernel⟩
  refine ⟨f, fd, fn_trG (k := 0) F sc (fun Γ cdv A outer s H E hcd hgd hr => ?_), mt, F.bindsN fun _ _ _ _ _ _ us hl => match us, hl with | [_, _, _], _ => rfl, gl⟩
  have tk : Takes (cxOf (L2.CX P w) P w K mg base ["self", "words", "line"] "Words.__init__" sc_Words____init__ f cdv A outer s H E) (wOf E) := takes_of rfl rfl rfl rfl
  exact (trs_cons (tr_put (cl := 0) (j := 0) y_0 rfl (tr_var 0) (tr_var 1)) (trs_cons (tr_put (cl := 0) (j := 1) y_0 rfl (tr_var 0) (tr_var 2)) (trs_one (tr_put (cl := 0) (j := 2) y_0 rfl (tr_var 0) tr_int))))
theorem ok_pair_in {f : Addr} {fd : FuncData} (F : FnP K "pair_in" (top 48) sc_pair_in f fd) (gl : mg "pair_in" = some (.ref f)) (y_0 : YC K 0) (h_Words__read_number : MtIs P w K mg base 4 0 "read_number" ["self"] F_Words__read_number) (n_Words____init__ : MkIs P w K mg base 1 0 ["self", "words", "line"] F_Words____init__) (h_letter_in : FnGs P w K mg base 7 "letter_in" ["words"] F_letter_in) : FnGs P w K mg base 8 "pair_in" ["words", "line"] F_pair_in := by
  have sc : FnScope ["words", "line", "here", "number"] ["words", "line"] sc_pair_in := ⟨rfl, rfl, rfl, by decide +kernel, rfl, by decide +kernel, by decide +kernel⟩
  refine ⟨f, fd, fn_trG (k := 7) F sc (fun Γ cdv A outer s H E hcd hgd hr => ?_), gl, F.kp, F.bindsN fun _ _ _ _ _ _ us hl => match us, hl with | [_, _], _ => rfl⟩
  have tk : Takes (cxOf (L2.CX P w) P w K mg base ["words", "line", "here", "number"] "pair_in" sc_pair_in f cdv A outer s H E) (wOf E) := takes_of rfl rfl rfl rfl
  exact (trs_cons (tr_set (i := 2) sc.nd rfl (.inl rfl) (tr_new y_0 n_Words____init__ hgd (hr.mono (by decide)) tk rfl rfl (tra_cons (tr_var 0) (tra_cons (tr_var 1) tra_nil)))) (trs_cons (tr_set (i := 3) sc.nd rfl (.inl rfl) (tr_meth0 y_0 h_Words__read_number hgd (hr.mono (by decide)) tk (tr_var 2))) (trs_one (tr_ret (tr_tup (tra_cons (tr_var 3) (tra_cons (tr_callG h_letter_in hgd (hr.mono (by decide)) tk rfl (tra_cons (tr_var 2) tra_nil)) tra_nil)))))))
theorem ok_number_in {f : Addr} {fd : FuncData} (F : FnP K "number_in" (top 57) sc_number_in f fd) (gl : mg "number_in" = some (.ref f)) (y_0 : YC K 0) (h_Words__read_numbers : MtIs P w K mg base 5 0 "read_numbers" ["self", "most"] F_Words__read_numbers) (n_Words____init__ : MkIs P w K mg base 1 0 ["self", "words", "line"] F_Words____init__) : FnGs P w K mg base 6 "number_in" ["words", "line"] F_number_in := by
  have sc : FnScope ["words", "line"] ["words", "line"] sc_number_in := ⟨rfl, rfl, rfl, by decide +kernel, rfl, by decide +kernel, by decide +kernel⟩
  refine ⟨f, fd, fn_trG (k := 5) F sc (fun Γ cdv A outer s H E hcd hgd hr => ?_), gl, F.kp, F.bindsN fun _ _ _ _ _ _ us hl => match us, hl with | [_, _], _ => rfl⟩
  have tk : Takes (cxOf (L2.CX P w) P w K mg base ["words", "line"] "number_in" sc_number_in f cdv A outer s H E) (wOf E) := takes_of rfl rfl rfl rfl
  exact (trs_one (tr_ret (tr_ix ix_seq sem_ix (tr_meth y_0 h_Words__read_numbers hgd (hr.mono (by decide)) tk (tr_new y_0 n_Words____init__ hgd (hr.mono (by decide)) tk rfl rfl (tra_cons (tr_var 0) (tra_cons (tr_var 1) tra_nil))) (tra_cons tr_int tra_nil)) tr_int)))
theorem ok_saying_in {f : Addr} {fd : FuncData} (F : FnP K "saying_in" (top 58) sc_saying_in f fd) (gl : mg "saying_in" = some (.ref f)) (y_0 : YC K 0) (h_Words__read_word : MtIs P w K mg base 4 0 "read_word" ["self", "some"] F_Words__read_word) (h_Words__read_number : MtIs P w K mg base 4 0 "read_number" ["self"] F_Words__read_number) (h_Words__need_over : MtIs P w K mg base 4 0 "need_over" ["self"] F_Words__need_over) (n_Words____init__ : MkIs P w K mg base 1 0 ["self", "words", "line"] F_Words____init__) (kd_NUMBERS : KdIs K w mg "NUMBERS" k_NUMBERS) (m_tuple : mg "tuple" = none) (m_range : mg "range" = none) : FnGs P w K mg base 5 "saying_in" ["words", "line"] F_saying_in := by
  have sc : FnScope ["words", "line", "here", "found", "turn"] ["words", "line"] sc_saying_in := ⟨rfl, rfl, rfl, by decide +kernel, rfl, by decide +kernel, by decide +kernel⟩
  refine ⟨f, fd, fn_trG (k := 4) F sc (fun Γ cdv A outer s H E hcd hgd hr => ?_), gl, F.kp, F.bindsN fun _ _ _ _ _ _ us hl => match us, hl with | [_, _], _ => rfl⟩
  have tk : Takes (cxOf (L2.CX P w) P w K mg base ["words", "line", "here", "found", "turn"] "saying_in" sc_saying_in f cdv A outer s H E) (wOf E) := takes_of rfl rfl rfl rfl
  exact (trs_cons (tr_set (i := 2) sc.nd rfl (.inl rfl) (tr_new y_0 n_Words____init__ hgd (hr.mono (by decide)) tk rfl rfl (tra_cons (tr_var 0) (tra_cons (tr_var 1) tra_nil)))) (trs_cons (tr_own (i := 3) sc.nd rfl (.inl rfl) (tra_cons (tr_meth y_0 h_Words__read_word hgd (hr.mono (by decide)) tk (tr_var 2) (tra_cons (tr_tupKd rfl kd_NUMBERS rfl (by decide) rfl m_tuple) tra_nil)) tra_nil)) (trs_cons (tr_for (passes_of rfl) rfl (tri_rng1 rfl m_range (tra_cons (tr_kd kd_NUMBERS rfl (tr_ixO (pv 3) tr_int)) tra_nil)) (trg_name sc.nd rfl (.inl rfl)) (trs_one (tr_app (pv 3) (tra_cons (tr_meth0 y_0 h_Words__read_number hgd (hr.mono (by decide)) tk (tr_var 2)) tra_nil)))) (trs_cons (tr_expr (tr_meth0 y_0 h_Words__need_over hgd (hr.mono (by decide)) tk (tr_var 2))) (trs_one (tr_frz 3 (tr_ret (tr_var 3))))))))
theorem ok_Words__refuse_last {f : Addr} {fd : FuncData} (F : FunD K "refuse_last" "Words.refuse_last" (defArgs (mtd (top 46) 8)) (defBody (mtd (top 46) 8)) sc_Words__refuse_last [] [] f fd) (mt : Meth K (He.ga K (yName 0)) "refuse_last" f) (y_0 : YC K 0) (x_BadText : XIs2 P w K mg base 22 "ValueError.__new__" tlV) : MtIs P w K mg base 3 0 "refuse_last" ["self"] F_Words__refuse_last := by
  have sc : FnScope ["self"] ["self"] sc_Words__refuse_last := ⟨rfl, rfl, rfl, by decide +kernel, rfl, by decide +kernel, by decide +kernel⟩
  refine ⟨f, fd, fn_trG (k := 2) F sc (fun Γ cdv A outer s H E hcd hgd hr => ?_), mt, F.bindsN fun _ _ _ _ _ _ us hl => match us, hl with | [_], _ => rfl⟩
  have tk : Takes (cxOf (L2.CX P w) P w K mg base ["self"] "Words.refuse_last" sc_Words__refuse_last f cdv A outer s H E) (wOf E) := takes_of rfl rfl rfl rfl
  exact (trs_one (tr_raise2 (n := 22) x_BadText rfl tk (hr.mono (by decide)) rfl (tra_cons (tr_attr (cl := 0) (j := 1) y_0 rfl (tr_var 0)) (tra_cons (tr_op op_sub sem_sub (tr_attr (cl := 0) (j := 2) y_0 rfl (tr_var 0)) tr_int) tra_nil))))
theorem ok_count_in {f : Addr} {fd : FuncData} (F : FnP K "count_in" (top 59) sc_count_in f fd) (gl : mg "count_in" = some (.ref f)) (y_0 : YC K 0) (h_Words__read_number : MtIs P w K mg base 4 0 "read_number" ["self"] F_Words__read_number) (h_Words__refuse_last : MtIs P w K mg base 3 0 "refuse_last" ["self"] F_Words__refuse_last) (h_Words__need_over : MtIs P w K mg base 4 0 "need_over" ["self"] F_Words__need_over) (n_Words____init__ : MkIs P w K mg base 1 0 ["self", "words", "line"] F_Words____init__) (c_MOST_LETTERS : CsIs K mg "MOST_LETTERS" k_MOST_LETTERS) : FnGs P w K mg base 5 "count_in" ["words", "line"] F_count_in := by
  have sc : FnScope ["words", "line", "here", "found"] ["words", "line"] sc_count_in := ⟨rfl, rfl, rfl, by decide +kernel, rfl, by decide +kernel, by decide +kernel⟩
  refine ⟨f, fd, fn_trG (k := 4) F sc (fun Γ cdv A outer s H E hcd hgd hr => ?_), gl, F.kp, F.bindsN fun _ _ _ _ _ _ us hl => match us, hl with | [_, _], _ => rfl⟩
  have tk : Takes (cxOf (L2.CX P w) P w K mg base ["words", "line", "here", "found"] "count_in" sc_count_in f cdv A outer s H E) (wOf E) := takes_of rfl rfl rfl rfl
  exact (trs_cons (tr_set (i := 2) sc.nd rfl (.inl rfl) (tr_new y_0 n_Words____init__ hgd (hr.mono (by decide)) tk rfl rfl (tra_cons (tr_var 0) (tra_cons (tr_var 1) tra_nil)))) (trs_cons (tr_set (i := 3) sc.nd rfl (.inl rfl) (tr_meth0 y_0 h_Words__read_number hgd (hr.mono (by decide)) tk (tr_var 2))) (trs_cons (tr_ifs (trb_cmp op_gt sem_gt (tr_var 3) (tr_cs c_MOST_LETTERS rfl) (nomark _)) (trs_one (tr_expr (tr_meth0 y_0 h_Words__refuse_last hgd (hr.mono (by decide)) tk (tr_var 2)))) trs_nil) (trs_cons (tr_expr (tr_meth0 y_0 h_Words__need_over hgd (hr.mono (by decide)) tk (tr_var 2))) (trs_one (tr_ret (tr_var 3)))))))
theorem ok_parts_in {f : Addr} {fd : FuncData} (F : FnP K "parts_in" (top 60) sc_parts_in f fd) (gl : mg "parts_in" = some (.ref f)) (y_0 : YC K 0) (h_Words__read_numbers : MtIs P w K mg base 5 0 "read_numbers" ["self", "most"] F_Words__read_numbers) (n_Words____init__ : MkIs P w K mg base 1 0 ["self", "words", "line"] F_Words____init__) (m_len : mg "len" = none) (m_tuple : mg "tuple" = none) (m_enumerate : mg "enumerate" = none) (c_MOST_LETTERS : CsIs K mg "MOST_LETTERS" k_MOST_LETTERS) (x_BadText : XIs2 P w K mg base 22 "ValueError.__new__" tlV) (h_lines_in : FnGs P w K mg base 3 "lines_in" ["text"] F_lines_in) (h_number_in : FnGs P w K mg base 6 "number_in" ["words", "line"] F_number_in) (h_count_in : FnGs P w K mg base 5 "count_in" ["words", "line"] F_count_in) (h_pair_in : FnGs P w K mg base 8 "pair_in" ["words", "line"] F_pair_in) (h_saying_in : FnGs P w K mg base 5 "saying_in" ["words", "line"] F_saying_in) : FnGs P w K mg base 9 "parts_in" ["text"] F_parts_in := by
  have sc : FnScope ["text", "rows", "prime", "laying", "count", "mail", "sayings", "spot", "words"] ["text"] sc_parts_in := ⟨rfl, rfl, rfl, by decide +kernel, rfl, by decide +kernel, by decide +kernel⟩
  refine ⟨f, fd, fn_trG (k := 8) F sc (fun Γ cdv A outer s H E hcd hgd hr => ?_), gl, F.kp, F.bindsN fun _ _ _ _ _ _ us hl => match us, hl with | [_], _ => rfl⟩
  have tk : Takes (cxOf (L2.CX P w) P w K mg base ["text", "rows", "prime", "laying", "count", "mail", "sayings", "spot", "words"] "parts_in" sc_parts_in f cdv A outer s H E) (wOf E) := takes_of rfl rfl rfl rfl
  exact (trs_cons (tr_set (i := 1) sc.nd rfl (.inl rfl) (tr_callG h_lines_in hgd (hr.mono (by decide)) tk rfl (tra_cons (tr_var 0) tra_nil))) (trs_cons (tr_set (i := 2) sc.nd rfl (.inl rfl) (tr_callG h_number_in hgd (hr.mono (by decide)) tk rfl (tra_cons (tr_ix ix_seq sem_ix (tr_var 1) tr_int) (tra_cons tr_int tra_nil)))) (trs_cons (tr_ifs (trb_cmp (op_eqS hr.units) sem_eqS (tr_callB call_len sem_len rfl m_len bo_len (tra_cons (tr_var 1) tra_nil)) tr_int (nomark _)) (trs_one (tr_raise2 (n := 22) x_BadText rfl tk (hr.mono (by decide)) rfl (tra_cons tr_int (tra_cons tr_int tra_nil)))) trs_nil) (trs_cons (tr_set (i := 3) sc.nd rfl (.inl rfl) (tr_meth y_0 h_Words__read_numbers hgd (hr.mono (by decide)) tk (tr_new y_0 n_Words____init__ hgd (hr.mono (by decide)) tk rfl rfl (tra_cons (tr_ix ix_seq sem_ix (tr_var 1) tr_int) (tra_cons tr_int tra_nil))) (tra_cons (tr_cs c_MOST_LETTERS rfl) tra_nil))) (trs_cons (tr_ifs (trb_cmp (op_eqS hr.units) sem_eqS (tr_callB call_len sem_len rfl m_len bo_len (tra_cons (tr_var 1) tra_nil)) tr_int (nomark _)) (trs_one (tr_raise2 (n := 22) x_BadText rfl tk (hr.mono (by decide)) rfl (tra_cons tr_int (tra_cons tr_int tra_nil)))) trs_nil) (trs_cons (tr_set (i := 4) sc.nd rfl (.inr rfl) (tr_callG h_count_in hgd (hr.mono (by decide)) tk rfl (tra_cons (tr_ix ix_seq sem_ix (tr_var 1) tr_int) (tra_cons tr_int tra_nil)))) (trs_cons (tr_set (i := 5) sc.nd rfl (.inl rfl) (tr_callTy call_tuple_of sem_tupOf rfl m_tuple bo_tuple (tra_cons (tr_lcE (own := [("spot", 7), ("words", 8)]) rfl rfl tk rfl sc.nd (tri_enL rfl m_enumerate (tra_cons (tr_slice (tr_var 1) (tro_some tr_int) (tro_some (tr_f2 addF_eq (tr_op op_addW sem_add tr_int (tr_var 4))))) tra_nil)) (blkOk_by (N := ["text", "rows", "prime", "laying", "count", "mail", "sayings", "spot", "words"]) (sc := sc_parts_in) (by decide +kernel)) (by decide) (fun _ _ _ _ _ _ => (trg_tup rfl (trgs_cons (trg_name sc.nd rfl (by first | exact .inl rfl | exact .inr rfl)) (trgs_cons (trg_name sc.nd rfl (by first | exact .inl rfl | exact .inr rfl)) trgs_nil)))) (fun _ _ _ _ _ _ => trt_nil) (fun _ _ _ _ _ _ => (tr_callG h_pair_in hgd (hr.mono (by decide)) takesB rfl (tra_cons (tr_var 8) (tra_cons (tr_f2 addF_eq (tr_op op_addW sem_add (tr_var 7) tr_int)) tra_nil))))) tra_nil))) (trs_cons (tr_ifs (trb_cmp op_lt sem_lt (tr_callB call_len sem_len rfl m_len bo_len (tra_cons (tr_var 5) tra_nil)) (tr_var 4) (nomark _)) (trs_one (tr_raise2 (n := 22) x_BadText rfl tk (hr.mono (by decide)) rfl (tra_cons (tr_callB call_len sem_len rfl m_len bo_len (tra_cons (tr_var 1) tra_nil)) (tra_cons tr_int tra_nil)))) trs_nil) (trs_cons (tr_setLcE (i := 6) (own := [("spot", 7), ("words", 8)]) rfl rfl tk rfl sc.nd rfl rfl (sw_true rfl rfl rfl (by decide +kernel)) (tri_enL rfl m_enumerate (tra_cons (tr_slice (tr_var 1) (tro_some (tr_f2 addF_eq (tr_op op_addW sem_add tr_int (tr_var 4)))) tro_no) tra_nil)) (blkOk_by (N := ["text", "rows", "prime", "laying", "count", "mail", "sayings", "spot", "words"]) (sc := sc_parts_in) (by decide +kernel)) (by decide) (fun _ _ _ _ _ _ => (trg_tup rfl (trgs_cons (trg_name sc.nd rfl (by first | exact .inl rfl | exact .inr rfl)) (trgs_cons (trg_name sc.nd rfl (by first | exact .inl rfl | exact .inr rfl)) trgs_nil)))) (fun _ _ _ _ _ _ => trt_nil) (fun _ _ _ _ _ _ => (tr_callG h_saying_in hgd (hr.mono (by decide)) takesB rfl (tra_cons (tr_var 8) (tra_cons (tr_f2 addF_eq (tr_op op_addW sem_add (tr_f2 addF_eq (tr_op op_addW sem_add (tr_var 7) tr_int)) (tr_var 4))) tra_nil))))) (trs_one (tr_ret (tr_tup (tra_cons (tr_var 2) (tra_cons (tr_var 3) (tra_cons (tr_var 5) (tra_cons (tr_var 6) tra_nil))))))))))))))))
theorem ok_is_so {f : Addr} {fd : FuncData} (F : FnP K "is_so" (top 61) sc_is_so f fd) (gl : mg "is_so" = some (.ref f)) (m_len : mg "len" = none) (c_SOUND : CsIs K mg "SOUND" k_SOUND) (c_KNOWN : CsIs K mg "KNOWN" k_KNOWN) (c_SIGN : CsIs K mg "SIGN" k_SIGN) (c_UNFIT : CsIs K mg "UNFIT" k_UNFIT) (c_SUSPECT : CsIs K mg "SUSPECT" k_SUSPECT) (h_unfit_in : FnGs P w K mg base 5 "unfit_in" ["prime", "laying", "mail"] F_unfit_in) (h_profile_in : FnGs P w K mg base 1 "profile_in" ["laying"] F_profile_in) (h_read_in : FnGs P w K mg base 4 "read_in" ["prime", "laying", "mail"] F_read_in) (h_suspects_in : FnGs P w K mg base 6 "suspects_in" ["by_prime", "by_laying", "came"] F_suspects_in) : FnGs P w K mg base 7 "is_so" ["prime", "laying", "mail", "saying"] F_is_so := by
  have sc : FnScope ["prime", "laying", "mail", "saying", "word", "unfit", "found", "pair"] ["prime", "laying", "mail", "saying"] sc_is_so := ⟨rfl, rfl, rfl, by decide +kernel, rfl, by decide +kernel, by decide +kernel⟩
  refine ⟨f, fd, fn_trG (k := 6) F sc (fun Γ cdv A outer s H E hcd hgd hr => ?_), gl, F.kp, F.bindsN fun _ _ _ _ _ _ us hl => match us, hl with | [_, _, _, _], _ => rfl⟩
  have tk : Takes (cxOf (L2.CX P w) P w K mg base ["prime", "laying", "mail", "saying", "word", "unfit", "found", "pair"] "is_so" sc_is_so f cdv A outer s H E) (wOf E) := takes_of rfl rfl rfl rfl
  exact (trs_cons (tr_par (ps_par rfl sc.nd rfl rfl (by decide) rfl rfl (tra_cons (tr_ix ix_seq sem_ix (tr_var 3) tr_int) (tra_cons (tr_callG h_unfit_in hgd (hr.mono (by decide)) tk rfl (tra_cons (tr_var 0) (tra_cons (tr_var 1) (tra_cons (tr_var 2) tra_nil)))) tra_nil)) (by rfl))) (trs_cons (tr_ifs (trb_cmp (op_eqS hr.units) sem_eqS (tr_var 4) (tr_cs c_SOUND rfl) (nomark _)) (trs_one (tr_ret (tr_cmp (op_eqS hr.units) sem_eqS (tr_var 5) (tr_lst tra_nil) (nomark _)))) trs_nil) (trs_cons (tr_ifs (trb_cmp (op_eqS hr.units) sem_eqS (tr_var 4) (tr_cs c_KNOWN rfl) (nomark _)) (trs_one (tr_ret (tr_cmp (op_eqS hr.units) sem_eqS (tr_ix ix_seq sem_ix (tr_var 3) tr_int) (tr_ix ix_seq sem_ix (tr_f2 addF_eq (tr_op op_addW sem_add (tr_lst (tra_cons tr_int tra_nil)) (tr_callG h_profile_in hgd (hr.mono (by decide)) tk rfl (tra_cons (tr_var 1) tra_nil)))) (tr_callB call_len sem_len rfl m_len bo_len (tra_cons (tr_var 2) tra_nil))) (nomark _)))) trs_nil) (trs_cons (tr_ifs (trb_cmp (op_eqS hr.units) sem_eqS (tr_var 4) (tr_cs c_SIGN rfl) (nomark _)) (trs_cons (tr_ifs (trb_cmp (op_neS hr.units) sem_neS (tr_var 5) (tr_lst tra_nil) (nomark _)) (trs_one (tr_ret tr_bl)) trs_nil) (trs_cons (tr_set (i := 6) sc.nd rfl (.inl rfl) (tr_callG h_read_in hgd (hr.mono (by decide)) tk rfl (tra_cons (tr_var 0) (tra_cons (tr_var 1) (tra_cons (tr_var 2) tra_nil))))) (trs_one (tr_ret (tr_and (tr_cmp op_lt sem_lt (tr_ix ix_seq sem_ix (tr_var 3) tr_int) (tr_callB call_len sem_len rfl m_len bo_len (tra_cons (tr_var 6) tra_nil)) (nomark _)) (tr_one (tr_cmp (op_eqS hr.units) sem_eqS (tr_ix ix_seq sem_ix (tr_var 6) (tr_ix ix_seq sem_ix (tr_var 3) tr_int)) (tr_ix ix_seq sem_ix (tr_var 3) tr_int) (nomark _)))))))) trs_nil) (trs_cons (tr_ifs (trb_cmp (op_eqS hr.units) sem_eqS (tr_var 4) (tr_cs c_UNFIT rfl) (nomark _)) (trs_one (tr_ret (tr_cmp (op_inS2 (Room.units65 hr)) sem_inS (tr_ix ix_seq sem_ix (tr_var 3) tr_int) (tr_var 5) (by with_unfolding_all rfl)))) trs_nil) (trs_cons (tr_ifs (trb_cmp (op_eqS hr.units) sem_eqS (tr_var 4) (tr_cs c_SUSPECT rfl) (nomark _)) (trs_one (tr_ret (tr_cmp (op_inS2 (Room.units65 hr)) sem_inS (tr_ix ix_seq sem_ix (tr_var 3) tr_int) (tr_callG h_suspects_in hgd (hr.mono (by decide)) tk rfl (tra_cons (tr_var 0) (tra_cons (tr_var 1) (tra_cons (tr_var 2) tra_nil)))) (by with_unfolding_all rfl)))) trs_nil) (trs_one (tr_ret (tr_cmp (op_inS2 (Room.units65 hr)) sem_inS (tr_ix ix_seq sem_ix (tr_var 3) tr_int) (tr_lc (own := [("pair", 7)]) rfl sc.nd (tri_tup (tr_var 2)) (blkOk_by (N := ["prime", "laying", "mail", "saying", "word", "unfit", "found", "pair"]) (sc := sc_is_so) (by decide +kernel)) (by decide) (fun _ _ _ _ _ => (trg_name sc.nd rfl (by first | exact .inl rfl | exact .inr rfl))) (fun _ _ _ _ _ => trt_nil) (fun _ _ _ _ _ => (tr_ix ix_seq sem_ix (tr_var 7) tr_int))) (by with_unfolding_all rfl))))))))))
theorem ok_judged {f : Addr} {fd : FuncData} (F : FnP K "judged" (top 62) sc_judged f fd) (gl : mg "judged" = some (.ref f)) (m_tuple : mg "tuple" = none) (h_parts_in : FnGs P w K mg base 9 "parts_in" ["text"] F_parts_in) (h_need_prime : FnGs P w K mg base 3 "need_prime" ["prime"] F_need_prime) (h_need_laying : FnGs P w K mg base 4 "need_laying" ["thing"] F_need_laying) (h_need_mail : FnGs P w K mg base 7 "need_mail" ["prime", "laying", "thing"] F_need_mail) (h_is_so : FnGs P w K mg base 7 "is_so" ["prime", "laying", "mail", "saying"] F_is_so) : FnGs P w K mg base 10 "judged" ["text"] F_judged := by
  have sc : FnScope ["text", "prime", "laying", "mail", "sayings", "saying"] ["text"] sc_judged := ⟨rfl, rfl, rfl, by decide +kernel, rfl, by decide +kernel, by decide +kernel⟩
  refine ⟨f, fd, fn_trG (k := 9) F sc (fun Γ cdv A outer s H E hcd hgd hr => ?_), gl, F.kp, F.bindsN fun _ _ _ _ _ _ us hl => match us, hl with | [_], _ => rfl⟩
  have tk : Takes (cxOf (L2.CX P w) P w K mg base ["text", "prime", "laying", "mail", "sayings", "saying"] "judged" sc_judged f cdv A outer s H E) (wOf E) := takes_of rfl rfl rfl rfl
  exact (trs_cons (tr_asg (tr_callG h_parts_in hgd (hr.mono (by decide)) tk rfl (tra_cons (tr_var 0) tra_nil)) (trg_tup rfl (trgs_cons (trg_name sc.nd rfl (.inr rfl)) (trgs_cons (trg_name sc.nd rfl (.inr rfl)) (trgs_cons (trg_name sc.nd rfl (.inr rfl)) (trgs_cons (trg_name sc.nd rfl (.inl rfl)) trgs_nil)))))) (trs_cons (tr_expr (tr_callG h_need_prime hgd (hr.mono (by decide)) tk rfl (tra_cons (tr_var 1) tra_nil))) (trs_cons (tr_expr (tr_callG h_need_laying hgd (hr.mono (by decide)) tk rfl (tra_cons (tr_var 2) tra_nil))) (trs_cons (tr_expr (tr_callG h_need_mail hgd (hr.mono (by decide)) tk rfl (tra_cons (tr_var 1) (tra_cons (tr_var 2) (tra_cons (tr_var 3) tra_nil))))) (trs_one (tr_ret (tr_callTy call_tuple_of sem_tupOf rfl m_tuple bo_tuple (tra_cons (tr_lc (own := [("saying", 5)]) rfl sc.nd (tri_lst (tr_var 4)) (blkOk_by (N := ["text", "prime", "laying", "mail", "sayings", "saying"]) (sc := sc_judged) (by decide +kernel)) (by decide) (fun _ _ _ _ _ => (trg_name sc.nd rfl (by first | exact .inl rfl | exact .inr rfl))) (fun _ _ _ _ _ => trt_nil) (fun _ _ _ _ _ => (tr_callG h_is_so hgd (hr.mono (by decide)) takes0 rfl (tra_cons (tr_var 1) (tra_cons (tr_var 2) (tra_cons (tr_var 3) (tra_cons (tr_var 5) tra_nil))))))) tra_nil))))))))
theorem ok__law_mixed {f : Addr} {fd : FuncData} (F : FnP K "_law_mixed" (top 64) sc__law_mixed f fd) (gl : mg "_law_mixed" = some (.ref f)) (m_int : mg "int" = none) : FnIs P w K mg base 1 "_law_mixed" ["_law_cell", "_law_k"] F__law_mixed := by
  have sc : FnScope ["_law_cell", "_law_k"] ["_law_cell", "_law_k"] sc__law_mixed := ⟨rfl, rfl, rfl, by decide +kernel, rfl, by decide +kernel, by decide +kernel⟩
  refine ⟨f, fd, fn_tr (k := 0) F sc (fun Γ cdv A outer s H E hr => ?_), gl, F.kp, F.bindsN fun _ _ _ _ _ _ us hl => match us, hl with | [_, _], _ => rfl⟩
  have tk : Takes (cxOf (L2.CX P w) P w K mg base ["_law_cell", "_law_k"] "_law_mixed" sc__law_mixed f cdv A outer s H E) (wOf E) := takes_of rfl rfl rfl rfl
  exact (trs_cons (tr_set (i := 0) sc.nd rfl (.inl rfl) (tr_op op_mod sem_mod (tr_callTy call_int1 sem_int1 rfl m_int bo_int (tra_cons (tr_var 0) tra_nil)) tr_int)) (trs_one (tr_ret (tr_op op_mod sem_mod (tr_op op_mulW sem_mul (tr_op op_mod sem_mod (tr_op op_addW sem_add (tr_op op_addW sem_add (tr_op op_mulW sem_mul (tr_var 0) (tr_op op_addW sem_add tr_int (tr_op op_mulW sem_mul (tr_op op_mulW sem_mul tr_int (tr_var 1)) (tr_var 1)))) (tr_op op_mulW sem_mul tr_int (tr_var 1))) tr_int) tr_int) tr_int) tr_int))))
/-- a call of _law_mixed, by its reading -/
theorem mix_sp {c : Cc} {d : Dw} {H : Hp} {x k : Int} {Q : VK} {E : XK} (hT : c.T = tabL K ∧ c.K = K) (wd : Wd c d H) (h0 : 0 ≤ k) (h1 : k ≤ 2 ^ 61) (h : ∀ ⦃c' : Cc⦄ H', SG c c' H H' → StOk c' d H' → Q (.int (mixv x k)) H') : SpF K F__law_mixed [.int x, .int k] H Q E := by
  refine ⟨c, d, [.int x, .int k], hT, wd, .cons (.int x) (.cons (.int k) .nil), ?_⟩
  rw [mix_run h0 h1]
  intro c' v H' st so r
  cases r
  exact h H' st so
theorem ok__law_begin {f : Addr} {fd : FuncData} (F : FnP K "_law_begin" (top 65) sc__law_begin f fd) (m_list : mg "list" = none) : FnOk P w K mg base (L2.CX P w) 1 f fd ["_law_script"] (spBegin K) := by
  have sc : FnScope ["_law_script", "_law_cells", "_law_cell"] ["_law_script"] sc__law_begin := ⟨rfl, rfl, rfl, by decide +kernel, rfl, by decide +kernel, by decide +kernel⟩
  refine F.ok (k := 0) sc (fun vs H Q E h => ?_) (fun cdv A outer s H vs Q E hr h => ?_)
  · obtain ⟨a, ns, rfl, _⟩ := h
    rfl
  refine ⟨_, pss_cons (ps_set (i := 1) sc.nd rfl (.inl rfl) (pe_ifExp (pt_cmpR (op_neD hr.units) (pv 0) (pe_lst pa_nil) (nomark _)) (pe_callTy call_list_of rfl m_list bo_list (pa_cons (pv 0) pa_nil)) (pe_lst (pa_cons pe_int pa_nil))))
    (pss_one (ps_ret (pe_disp (pps_cons pe_str (pv 1) (pps_cons pe_str (pe_lc (own := [("_law_cell", 2)]) (g := gName 2) (tt := tYes) rfl sc.nd (pi_list (pv 1)) (blkOk_by (N := ["_law_script", "_law_cells", "_law_cell"]) (sc := sc__law_begin) (by decide +kernel))
        (fun _ _ _ _ _ => pg_name (i := 2) sc.nd rfl (.inl rfl)) (fun _ _ _ _ _ => pts_nil) (fun _ _ _ _ _ => pe_ifExp (pt_cmpR op_ge (pv 2) (pe_op op_pow pe_int pe_int) (nomark _)) (pv 2) pe_int))
      (pps_cons pe_str pe_int (pps_cons pe_str pe_int pps_nil)))) (by rfl) (by rfl) (fun z => by cases z) (by decide)))), ?_⟩
  obtain ⟨a, ns, rfl, hS, hz, q⟩ := h
  exact begin_read hS hz q
theorem ok__law_draw {f : Addr} {fd : FuncData} (F : FnP K "_law_draw" (top 66) sc__law_draw f fd) (gl : mg "_law_draw" = some (.ref f)) (m_int : mg "int" = none) (m_len : mg "len" = none) (h__law_mixed : FnIs P w K mg base 1 "_law_mixed" ["_law_cell", "_law_k"] F__law_mixed) : FnIs P w K mg base 2 "_law_draw" ["_law_state", "_law_many"] F__law_draw := by
  have sc : FnScope ["_law_state", "_law_many", "_law_at", "_law_place", "_law_left", "_law_number"] ["_law_state", "_law_many"] sc__law_draw := ⟨rfl, rfl, rfl, by decide +kernel, rfl, by decide +kernel, by decide +kernel⟩
  obtain ⟨fM, fdM, GM, gM, kM, bM⟩ := h__law_mixed
  refine ⟨f, fd, F.ok (k := 1) sc (SpF.len fun ws h => ?_) (fun cdv A outer s H vs Q E hr h => ?_), gl, F.kp, F.bindsN fun _ _ _ _ _ _ us hl => match us, hl with | [_, _], _ => rfl⟩
  · exact F_draw_bad fun n z => h (by rw [z]; rfl)
  have tk : Takes (cxOf (L2.CX P w) P w K mg base ["_law_state", "_law_many", "_law_at", "_law_place", "_law_left", "_law_number"] "_law_draw" sc__law_draw f cdv A outer s H E) (wOf E) := takes_of rfl rfl rfl rfl
  have hu := hu_of hr
  refine ⟨_, pss_cons (ps_set (i := 2) sc.nd rfl (.inl rfl) (pe_dget hu (pv 0) pe_str (fun _ _ => rfl)))
    (pss_cons (ps_dput hu (pv 0) pe_str (pe_op op_add (pv 2) pe_int) rfl)
    (pss_cons (ps_set (i := 3) sc.nd rfl (.inl rfl) (pe_op op_mod (pe_callTy call_int1 rfl m_int bo_int (pa_cons (pv 2) pa_nil)) (pe_callB call_len rfl m_len bo_len (pa_cons (pe_dget hu (pv 0) pe_str (fun _ _ => rfl)) pa_nil))))
    (pss_cons (ps_set (i := 4) sc.nd rfl (.inl rfl) (pe_ix ix_list (pe_dget hu (pv 0) pe_str (fun _ _ => rfl)) (pv 3) (fun _ _ => rfl)))
    (pss_cons (ps_if (pt_cmpR op_gt (pv 4) pe_int (nomark _))
      (pss_cons (ps_asg (pe_op op_fdivW (pv 4) (pv 1)) (pg_sub (pe_dget hu (pv 0) pe_str (fun _ _ => rfl)) (pv 3) set_list))
        (pss_one (ps_ret (pe_op op_mod (pe_callTy call_int1 rfl m_int bo_int (pa_cons (pv 4) pa_nil)) (pv 1))))) pss_nil)
    (pss_cons (ps_set (i := 5) sc.nd rfl (.inl rfl) (pe_callSD (E := fun σ => WE (wOf E) σ) GM hr rfl gM kM bM .nil (fun σ => passAt tk σ) (pa_cons (pe_callSD (E := fun σ => WE (wOf E) σ) GM hr rfl gM kM bM .nil (fun σ => passAt tk σ) (pa_cons (pe_ix ix_list (pe_dget hu (pv 0) pe_str (fun _ _ => rfl)) (pv 3) (fun _ _ => rfl)) (pa_cons (pv 2) pa_nil))) (pa_cons (pe_op op_add pe_int (pv 2)) pa_nil))))
    (pss_one (ps_ret (pe_op op_mod (pe_op op_fdiv (pe_callTy call_int1 rfl m_int bo_int (pa_cons (pe_op op_add (pe_op op_mulW (pv 5) pe_int) (pe_callSD (E := fun σ => WE (wOf E) σ) GM hr rfl gM kM bM .nil (fun σ => passAt tk σ) (pa_cons (pv 5) (pa_cons (pe_op op_add pe_int (pv 2)) pa_nil)))) pa_nil)) pe_int) (pv 1))))))))), ?_⟩
  obtain ⟨c, d, ws, hTT, wd, r, h⟩ := h
  by_cases hw : ∃ n, ws = [.stt, .int n]
  case neg =>
    rw [F_draw_bad fun n z => hw ⟨n, z⟩] at h
    exact h.elim
  obtain ⟨n, rfl⟩ := hw
  cases r with
  | cons r1 r2 =>
  cases r2 with
  | cons r2 r3 =>
  cases r3
  cases r2
  cases r1
  obtain ⟨⟨hn0, hn1⟩, e, hde, hq⟩ := draw_all h
  obtain ⟨⟨cells, lefts, k, rr, hS, hca, hla, hlen, hpos, hk0, hkb, hne, hT⟩, hob⟩ := wd.st
  rw [hde] at hkb
  have nS : c.ca ≠ c.S := ne_of hca hS (by intro z; cases z)
  have nS2 : c.la ≠ c.S := ne_of hla hS (by intro z; cases z)
  -- at
  refine ⟨.ref c.S, rfl, c.S, .int k, rfl, DGet.st (x := .inr kAt) hS st_at, ?_⟩
  refine ⟨.int k, rfl, k, 1, rfl, rfl, .ref c.S, rfl, c.S, _, rfl, DPut.k (k := .inr kAt) hS (by show 4 < sizeLine; decide), ?_⟩
  generalize hH1 : upd H c.S _ = H1
  have hS1 : H1 c.S = some (.dK (stK c.ca c.la (k + 1) rr)) := by rw [← hH1, upd_same, st_put]
  have o1 : ∀ b, b ≠ c.S → H1 b = H b := fun b hb => by rw [← hH1, upd_ne hb]
  have hca1 : H1 c.ca = some (.lst (cells.map V.int)) := by rw [o1 _ nS]; exact hca
  have hla1 : H1 c.la = some (.lst (lefts.map V.int)) := by rw [o1 _ nS2]; exact hla
  have st1 : Step c H H1 := ⟨fun b o hb h1 h2 _ => by rw [o1 b h1]; exact hb, fun b ps hb => ⟨#[], by rw [o1 b (ne_of hb hS (by intro z; cases z)), hb]; simp⟩, fun b C dx fs hb => ⟨fs, by rw [o1 b (ne_of hb hS (by intro z; cases z))]; exact hb⟩⟩
  have sm1 : ∀ b C dx fl, H b = some (.ins C dx fl) → H1 b = some (.ins C dx fl) := fun b C dx fl hb => by rw [o1 b (ne_of hb hS (by intro z; cases z))]; exact hb
  have hT1 : LamX.Tabs c.T H1 := by
    rw [← hH1]
    exact Tabs.upd hT hS nofun dK_noC
  have so1 : StOk c ⟨e, d.os⟩ H1 := StOk.drawn wd.st st1 sm1 hk0 hkb hne hlen hpos hS1 hca1 hla1 hT1
  have wd1 : Wd c ⟨e, d.os⟩ H1 := wd.step (.of st1) so1
  -- place
  refine ⟨.int k, rfl, .inl ⟨k, rfl, ?_⟩⟩
  refine ⟨.ref c.S, rfl, c.S, .ref c.ca, rfl, DGet.st (x := .inr kCells) hS1 st_cells, _, cells.length, rfl, .inl ⟨_, SqL.of hca1, by rw [List.length_map]⟩, k, _, rfl, rfl, by omega, ?_⟩
  have p0 : 0 ≤ k % (cells.length : Int) := Int.emod_nonneg _ (by omega)
  have p1 : k % (cells.length : Int) < cells.length := Int.emod_lt_of_pos _ (by omega)
  obtain ⟨j, hpj⟩ : ∃ j : Nat, k % (cells.length : Int) = j := ⟨(k % (cells.length : Int)).toNat, by omega⟩
  have hj : j < cells.length := by omega
  have hjl : j < lefts.length := by omega
  -- left
  refine ⟨.ref c.S, rfl, c.S, .ref c.la, rfl, DGet.st (x := .inr kLefts) hS1 st_lefts, .int (k % (cells.length : Int)), rfl, c.la, _, k % (cells.length : Int), .int lefts[j], rfl, rfl, SqL.of hla1, (by rw [hpj]; exact atI_nat (by rw [List.getElem?_map, List.getElem?_eq_getElem hjl]; rfl)), ?_⟩
  refine ⟨.int lefts[j], rfl, lefts[j], 0, rfl, rfl, _, rfl, ite2 (fun hl => ?_) (fun hl => ?_)⟩
  · -- by the digits
    refine ⟨.int lefts[j], rfl, .int n, rfl, lefts[j], n, rfl, rfl, ⟨hn0, hn1⟩, ?_⟩
    refine ⟨.ref c.S, rfl, c.S, .ref c.la, rfl, DGet.st (x := .inr kLefts) hS1 st_lefts, .int (k % (cells.length : Int)), rfl, c.la, _, k % (cells.length : Int), j, rfl, rfl, hla1, ?_, ?_⟩
    · unfold ixN
      rw [if_pos p0, if_pos (by rw [List.length_map]; omega), hpj]
      rfl
    refine ⟨.int lefts[j], rfl, .inl ⟨lefts[j], rfl, .int n, rfl, lefts[j], n, rfl, rfl, hn0, ?_⟩⟩
    have st2 : Step c H (upd H1 c.la (.lst ((lefts.map V.int).set j (.int (lefts[j] / n))))) := ⟨fun b o hb h1 h2 h3 => by rw [upd_ne h2]; exact st1.keep b o hb h1 h2 h3, fun b ps hb => by rw [upd_ne (ne_of hb hla (by intro z; cases z))]; exact st1.tbl b ps hb, fun b C dx fs hb => by rw [upd_ne (ne_of hb hla (by intro z; cases z))]; exact st1.ins b C dx fs hb⟩
    refine hq _ _ (Int.emod_nonneg _ (by omega)) (Int.emod_lt_of_pos _ hn0) (.of st2) (StOk.drawn (r := rr) wd.st st2 (fun b C dx fl hb => by rw [upd_ne (ne_of hb hla (by intro z; cases z))]; exact sm1 b C dx fl hb) (lefts' := lefts.set j (lefts[j] / n)) hk0 hkb hne (by rw [List.length_set]; exact hlen) hpos ?_ ?_ ?_ (Tabs.upd hT1 hla1 nofun lst_noC))
    · rw [upd_ne (Ne.symm nS2)]
      exact hS1
    · rw [upd_ne hne]
      exact hca1
    · rw [upd_same, List.map_set]
  · -- mixed
    refine ⟨.ref c.S, rfl, c.S, .ref c.ca, rfl, DGet.st (x := .inr kCells) hS1 st_cells, .int (k % (cells.length : Int)), rfl, c.ca, _, k % (cells.length : Int), .int cells[j], rfl, rfl, SqL.of hca1, (by rw [hpj]; exact atI_nat (by rw [List.getElem?_map, List.getElem?_eq_getElem hj]; rfl)), ?_⟩
    refine ⟨.int k, rfl, mix_sp hTT wd1 hk0 (by omega) fun c2 H2 st2 so2 => ?_⟩
    have wd2 := wd1.step st2 so2
    refine ⟨.int k, rfl, 40, k, rfl, rfl, mix_sp ⟨st2.g.T.trans hTT.1, st2.g.KK.trans hTT.2⟩ wd2 (by omega) (by omega) fun c3 H3 st3 so3 => ?_⟩
    have wd3 := wd2.step st3 so3
    refine ⟨_, rfl, _, 2147483647, rfl, rfl, wide_mul (a := 32) (b := 32) ?_ (by decide) (by decide) (by decide) (by decide), ?_⟩
    · have := mixv_lt (mixv cells[j] k) (40 + k)
      omega
    refine ⟨_, rfl, .int k, rfl, 7, k, rfl, rfl, mix_sp ⟨(st2.trans st3).g.T.trans hTT.1, (st2.trans st3).g.KK.trans hTT.2⟩ wd3 (by omega) (by omega) fun c4 H4 st4 so4 => ?_⟩
    refine ⟨_, _, rfl, rfl, .inl ⟨_, rfl, _, 64, rfl, rfl, ⟨by decide, by decide⟩, .int n, rfl, _, n, rfl, rfl, hn0, ?_⟩⟩
    exact hq _ _ (Int.emod_nonneg _ (by omega)) (Int.emod_lt_of_pos _ hn0) ((SG.of st1).trans (st2.trans (st3.trans st4))) so4
theorem ok__law_heard {f : Addr} {fd : FuncData} (F : FnP K "_law_heard" (top 67) sc__law_heard f fd) (gl : mg "_law_heard" = some (.ref f)) (xb_BadText : XB2 K (xName 22) "line" "word" "ValueError.__new__" tlV) (xb_BadPrime : XB K (xName 4) "given" "ValueError.__new__" tlV) (xb_BadLaying : XB K (xName 6) "given" "ValueError.__new__" tlV) (xb_BadMail : XB K (xName 7) "given" "ValueError.__new__" tlV) (g_BadText : mg "BadText" = some (.ref (He.ga K "BadText"))) (g_BadPrime : mg "BadPrime" = some (.ref (He.ga K "BadPrime"))) (g_BadLaying : mg "BadLaying" = some (.ref (He.ga K "BadLaying"))) (g_BadMail : mg "BadMail" = some (.ref (He.ga K "BadMail"))) (e_BadText_BadText : PySem.W.exmOne K (.ref (He.ga K (xName 22))) (.ref (He.ga K "BadText")) = some true) (e_BadMail_BadText : PySem.W.exmOne K (.ref (He.ga K (xName 7))) (.ref (He.ga K "BadText")) = some false) (e_BadLaying_BadText : PySem.W.exmOne K (.ref (He.ga K (xName 6))) (.ref (He.ga K "BadText")) = some false) (e_BadPrime_BadText : PySem.W.exmOne K (.ref (He.ga K (xName 4))) (.ref (He.ga K "BadText")) = some false) (e_BadText_BadPrime : PySem.W.exmOne K (.ref (He.ga K (xName 22))) (.ref (He.ga K "BadPrime")) = some false) (e_BadMail_BadPrime : PySem.W.exmOne K (.ref (He.ga K (xName 7))) (.ref (He.ga K "BadPrime")) = some false) (e_BadLaying_BadPrime : PySem.W.exmOne K (.ref (He.ga K (xName 6))) (.ref (He.ga K "BadPrime")) = some false) (e_BadPrime_BadPrime : PySem.W.exmOne K (.ref (He.ga K (xName 4))) (.ref (He.ga K "BadPrime")) = some true) (e_BadText_BadLaying : PySem.W.exmOne K (.ref (He.ga K (xName 22))) (.ref (He.ga K "BadLaying")) = some false) (e_BadMail_BadLaying : PySem.W.exmOne K (.ref (He.ga K (xName 7))) (.ref (He.ga K "BadLaying")) = some false) (e_BadLaying_BadLaying : PySem.W.exmOne K (.ref (He.ga K (xName 6))) (.ref (He.ga K "BadLaying")) = some true) (e_BadPrime_BadLaying : PySem.W.exmOne K (.ref (He.ga K (xName 4))) (.ref (He.ga K "BadLaying")) = some false) (e_BadText_BadMail : PySem.W.exmOne K (.ref (He.ga K (xName 22))) (.ref (He.ga K "BadMail")) = some false) (e_BadMail_BadMail : PySem.W.exmOne K (.ref (He.ga K (xName 7))) (.ref (He.ga K "BadMail")) = some true) (e_BadLaying_BadMail : PySem.W.exmOne K (.ref (He.ga K (xName 6))) (.ref (He.ga K "BadMail")) = some false) (e_BadPrime_BadMail : PySem.W.exmOne K (.ref (He.ga K (xName 4))) (.ref (He.ga K "BadMail")) = some false) : HearIs P w K mg base "_law_heard" "_law_call" wrL N__law_heard H__law_heard := by
  have sc : FnScope ["_law_call", "error"] ["_law_call"] sc__law_heard := ⟨rfl, rfl, rfl, by decide +kernel, rfl, by decide +kernel, by decide +kernel⟩
  refine ⟨f, fd, _, _, sc__law_heard, ["_law_call", "error"], F, gl, F.bindsN fun _ _ _ _ _ _ us hl => match us, hl with | [_], _ => rfl, sc, rfl, .inl rfl, by decide, by decide, fun cdg => ?_⟩
  refine hears_L sc.nd (fun _ => rfl) ?_ (fun _ => rfl) (fun _ => rfl) (fun A stack s H => ?_)
  · unfold H__law_heard
    intro x hx i hi
    simp only [List.mem_cons, List.not_mem_nil, or_false] at hx
    rcases hx with rfl | rfl | rfl | rfl <;> cases hi <;> decide
  · exact ⟨_, (.cons (x := "BadText") (c := .ref (He.ga K "BadText")) (ms := [22]) (m := (fun n => [22].contains n)) (io := some 1) ⟨rfl, rfl, .inl g_BadText⟩ (fun i z => by cases z; exact ⟨"error", rfl, rfl, rfl⟩) (fun z => by cases z) (allC (p := fun n => PySem.W.exmOne K (.ref (He.ga K (xName n))) (.ref (He.ga K "BadText")) = some ((fun n => [22].contains n) n)) e_BadPrime_BadText (allC (p := fun n => PySem.W.exmOne K (.ref (He.ga K (xName n))) (.ref (He.ga K "BadText")) = some ((fun n => [22].contains n) n)) e_BadLaying_BadText (allC (p := fun n => PySem.W.exmOne K (.ref (He.ga K (xName n))) (.ref (He.ga K "BadText")) = some ((fun n => [22].contains n) n)) e_BadMail_BadText (allC (p := fun n => PySem.W.exmOne K (.ref (He.ga K (xName n))) (.ref (He.ga K "BadText")) = some ((fun n => [22].contains n) n)) e_BadText_BadText allN)))) (memC (m := (fun n => [22].contains n)) (by decide) ((memC (m := (fun n => [22].contains n)) (by decide) ((memC (m := (fun n => [22].contains n)) (by decide) ((memC (m := (fun n => [22].contains n)) (by decide) (allN (p := fun n => (fun n => [22].contains n) n = true → n ∈ [22]))))))))) (su_ret (trx_tup (trx_cons (trx_strL (by kernel_rfl)) (trx_cons (trx_fld (i := 1) (k := 0) (n := 22) xb_BadText.one.xf xb_BadText.one.no rfl (.inl rfl) rfl (by decide)) (trx_cons (trx_fld (i := 1) (k := 1) (n := 22) xb_BadText.one.xf xb_BadText.no2 rfl (.inl rfl) rfl (by decide)) trx_nil))))) (.cons (x := "BadPrime") (c := .ref (He.ga K "BadPrime")) (ms := [4]) (m := (fun n => [4].contains n)) (io := some 1) ⟨rfl, rfl, .inl g_BadPrime⟩ (fun i z => by cases z; exact ⟨"error", rfl, rfl, rfl⟩) (fun z => by cases z) (allC (p := fun n => PySem.W.exmOne K (.ref (He.ga K (xName n))) (.ref (He.ga K "BadPrime")) = some ((fun n => [4].contains n) n)) e_BadPrime_BadPrime (allC (p := fun n => PySem.W.exmOne K (.ref (He.ga K (xName n))) (.ref (He.ga K "BadPrime")) = some ((fun n => [4].contains n) n)) e_BadLaying_BadPrime (allC (p := fun n => PySem.W.exmOne K (.ref (He.ga K (xName n))) (.ref (He.ga K "BadPrime")) = some ((fun n => [4].contains n) n)) e_BadMail_BadPrime (allC (p := fun n => PySem.W.exmOne K (.ref (He.ga K (xName n))) (.ref (He.ga K "BadPrime")) = some ((fun n => [4].contains n) n)) e_BadText_BadPrime allN)))) (memC (m := (fun n => [4].contains n)) (by decide) ((memC (m := (fun n => [4].contains n)) (by decide) ((memC (m := (fun n => [4].contains n)) (by decide) ((memC (m := (fun n => [4].contains n)) (by decide) (allN (p := fun n => (fun n => [4].contains n) n = true → n ∈ [4]))))))))) (su_ret (trx_tup (trx_cons (trx_strL (by kernel_rfl)) (trx_cons (trx_fld (i := 1) (k := 0) (n := 4) xb_BadPrime.xf xb_BadPrime.no rfl (.inl rfl) rfl (by decide)) trx_nil)))) (.cons (x := "BadLaying") (c := .ref (He.ga K "BadLaying")) (ms := [6]) (m := (fun n => [6].contains n)) (io := some 1) ⟨rfl, rfl, .inl g_BadLaying⟩ (fun i z => by cases z; exact ⟨"error", rfl, rfl, rfl⟩) (fun z => by cases z) (allC (p := fun n => PySem.W.exmOne K (.ref (He.ga K (xName n))) (.ref (He.ga K "BadLaying")) = some ((fun n => [6].contains n) n)) e_BadPrime_BadLaying (allC (p := fun n => PySem.W.exmOne K (.ref (He.ga K (xName n))) (.ref (He.ga K "BadLaying")) = some ((fun n => [6].contains n) n)) e_BadLaying_BadLaying (allC (p := fun n => PySem.W.exmOne K (.ref (He.ga K (xName n))) (.ref (He.ga K "BadLaying")) = some ((fun n => [6].contains n) n)) e_BadMail_BadLaying (allC (p := fun n => PySem.W.exmOne K (.ref (He.ga K (xName n))) (.ref (He.ga K "BadLaying")) = some ((fun n => [6].contains n) n)) e_BadText_BadLaying allN)))) (memC (m := (fun n => [6].contains n)) (by decide) ((memC (m := (fun n => [6].contains n)) (by decide) ((memC (m := (fun n => [6].contains n)) (by decide) ((memC (m := (fun n => [6].contains n)) (by decide) (allN (p := fun n => (fun n => [6].contains n) n = true → n ∈ [6]))))))))) (su_ret (trx_tup (trx_cons (trx_strL (by kernel_rfl)) (trx_cons (trx_fld (i := 1) (k := 0) (n := 6) xb_BadLaying.xf xb_BadLaying.no rfl (.inl rfl) rfl (by decide)) trx_nil)))) (.cons (x := "BadMail") (c := .ref (He.ga K "BadMail")) (ms := [7]) (m := (fun n => [7].contains n)) (io := some 1) ⟨rfl, rfl, .inl g_BadMail⟩ (fun i z => by cases z; exact ⟨"error", rfl, rfl, rfl⟩) (fun z => by cases z) (allC (p := fun n => PySem.W.exmOne K (.ref (He.ga K (xName n))) (.ref (He.ga K "BadMail")) = some ((fun n => [7].contains n) n)) e_BadPrime_BadMail (allC (p := fun n => PySem.W.exmOne K (.ref (He.ga K (xName n))) (.ref (He.ga K "BadMail")) = some ((fun n => [7].contains n) n)) e_BadLaying_BadMail (allC (p := fun n => PySem.W.exmOne K (.ref (He.ga K (xName n))) (.ref (He.ga K "BadMail")) = some ((fun n => [7].contains n) n)) e_BadMail_BadMail (allC (p := fun n => PySem.W.exmOne K (.ref (He.ga K (xName n))) (.ref (He.ga K "BadMail")) = some ((fun n => [7].contains n) n)) e_BadText_BadMail allN)))) (memC (m := (fun n => [7].contains n)) (by decide) ((memC (m := (fun n => [7].contains n)) (by decide) ((memC (m := (fun n => [7].contains n)) (by decide) ((memC (m := (fun n => [7].contains n)) (by decide) (allN (p := fun n => (fun n => [7].contains n) n = true → n ∈ [7]))))))))) (su_ret (trx_tup (trx_cons (trx_strL (by kernel_rfl)) (trx_cons (trx_fld (i := 1) (k := 0) (n := 7) xb_BadMail.xf xb_BadMail.no rfl (.inl rfl) rfl (by decide)) trx_nil)))) .nil))))⟩
theorem ok__law_refused_right {f : Addr} {fd : FuncData} (F : FnP K "_law_refused_right" (top 68) sc__law_refused_right f fd) (gl : mg "_law_refused_right" = some (.ref f)) (ga : f = He.ga K "_law_refused_right") (tb : ∀ z ∈ tabC K, LamX.TabB base mg z.1 z.2.1) (ap : ∀ p ∈ tabL K, ∀ q ∈ tabL K, q.1 = p.1 → q.2 = p.2) (h__law_heard : HearIs P w K mg base "_law_heard" "_law_call" wrL N__law_heard H__law_heard) (h_judged : FnGs P w K mg base 10 "judged" ["text"] F_judged) : FnGs P w K mg base 13 "_law_refused_right" [] F__law_refused_right := by
  have sc : FnScope ["_law_rows", "_law_due", "_law_odd", "_law_sheet"] [] sc__law_refused_right := ⟨rfl, rfl, rfl, by decide +kernel, rfl, by decide +kernel, by decide +kernel⟩
  refine ⟨f, fd, fn_trL (k := 12) F sc (fun cdv A outer s H E hcd hgd hr => ?_), gl, F.kp, F.bindsN fun _ _ _ _ _ _ us hl => match us, hl with | [], _ => rfl⟩
  have tk : Takes (cxOf (L2.CX P w) P w K mg base ["_law_rows", "_law_due", "_law_odd", "_law_sheet"] "_law_refused_right" sc__law_refused_right f cdv A outer s H E) (wOf E) := takes_of rfl rfl rfl rfl
  have mk : MkT K mg base cdv ("_law_refused_right" ++ ".<locals>." ++ "<lambda>") := by
    rw [← hcd]
    exact mk_of F tb ap
  have sl : SlOk (cxOf (L2.CX P w) P w K mg base ["_law_rows", "_law_due", "_law_odd", "_law_sheet"] "_law_refused_right" sc__law_refused_right f cdv A outer s H E) cap__law_refused_right := slOk_by F ga (by kernel_rfl)
  exact (trs_cons (tr_for (passes_of rfl) rfl (tri_tup (tr_tup (tra_cons tr_non (tra_cons tr_int (tra_cons tr_bl (tra_cons (tr_tup tra_nil) (tra_cons (tr_lst (tra_cons (tr_strL (by kernel_rfl)) tra_nil)) tra_nil))))))) (trg_name sc.nd rfl (.inr rfl)) (trs_one (tr_ifs (trb_cmp (op_neS hr.units) sem_neS (tr_hear (k := 10) (one := none) h__law_heard mk hgd (hr.mono (by decide)) rfl (lmS_by (by kernel_rfl)) .zero (fun _ _ _ _ _ _ _ hgd hr => (tr_callG h_judged hgd (hr.mono (by decide)) (takes_of rfl rfl rfl rfl) rfl (tra_cons (tr_var 2) tra_nil)))) (tr_tup (tra_cons (tr_strL (by kernel_rfl)) (tra_cons tr_non (tra_cons tr_non tra_nil)))) (nomark _)) (trs_one (tr_ret tr_bl)) trs_nil))) (trs_cons (tr_own (i := 0) sc.nd rfl (.inl rfl) (tra_cons (tr_tup (tra_cons (tr_strL (by kernel_rfl)) (tra_cons (tr_tup (tra_cons (tr_strL (by kernel_rfl)) (tra_cons tr_int (tra_cons tr_int tra_nil)))) tra_nil))) (tra_cons (tr_tup (tra_cons (tr_strL (by kernel_rfl)) (tra_cons (tr_tup (tra_cons (tr_strL (by kernel_rfl)) (tra_cons tr_int (tra_cons tr_int tra_nil)))) tra_nil))) (tra_cons (tr_tup (tra_cons (tr_strL (by kernel_rfl)) (tra_cons (tr_tup (tra_cons (tr_strL (by kernel_rfl)) (tra_cons tr_int (tra_cons tr_int tra_nil)))) tra_nil))) (tra_cons (tr_tup (tra_cons (tr_strL (by kernel_rfl)) (tra_cons (tr_tup (tra_cons (tr_strL (by kernel_rfl)) (tra_cons tr_int (tra_cons tr_int tra_nil)))) tra_nil))) tra_nil))))) (trs_cons (tr_frz 0 (tr_ownAdd (i := 0) sc.nd rfl (.inl rfl) (tr_var 0) (tr_lst (tra_cons (tr_tup (tra_cons (tr_strL (by kernel_rfl)) (tra_cons (tr_tup (tra_cons (tr_strL (by kernel_rfl)) (tra_cons tr_int (tra_cons tr_int tra_nil)))) tra_nil))) (tra_cons (tr_tup (tra_cons (tr_strL (by kernel_rfl)) (tra_cons (tr_tup (tra_cons (tr_strL (by kernel_rfl)) (tra_cons tr_int (tra_cons tr_int tra_nil)))) tra_nil))) (tra_cons (tr_tup (tra_cons (tr_strL (by kernel_rfl)) (tra_cons (tr_tup (tra_cons (tr_strL (by kernel_rfl)) (tra_cons tr_int (tra_cons tr_int tra_nil)))) tra_nil))) tra_nil)))))) (trs_cons (tr_frz 0 (tr_ownAdd (i := 0) sc.nd rfl (.inl rfl) (tr_var 0) (tr_lst (tra_cons (tr_tup (tra_cons (tr_strL (by kernel_rfl)) (tra_cons (tr_tup (tra_cons (tr_strL (by kernel_rfl)) (tra_cons tr_int (tra_cons tr_int tra_nil)))) tra_nil))) (tra_cons (tr_tup (tra_cons (tr_strL (by kernel_rfl)) (tra_cons (tr_tup (tra_cons (tr_strL (by kernel_rfl)) (tra_cons tr_int (tra_cons tr_int tra_nil)))) tra_nil))) tra_nil))))) (trs_cons (tr_app (pv 0) (tra_cons (tr_tup (tra_cons (tr_strL (by kernel_rfl)) (tra_cons (tr_tup (tra_cons (tr_strL (by kernel_rfl)) (tra_cons tr_int (tra_cons tr_int tra_nil)))) tra_nil))) tra_nil)) (trs_cons (tr_frz 0 (tr_ownAdd (i := 0) sc.nd rfl (.inl rfl) (tr_var 0) (tr_lst (tra_cons (tr_tup (tra_cons (tr_strL (by kernel_rfl)) (tra_cons (tr_tup (tra_cons (tr_strL (by kernel_rfl)) (tra_cons tr_int (tra_cons tr_int tra_nil)))) tra_nil))) (tra_cons (tr_tup (tra_cons (tr_strL (by kernel_rfl)) (tra_cons (tr_tup (tra_cons (tr_strL (by kernel_rfl)) (tra_cons tr_int (tra_cons tr_int tra_nil)))) tra_nil))) tra_nil))))) (trs_cons (tr_frz 0 (tr_ownAdd (i := 0) sc.nd rfl (.inl rfl) (tr_var 0) (tr_lst (tra_cons (tr_tup (tra_cons (tr_strL (by kernel_rfl)) (tra_cons (tr_tup (tra_cons (tr_strL (by kernel_rfl)) (tra_cons tr_int (tra_cons tr_int tra_nil)))) tra_nil))) (tra_cons (tr_tup (tra_cons (tr_strL (by kernel_rfl)) (tra_cons (tr_tup (tra_cons (tr_strL (by kernel_rfl)) (tra_cons tr_int (tra_cons tr_int tra_nil)))) tra_nil))) tra_nil))))) (trs_cons (tr_frz 0 (tr_ownAdd (i := 0) sc.nd rfl (.inl rfl) (tr_var 0) (tr_lst (tra_cons (tr_tup (tra_cons (tr_strL (by kernel_rfl)) (tra_cons (tr_tup (tra_cons (tr_strL (by kernel_rfl)) (tra_cons tr_int (tra_cons tr_int tra_nil)))) tra_nil))) (tra_cons (tr_tup (tra_cons (tr_strL (by kernel_rfl)) (tra_cons (tr_tup (tra_cons (tr_strL (by kernel_rfl)) (tra_cons tr_int (tra_cons tr_int tra_nil)))) tra_nil))) tra_nil))))) (trs_cons (tr_frz 0 (tr_ownAdd (i := 0) sc.nd rfl (.inl rfl) (tr_var 0) (tr_lst (tra_cons (tr_tup (tra_cons (tr_strL (by kernel_rfl)) (tra_cons (tr_tup (tra_cons (tr_strL (by kernel_rfl)) (tra_cons tr_int tra_nil))) tra_nil))) (tra_cons (tr_tup (tra_cons (tr_strL (by kernel_rfl)) (tra_cons (tr_tup (tra_cons (tr_strL (by kernel_rfl)) (tra_cons (tr_tup (tra_cons tr_int tra_nil)) tra_nil))) tra_nil))) tra_nil))))) (trs_cons (tr_frz 0 (tr_ownAdd (i := 0) sc.nd rfl (.inl rfl) (tr_var 0) (tr_lst (tra_cons (tr_tup (tra_cons (tr_strL (by kernel_rfl)) (tra_cons (tr_tup (tra_cons (tr_strL (by kernel_rfl)) (tra_cons tr_int (tra_cons tr_int tra_nil)))) tra_nil))) (tra_cons (tr_tup (tra_cons (tr_strL (by kernel_rfl)) (tra_cons (tr_tup (tra_cons (tr_strL (by kernel_rfl)) (tra_cons tr_int (tra_cons tr_int tra_nil)))) tra_nil))) tra_nil))))) (trs_cons (tr_frz 0 (tr_ownAdd (i := 0) sc.nd rfl (.inl rfl) (tr_var 0) (tr_lst (tra_cons (tr_tup (tra_cons (tr_strL (by kernel_rfl)) (tra_cons (tr_tup (tra_cons (tr_strL (by kernel_rfl)) (tra_cons tr_int (tra_cons tr_int tra_nil)))) tra_nil))) (tra_cons (tr_tup (tra_cons (tr_strL (by kernel_rfl)) (tra_cons (tr_tup (tra_cons (tr_strL (by kernel_rfl)) (tra_cons tr_int (tra_cons tr_int tra_nil)))) tra_nil))) tra_nil))))) (trs_cons (tr_frz 0 (tr_ownAdd (i := 0) sc.nd rfl (.inl rfl) (tr_var 0) (tr_lst (tra_cons (tr_tup (tra_cons (tr_strL (by kernel_rfl)) (tra_cons (tr_tup (tra_cons (tr_strL (by kernel_rfl)) (tra_cons tr_int (tra_cons tr_int tra_nil)))) tra_nil))) (tra_cons (tr_tup (tra_cons (tr_strL (by kernel_rfl)) (tra_cons (tr_tup (tra_cons (tr_strL (by kernel_rfl)) (tra_cons tr_int (tra_cons tr_int tra_nil)))) tra_nil))) tra_nil))))) (trs_cons (tr_frz 0 (tr_ownAdd (i := 0) sc.nd rfl (.inl rfl) (tr_var 0) (tr_lst (tra_cons (tr_tup (tra_cons (tr_strL (by kernel_rfl)) (tra_cons (tr_tup (tra_cons (tr_strL (by kernel_rfl)) (tra_cons (tr_tup (tra_cons (tr_tup (tra_cons tr_int (tra_cons (tr_tup (tra_cons tr_int tra_nil)) tra_nil))) tra_nil)) tra_nil))) tra_nil))) (tra_cons (tr_tup (tra_cons (tr_strL (by kernel_rfl)) (tra_cons (tr_tup (tra_cons (tr_strL (by kernel_rfl)) (tra_cons tr_int (tra_cons tr_int tra_nil)))) tra_nil))) tra_nil))))) (trs_cons (tr_frz 0 (tr_for (passes_of rfl) rfl (tri_lst (tr_f2 addF_eq (tr_op op_addW sem_add (tr_var 0) (tr_lst (tra_cons (tr_tup (tra_cons (tr_strL (by kernel_rfl)) (tra_cons (tr_tup (tra_cons (tr_strL (by kernel_rfl)) (tra_cons (tr_tup (tra_cons (tr_tup (tra_cons tr_int (tra_cons (tr_tup (tra_cons tr_int (tra_cons tr_int tra_nil))) tra_nil))) tra_nil)) tra_nil))) tra_nil))) (tra_cons (tr_tup (tra_cons (tr_strL (by kernel_rfl)) (tra_cons (tr_lst (tra_cons (tr_tup tra_nil) tra_nil)) tra_nil))) tra_nil)))))) (trg_tup rfl (trgs_cons (trg_name sc.nd rfl (.inr rfl)) (trgs_cons (trg_name sc.nd rfl (.inl rfl)) trgs_nil))) (trs_one (tr_ifs (trb_cmp (op_neS hr.units) sem_neS (tr_hear (k := 10) (one := none) h__law_heard mk hgd (hr.mono (by decide)) rfl (lmS_by (by kernel_rfl)) .zero (fun _ _ _ _ _ _ _ hgd hr => (tr_callG h_judged hgd (hr.mono (by decide)) (takes_of rfl rfl rfl rfl) rfl (tra_cons (tr_var 3) tra_nil)))) (tr_var 1) (nomark _)) (trs_one (tr_ret tr_bl)) trs_nil)))) (trs_one (tr_ret tr_bl))))))))))))))))
theorem ok_law {f fB : Addr} {fd fdB : FuncData} (F : FnP K "law" (top 69) sc_law f fd) (FB : FnP K "_law_begin" (top 65) sc__law_begin fB fdB) (gB : mg "_law_begin" = some (.ref fB)) (m_list0 : mg "list" = none) (en : LawEndsW g_law 10) (m_str : mg "str" = none) (m_int : mg "int" = none) (m_tuple : mg "tuple" = none) (m_range : mg "range" = none) (h__law_draw : FnGs P w K mg base 2 "_law_draw" ["_law_state", "_law_many"] F__law_draw) (h_judged : FnGs P w K mg base 10 "judged" ["text"] F_judged) (h__law_refused_right : FnGs P w K mg base 13 "_law_refused_right" [] F__law_refused_right) : FnG P w K mg base 14 f fd ["_law_script"] (spLaw K) := by
  have sc : FnScope ["_law_script", "_law_state", "_law_by", "_law_lines", "_law_good", "_law_due", "_law_bad", "_law_wrong", "_law_few", "_law_eight", "_law_none", "_law_k"] ["_law_script"] sc_law := ⟨rfl, rfl, rfl, by decide +kernel, rfl, by decide +kernel, by decide +kernel⟩
  have GB : FnOk P w K mg base (L2.CX P w) 1 fB fdB ["_law_script"] (spBegin K) := ok__law_begin FB m_list0
  have bB : Binds K fdB ["_law_script"] [] := FB.bindsN fun _ _ _ _ _ _ us hl => match us, hl with | [_], _ => rfl
  refine gdef (k := 13) F sc (fun vs H Q E h => ?_) (fun cdv A outer s H vs Q E hcd hgd hr h => ?_)
  · obtain ⟨a, ns, rfl, _⟩ := h
    rfl
  have tk : Takes (cxOf (L2.CX P w) P w K mg base ["_law_script", "_law_state", "_law_by", "_law_lines", "_law_good", "_law_due", "_law_bad", "_law_wrong", "_law_few", "_law_eight", "_law_none", "_law_k"] "law" sc_law f cdv A outer s H E) (wOf E) := takes_of rfl rfl rfl rfl
  have rest : TrSs (envOfC "law" sc_law s.heap.objs.size f cdv).cells (cxOf (L2.CX P w) P w K mg base ["_law_script", "_law_state", "_law_by", "_law_lines", "_law_good", "_law_due", "_law_bad", "_law_wrong", "_law_few", "_law_eight", "_law_none", "_law_k"] "law" sc_law f cdv A outer s H E) E (defBody (top 69)).tail g_law :=
    (trs_cons (tr_set (i := 2) sc.nd rfl (.inl rfl) (tr_callG h__law_draw hgd (hr.mono (by decide)) tk rfl (tra_cons (tr_var 1) (tra_cons tr_int tra_nil)))) (trs_cons (tr_set (i := 3) sc.nd rfl (.inl rfl) (tr_lst (tra_cons (tr_strL (by kernel_rfl)) (tra_cons (tr_strL (by kernel_rfl)) (tra_cons (tr_strL (by kernel_rfl)) (tra_cons (tr_f2 addF_eq (tr_op op_addW sem_add (tr_strL (by kernel_rfl)) (tr_fL strIF_eq (tr_callTy call_str_int sem_strI rfl m_str bo_strT (tra_cons (tr_op op_mod sem_mod (tr_fL intSF_eq (tr_callTy (callR_or call_int1 call_int_str) sem_intS rfl m_int bo_int (tra_cons (tr_f2 addF_eq (tr_op op_addW sem_add (tr_var 2) tr_int)) tra_nil))) tr_int) tra_nil))))) (tra_cons (tr_f2 addF_eq (tr_op op_addW sem_add (tr_strL (by kernel_rfl)) (tr_fL strIF_eq (tr_callTy call_str_int sem_strI rfl m_str bo_strT (tra_cons (tr_op op_mod sem_mod (tr_fL intSF_eq (tr_callTy (callR_or call_int1 call_int_str) sem_intS rfl m_int bo_int (tra_cons (tr_f2 addF_eq (tr_op op_addW sem_add (tr_var 2) tr_int)) tra_nil))) tr_int) tra_nil))))) tra_nil))))))) (trs_cons (tr_set (i := 4) sc.nd rfl (.inl rfl) (tr_f2 addF_eq (tr_op op_addW sem_add (tr_var 3) (tr_lst (tra_cons (tr_f2 addF_eq (tr_op op_addW sem_add (tr_strL (by kernel_rfl)) (tr_fL strIF_eq (tr_callTy call_str_int sem_strI rfl m_str bo_strT (tra_cons (tr_op op_mod sem_mod (tr_fL intSF_eq (tr_callTy (callR_or call_int1 call_int_str) sem_intS rfl m_int bo_int (tra_cons (tr_f2 addF_eq (tr_op op_addW sem_add (tr_var 2) tr_int)) tra_nil))) tr_int) tra_nil))))) (tra_cons (tr_strL (by kernel_rfl)) (tra_cons (tr_strL (by kernel_rfl)) (tra_cons (tr_strL (by kernel_rfl)) (tra_cons (tr_strL (by kernel_rfl)) (tra_cons (tr_strL (by kernel_rfl)) tra_nil)))))))))) (trs_cons (tr_set (i := 4) sc.nd rfl (.inl rfl) (tr_f2 addF_eq (tr_op op_addW sem_add (tr_var 4) (tr_lst (tra_cons (tr_f2 addF_eq (tr_op op_addW sem_add (tr_strL (by kernel_rfl)) (tr_fL strIF_eq (tr_callTy call_str_int sem_strI rfl m_str bo_strT (tra_cons (tr_var 2) tra_nil))))) (tra_cons (tr_strL (by kernel_rfl)) (tra_cons (tr_strL (by kernel_rfl)) (tra_cons (tr_strL (by kernel_rfl)) (tra_cons (tr_strL (by kernel_rfl)) (tra_cons (tr_strL (by kernel_rfl)) tra_nil)))))))))) (trs_cons (tr_set (i := 4) sc.nd rfl (.inl rfl) (tr_f2 addF_eq (tr_op op_addW sem_add (tr_var 4) (tr_lst (tra_cons (tr_strL (by kernel_rfl)) (tra_cons (tr_strL (by kernel_rfl)) tra_nil)))))) (trs_cons (tr_set (i := 5) sc.nd rfl (.inl rfl) (tr_lst (tra_cons tr_bl (tra_cons tr_bl (tra_cons tr_bl (tra_cons tr_bl (tra_cons tr_bl (tra_cons tr_bl (tra_cons tr_bl (tra_cons tr_bl (tra_cons tr_bl (tra_cons tr_bl (tra_cons tr_bl (tra_cons tr_bl (tra_cons tr_bl tra_nil))))))))))))))) (trs_cons (tr_ifs (trb_cmp (op_neS hr.units) sem_neS (tr_callG h_judged hgd (hr.mono (by decide)) tk rfl (tra_cons (tr_fBM joinF_eq (tr_bmS sem_join (pe_bm PySem.F.plainAttrs_str PySem.F.slot_str_join PySem.F.type_str_join mt_join (tr_strL (by kernel_rfl)) (tra_cons (tr_var 4) tra_nil)))) tra_nil)) (tr_callTy call_tuple_of sem_tupOf rfl m_tuple bo_tuple (tra_cons (tr_var 5) tra_nil)) (nomark _)) (trs_one (tr_ret tr_bl)) trs_nil) (trs_cons (tr_set (i := 6) sc.nd rfl (.inl rfl) (tr_f2 addF_eq (tr_op op_addW sem_add (tr_var 3) (tr_lst (tra_cons (tr_f2 addF_eq (tr_op op_addW sem_add (tr_strL (by kernel_rfl)) (tr_fL strIF_eq (tr_callTy call_str_int sem_strI rfl m_str bo_strT (tra_cons (tr_op op_mod sem_mod (tr_fL intSF_eq (tr_callTy (callR_or call_int1 call_int_str) sem_intS rfl m_int bo_int (tra_cons (tr_f2 addF_eq (tr_op op_addW sem_add (tr_var 2) tr_int)) tra_nil))) tr_int) tra_nil))))) (tra_cons (tr_strL (by kernel_rfl)) (tra_cons (tr_strL (by kernel_rfl)) (tra_cons (tr_strL (by kernel_rfl)) (tra_cons (tr_strL (by kernel_rfl)) (tra_cons (tr_strL (by kernel_rfl)) tra_nil)))))))))) (trs_cons (tr_set (i := 6) sc.nd rfl (.inl rfl) (tr_f2 addF_eq (tr_op op_addW sem_add (tr_var 6) (tr_lst (tra_cons (tr_strL (by kernel_rfl)) (tra_cons (tr_strL (by kernel_rfl)) (tra_cons (tr_strL (by kernel_rfl)) (tra_cons (tr_strL (by kernel_rfl)) (tra_cons (tr_strL (by kernel_rfl)) (tra_cons (tr_strL (by kernel_rfl)) tra_nil)))))))))) (trs_cons (tr_ifs (trb_cmp (op_neS hr.units) sem_neS (tr_callG h_judged hgd (hr.mono (by decide)) tk rfl (tra_cons (tr_fBM joinF_eq (tr_bmS sem_join (pe_bm PySem.F.plainAttrs_str PySem.F.slot_str_join PySem.F.type_str_join mt_join (tr_strL (by kernel_rfl)) (tra_cons (tr_var 6) tra_nil)))) tra_nil)) (tr_tup (tra_cons tr_bl (tra_cons tr_bl (tra_cons tr_bl (tra_cons tr_bl (tra_cons tr_bl (tra_cons tr_bl (tra_cons tr_bl (tra_cons tr_bl (tra_cons tr_bl (tra_cons tr_bl (tra_cons tr_bl tra_nil)))))))))))) (nomark _)) (trs_one (tr_ret tr_bl)) trs_nil) (trs_cons (tr_set (i := 7) sc.nd rfl (.inl rfl) (tr_f2 addF_eq (tr_op op_addW sem_add (tr_var 3) (tr_lst (tra_cons (tr_f2 addF_eq (tr_op op_addW sem_add (tr_strL (by kernel_rfl)) (tr_fL strIF_eq (tr_callTy call_str_int sem_strI rfl m_str bo_strT (tra_cons (tr_op op_mod sem_mod (tr_fL intSF_eq (tr_callTy (callR_or call_int1 call_int_str) sem_intS rfl m_int bo_int (tra_cons (tr_f2 addF_eq (tr_op op_addW sem_add (tr_var 2) tr_int)) tra_nil))) tr_int) tra_nil))))) (tra_cons (tr_strL (by kernel_rfl)) (tra_cons (tr_strL (by kernel_rfl)) (tra_cons (tr_strL (by kernel_rfl)) (tra_cons (tr_strL (by kernel_rfl)) tra_nil))))))))) (trs_cons (tr_set (i := 7) sc.nd rfl (.inl rfl) (tr_f2 addF_eq (tr_op op_addW sem_add (tr_var 7) (tr_lst (tra_cons (tr_strL (by kernel_rfl)) (tra_cons (tr_strL (by kernel_rfl)) tra_nil)))))) (trs_cons (tr_ifs (trb_cmp (op_neS hr.units) sem_neS (tr_callG h_judged hgd (hr.mono (by decide)) tk rfl (tra_cons (tr_fBM joinF_eq (tr_bmS sem_join (pe_bm PySem.F.plainAttrs_str PySem.F.slot_str_join PySem.F.type_str_join mt_join (tr_strL (by kernel_rfl)) (tra_cons (tr_var 7) tra_nil)))) tra_nil)) (tr_tup (tra_cons tr_bl (tra_cons tr_bl (tra_cons tr_bl (tra_cons tr_bl (tra_cons tr_bl (tra_cons tr_bl tra_nil))))))) (nomark _)) (trs_one (tr_ret tr_bl)) trs_nil) (trs_cons (tr_own (i := 8) sc.nd rfl (.inl rfl) (tra_cons (tr_strL (by kernel_rfl)) (tra_cons (tr_strL (by kernel_rfl)) (tra_cons (tr_strL (by kernel_rfl)) (tra_cons (tr_strL (by kernel_rfl)) (tra_cons (tr_strL (by kernel_rfl)) (tra_cons (tr_strL (by kernel_rfl)) (tra_cons (tr_strL (by kernel_rfl)) (tra_cons (tr_strL (by kernel_rfl)) (tra_cons (tr_strL (by kernel_rfl)) (tra_cons (tr_strL (by kernel_rfl)) tra_nil))))))))))) (trs_cons (tr_app (pv 8) (tra_cons (tr_strL (by kernel_rfl)) tra_nil)) (trs_cons (tr_ifs (trb_cmp (op_neS hr.units) sem_neS (tr_callG h_judged hgd (hr.mono (by decide)) tk rfl (tra_cons (tr_joinOF (tr_joinO (pe_bm PySem.F.plainAttrs_str PySem.F.slot_str_join PySem.F.type_str_join mt_join (tr_strL (by kernel_rfl)) (pa_cons (pv 8) pa_nil)))) tra_nil)) (tr_tup (tra_cons tr_bl (tra_cons tr_bl (tra_cons tr_bl (tra_cons tr_bl (tra_cons tr_bl (tra_cons tr_bl (tra_cons tr_bl tra_nil)))))))) (nomark _)) (trs_one (tr_ret tr_bl)) trs_nil) (trs_cons (tr_set (i := 9) sc.nd rfl (.inl rfl) (tr_f2 addF_eq (tr_op op_addW sem_add (tr_lst (tra_cons (tr_strL (by kernel_rfl)) (tra_cons (tr_strL (by kernel_rfl)) (tra_cons (tr_strL (by kernel_rfl)) tra_nil)))) (tr_lc (own := [("_law_k", 11)]) rfl sc.nd (tri_rng1 rfl m_range (tra_cons tr_int tra_nil)) (blkOk_by (N := ["_law_script", "_law_state", "_law_by", "_law_lines", "_law_good", "_law_due", "_law_bad", "_law_wrong", "_law_few", "_law_eight", "_law_none", "_law_k"]) (sc := sc_law) (by decide +kernel)) (by decide) (fun _ _ _ _ _ => (trg_name sc.nd rfl (by first | exact .inl rfl | exact .inr rfl))) (fun _ _ _ _ _ => trt_nil) (fun _ _ _ _ _ => (tr_f2 addF_eq (tr_op op_addW sem_add (tr_fL strIF_eq (tr_callTy call_str_int sem_strI rfl m_str bo_strT (tra_cons (tr_var 11) tra_nil))) (tr_strL (by kernel_rfl))))))))) (trs_cons (tr_ifs (trb_cmp (op_neS hr.units) sem_neS (tr_callG h_judged hgd (hr.mono (by decide)) tk rfl (tra_cons (tr_fBM joinF_eq (tr_bmS sem_join (pe_bm PySem.F.plainAttrs_str PySem.F.slot_str_join PySem.F.type_str_join mt_join (tr_strL (by kernel_rfl)) (tra_cons (tr_f2 addF_eq (tr_op op_addW sem_add (tr_var 9) (tr_lst (tra_cons (tr_strL (by kernel_rfl)) (tra_cons (tr_strL (by kernel_rfl)) (tra_cons (tr_strL (by kernel_rfl)) (tra_cons (tr_strL (by kernel_rfl)) tra_nil))))))) tra_nil)))) tra_nil)) (tr_op op_mulTA sem_mulTA (tr_tup (tra_cons tr_bl tra_nil)) tr_int) (nomark _)) (trs_one (tr_ret tr_bl)) trs_nil) (trs_cons (tr_set (i := 10) sc.nd rfl (.inl rfl) (tr_strL (by kernel_rfl))) (trs_one (tr_ret (tr_and (tr_cmp (op_eqS hr.units) sem_eqS (tr_callG h_judged hgd (hr.mono (by decide)) tk rfl (tra_cons (tr_var 10) tra_nil)) (tr_tup (tra_cons tr_bl (tra_cons tr_bl (tra_cons tr_bl (tra_cons tr_bl (tra_cons tr_bl (tra_cons tr_bl tra_nil))))))) (nomark _)) (tr_one (tr_callG0 h__law_refused_right hgd (hr.mono (by decide)) tk rfl))))))))))))))))))))))))
  refine ⟨_, pss_cons (ps_set (i := 1) sc.nd rfl (.inl rfl) (pe_callSD (E := fun σ => WE (wOf E) σ) GB (hr.mono (by decide)) rfl gB FB.kp bB .nil (fun σ => passAt tk σ) (pa_cons (pv 0) pa_nil))) rest, ?_⟩
  obtain ⟨a, ns, rfl, hS, hz, hT, q⟩ := h
  exact ⟨.ref a, rfl, a, ns, rfl, hS, hz, fun S ca la H' cells lefts sm nS nca nla h1 h2 h3 hl h0 hne => law_restW en hz q hS sm nS nca nla h1 h2 h3 hl h0 hne hT⟩
end
end Lw
namespace Lw
open PySem PySem.Spec PyProof.Rows L2 PF Hd
theorem facts {P : Program} {w : World} {K : PySem.W.Frag} {h : Heap} {mg : Str → Option Value} {f : Addr} (en : LawEndsW g_law 10) (X : K.In h) (G : h.Ns mainGlobals mg) (hfa : mg ("law" : Str) = some (.ref f)) (c : SaysL fa fn ex h K) (ct : SaysTs ts w K) :
    ∃ fd : FuncData, (∀ (s : Shared) (v : Value), BindsTo s fd ⟨[v], []⟩ [("_law_script", v)]) ∧ ∀ base : Heap, K.In base → base.Ns mainGlobals mg → (∀ z ∈ tabC K, LamX.TabB base mg z.1 z.2.1) → FnG P w K mg base 14 f fd ["_law_script"] (spLaw K) := by
  obtain ⟨fd_is_integer, D_is_integer⟩ := c.d.def_ 0 (d := d_is_integer) rfl
  have gl_is_integer := He.glo_ok X G (c.fact 0 (f := .glo "is_integer") rfl)
  obtain ⟨fd_is_between, D_is_between⟩ := c.d.def_ 1 (d := d_is_between) rfl
  have gl_is_between := He.glo_ok X G (c.fact 1 (f := .glo "is_between") rfl)
  obtain ⟨fd_are_rising, D_are_rising⟩ := c.d.def_ 2 (d := d_are_rising) rfl
  have gl_are_rising := He.glo_ok X G (c.fact 2 (f := .glo "are_rising") rfl)
  obtain ⟨fd_need_prime, D_need_prime⟩ := c.d.def_ 3 (d := d_need_prime) rfl
  have gl_need_prime := He.glo_ok X G (c.fact 3 (f := .glo "need_prime") rfl)
  obtain ⟨fd_is_sign, D_is_sign⟩ := c.d.def_ 4 (d := d_is_sign) rfl
  have gl_is_sign := He.glo_ok X G (c.fact 4 (f := .glo "is_sign") rfl)
  obtain ⟨fd_are_signs, D_are_signs⟩ := c.d.def_ 5 (d := d_are_signs) rfl
  have gl_are_signs := He.glo_ok X G (c.fact 5 (f := .glo "are_signs") rfl)
  obtain ⟨fd_rest_of, D_rest_of⟩ := c.d.def_ 6 (d := d_rest_of) rfl
  have gl_rest_of := He.glo_ok X G (c.fact 6 (f := .glo "rest_of") rfl)
  obtain ⟨fd_value_in, D_value_in⟩ := c.d.def_ 7 (d := d_value_in) rfl
  have gl_value_in := He.glo_ok X G (c.fact 7 (f := .glo "value_in") rfl)
  obtain ⟨fd_inverse_in, D_inverse_in⟩ := c.d.def_ 8 (d := d_inverse_in) rfl
  have gl_inverse_in := He.glo_ok X G (c.fact 8 (f := .glo "inverse_in") rfl)
  obtain ⟨fd_times_root, D_times_root⟩ := c.d.def_ 9 (d := d_times_root) rfl
  have gl_times_root := He.glo_ok X G (c.fact 9 (f := .glo "times_root") rfl)
  obtain ⟨fd_through_in, D_through_in⟩ := c.d.def_ 10 (d := d_through_in) rfl
  have gl_through_in := He.glo_ok X G (c.fact 10 (f := .glo "through_in") rfl)
  obtain ⟨fd_is_laying, D_is_laying⟩ := c.d.def_ 11 (d := d_is_laying) rfl
  have gl_is_laying := He.glo_ok X G (c.fact 11 (f := .glo "is_laying") rfl)
  obtain ⟨fd_need_laying, D_need_laying⟩ := c.d.def_ 12 (d := d_need_laying) rfl
  have gl_need_laying := He.glo_ok X G (c.fact 12 (f := .glo "need_laying") rfl)
  obtain ⟨fd_profile_in, D_profile_in⟩ := c.d.def_ 13 (d := d_profile_in) rfl
  have gl_profile_in := He.glo_ok X G (c.fact 13 (f := .glo "profile_in") rfl)
  obtain ⟨fd_needs_in, D_needs_in⟩ := c.d.def_ 14 (d := d_needs_in) rfl
  have gl_needs_in := He.glo_ok X G (c.fact 14 (f := .glo "needs_in") rfl)
  obtain ⟨fd_is_pair, D_is_pair⟩ := c.d.def_ 15 (d := d_is_pair) rfl
  have gl_is_pair := He.glo_ok X G (c.fact 15 (f := .glo "is_pair") rfl)
  obtain ⟨fd_need_mail_of, D_need_mail_of⟩ := c.d.def_ 16 (d := d_need_mail_of) rfl
  have gl_need_mail_of := He.glo_ok X G (c.fact 16 (f := .glo "need_mail_of") rfl)
  obtain ⟨fd_need_mail, D_need_mail⟩ := c.d.def_ 17 (d := d_need_mail) rfl
  have gl_need_mail := He.glo_ok X G (c.fact 17 (f := .glo "need_mail") rfl)
  obtain ⟨fd_points_at, D_points_at⟩ := c.d.def_ 18 (d := d_points_at) rfl
  have gl_points_at := He.glo_ok X G (c.fact 18 (f := .glo "points_at") rfl)
  obtain ⟨fd_fits_at, D_fits_at⟩ := c.d.def_ 19 (d := d_fits_at) rfl
  have gl_fits_at := He.glo_ok X G (c.fact 19 (f := .glo "fits_at") rfl)
  obtain ⟨fd_unfit_in, D_unfit_in⟩ := c.d.def_ 20 (d := d_unfit_in) rfl
  have gl_unfit_in := He.glo_ok X G (c.fact 20 (f := .glo "unfit_in") rfl)
  obtain ⟨fd_read_in, D_read_in⟩ := c.d.def_ 21 (d := d_read_in) rfl
  have gl_read_in := He.glo_ok X G (c.fact 21 (f := .glo "read_in") rfl)
  obtain ⟨fd_suspects_in, D_suspects_in⟩ := c.d.def_ 22 (d := d_suspects_in) rfl
  have gl_suspects_in := He.glo_ok X G (c.fact 22 (f := .glo "suspects_in") rfl)
  obtain ⟨fd_lines_in, D_lines_in⟩ := c.d.def_ 23 (d := d_lines_in) rfl
  have gl_lines_in := He.glo_ok X G (c.fact 23 (f := .glo "lines_in") rfl)
  obtain ⟨fd_letter_in, D_letter_in⟩ := c.d.def_ 24 (d := d_letter_in) rfl
  have gl_letter_in := He.glo_ok X G (c.fact 24 (f := .glo "letter_in") rfl)
  obtain ⟨fd_pair_in, D_pair_in⟩ := c.d.def_ 25 (d := d_pair_in) rfl
  have gl_pair_in := He.glo_ok X G (c.fact 25 (f := .glo "pair_in") rfl)
  obtain ⟨fd_number_in, D_number_in⟩ := c.d.def_ 26 (d := d_number_in) rfl
  have gl_number_in := He.glo_ok X G (c.fact 26 (f := .glo "number_in") rfl)
  obtain ⟨fd_saying_in, D_saying_in⟩ := c.d.def_ 27 (d := d_saying_in) rfl
  have gl_saying_in := He.glo_ok X G (c.fact 27 (f := .glo "saying_in") rfl)
  obtain ⟨fd_count_in, D_count_in⟩ := c.d.def_ 28 (d := d_count_in) rfl
  have gl_count_in := He.glo_ok X G (c.fact 28 (f := .glo "count_in") rfl)
  obtain ⟨fd_parts_in, D_parts_in⟩ := c.d.def_ 29 (d := d_parts_in) rfl
  have gl_parts_in := He.glo_ok X G (c.fact 29 (f := .glo "parts_in") rfl)
  obtain ⟨fd_is_so, D_is_so⟩ := c.d.def_ 30 (d := d_is_so) rfl
  have gl_is_so := He.glo_ok X G (c.fact 30 (f := .glo "is_so") rfl)
  obtain ⟨fd_judged, D_judged⟩ := c.d.def_ 31 (d := d_judged) rfl
  have gl_judged := He.glo_ok X G (c.fact 31 (f := .glo "judged") rfl)
  obtain ⟨fd__law_mixed, D__law_mixed⟩ := c.d.def_ 32 (d := d__law_mixed) rfl
  have gl__law_mixed := He.glo_ok X G (c.fact 32 (f := .glo "_law_mixed") rfl)
  obtain ⟨fd__law_begin, D__law_begin⟩ := c.d.def_ 33 (d := d__law_begin) rfl
  have gl__law_begin := He.glo_ok X G (c.fact 33 (f := .glo "_law_begin") rfl)
  obtain ⟨fd__law_draw, D__law_draw⟩ := c.d.def_ 34 (d := d__law_draw) rfl
  have gl__law_draw := He.glo_ok X G (c.fact 34 (f := .glo "_law_draw") rfl)
  obtain ⟨fd__law_heard, D__law_heard⟩ := c.d.def_ 35 (d := d__law_heard) rfl
  have gl__law_heard := He.glo_ok X G (c.fact 35 (f := .glo "_law_heard") rfl)
  obtain ⟨fd__law_refused_right, D__law_refused_right⟩ := c.d.def_ 36 (d := d__law_refused_right) rfl
  have gl__law_refused_right := He.glo_ok X G (c.fact 36 (f := .glo "_law_refused_right") rfl)
  obtain ⟨fd_law, D_law⟩ := c.d.def_ 37 (d := d_law) rfl
  have gl_law := He.glo_ok X G (c.fact 37 (f := .glo "law") rfl)
  have m_list := He.free_ok X G (c.fact 54 (f := .free "list") rfl)
  have m_isinstance := He.free_ok X G (c.fact 55 (f := .free "isinstance") rfl)
  have m_int := He.free_ok X G (c.fact 56 (f := .free "int") rfl)
  have m_bool := He.free_ok X G (c.fact 57 (f := .free "bool") rfl)
  have m_all := He.free_ok X G (c.fact 58 (f := .free "all") rfl)
  have m_zip := He.free_ok X G (c.fact 59 (f := .free "zip") rfl)
  have m_tuple := He.free_ok X G (c.fact 60 (f := .free "tuple") rfl)
  have m_range := He.free_ok X G (c.fact 61 (f := .free "range") rfl)
  have m_enumerate := He.free_ok X G (c.fact 62 (f := .free "enumerate") rfl)
  have m_len := He.free_ok X G (c.fact 63 (f := .free "len") rfl)
  have m_sum := He.free_ok X G (c.fact 64 (f := .free "sum") rfl)
  have m_sorted := He.free_ok X G (c.fact 65 (f := .free "sorted") rfl)
  have m_str := He.free_ok X G (c.fact 66 (f := .free "str") rfl)
  have hex := c.more
  unfold ex at hex
  simp only [Bool.and_eq_true] at hex
  have c_PRIMES : CsIs K mg "PRIMES" k_PRIMES := cs_tup X G (c.fact 38 (f := .glo "PRIMES") rfl) hex.1.1.1.1.1.1.1.1.1.1.1.1.1.1.1.1.1.1 rfl
  have g_BadPrime := He.glo_ok X G (c.fact 67 (f := .glo "BadPrime") rfl)
  have g_BadLaying := He.glo_ok X G (c.fact 68 (f := .glo "BadLaying") rfl)
  have g_BadMail := He.glo_ok X G (c.fact 69 (f := .glo "BadMail") rfl)
  have g_BadText := He.glo_ok X G (c.fact 70 (f := .glo "BadText") rfl)
  have g_NestError := He.glo_ok X G (c.fact 71 (f := .glo "NestError") rfl)
  have xb_BadPrime : XB K (xName 4) "given" "ValueError.__new__" tlV := xB_ok (hex.1.1.1.1.1.1.1.1.1.1.1.1.1.1.1.1.1.2)
  obtain ⟨fdi_BadPrime, Di_BadPrime⟩ := c.d.def_ 38 (d := di_BadPrime) rfl
  have xb_BadLaying : XB K (xName 6) "given" "ValueError.__new__" tlV := xB_ok (hex.1.1.1.1.1.1.1.1.1.1.1.1.1.1.1.1.2)
  obtain ⟨fdi_BadLaying, Di_BadLaying⟩ := c.d.def_ 39 (d := di_BadLaying) rfl
  have xb_BadMail : XB K (xName 7) "given" "ValueError.__new__" tlV := xB_ok (hex.1.1.1.1.1.1.1.1.1.1.1.1.1.1.1.2)
  obtain ⟨fdi_BadMail, Di_BadMail⟩ := c.d.def_ 40 (d := di_BadMail) rfl
  have xb_BadText : XB2 K (xName 22) "line" "word" "ValueError.__new__" tlV := xB2_ok (hex.1.1.1.1.1.1.1.1.1.1.1.1.1.1.2)
  obtain ⟨fdi_BadText, Di_BadText⟩ := c.d.def_ 41 (d := di_BadText) rfl
  have b_NestError := hex.1.1.1.1.1.1.1.1.1.1.1.1.1.2
  have kd_NUMBERS : KdIs K w mg "NUMBERS" k_NUMBERS := kd_ofI (He.glo_ok X G (c.fact 73 (f := .glo "NUMBERS") rfl)) (ct.tab 0 rfl) (hex.1.1.1.1.1.1.1.1.1.1.1.1.2)
  have y_0 := ycB_ok (cl := 0) (hex.1.1.1.1.1.1.1.1.1.1.1.2)
  obtain ⟨fd_Words____init__, D_Words____init__⟩ := c.d.def_ 42 (d := d_Words____init__) rfl
  have t_Words____init__ := mkB_ok (cl := 0) (hex.1.1.1.1.1.1.1.1.1.1.2)
  obtain ⟨fd_Words__is_over, D_Words__is_over⟩ := c.d.def_ 43 (d := d_Words__is_over) rfl
  have t_Words__is_over := mtB_ok (cl := 0) (hex.1.1.1.1.1.1.1.1.1.2)
  obtain ⟨fd_Words__refuse, D_Words__refuse⟩ := c.d.def_ 44 (d := d_Words__refuse) rfl
  have t_Words__refuse := mtB_ok (cl := 0) (hex.1.1.1.1.1.1.1.1.2)
  obtain ⟨fd_Words__next_word, D_Words__next_word⟩ := c.d.def_ 45 (d := d_Words__next_word) rfl
  have t_Words__next_word := mtB_ok (cl := 0) (hex.1.1.1.1.1.1.1.2)
  obtain ⟨fd_Words__read_word, D_Words__read_word⟩ := c.d.def_ 46 (d := d_Words__read_word) rfl
  have t_Words__read_word := mtB_ok (cl := 0) (hex.1.1.1.1.1.1.2)
  obtain ⟨fd_Words__read_number, D_Words__read_number⟩ := c.d.def_ 47 (d := d_Words__read_number) rfl
  have t_Words__read_number := mtB_ok (cl := 0) (hex.1.1.1.1.1.2)
  obtain ⟨fd_Words__read_numbers, D_Words__read_numbers⟩ := c.d.def_ 48 (d := d_Words__read_numbers) rfl
  have t_Words__read_numbers := mtB_ok (cl := 0) (hex.1.1.1.1.2)
  obtain ⟨fd_Words__read_some, D_Words__read_some⟩ := c.d.def_ 49 (d := d_Words__read_some) rfl
  have t_Words__read_some := mtB_ok (cl := 0) (hex.1.1.1.2)
  obtain ⟨fd_Words__refuse_last, D_Words__refuse_last⟩ := c.d.def_ 50 (d := d_Words__refuse_last) rfl
  have t_Words__refuse_last := mtB_ok (cl := 0) (hex.1.1.2)
  obtain ⟨fd_Words__need_over, D_Words__need_over⟩ := c.d.def_ 51 (d := d_Words__need_over) rfl
  have t_Words__need_over := mtB_ok (cl := 0) (hex.1.2)
  have gy_Words := He.glo_ok X G (c.fact 72 (f := .glo "Words") rfl)
  have e_BadText_BadText : PySem.W.exmOne K (.ref (He.ga K (xName 22))) (.ref (He.ga K "BadText")) = some true := of_decide_eq_true (c.fact 74 (f := .exm "BadText" "BadText" true) rfl)
  have e_BadMail_BadText : PySem.W.exmOne K (.ref (He.ga K (xName 7))) (.ref (He.ga K "BadText")) = some false := of_decide_eq_true (c.fact 75 (f := .exm "BadMail" "BadText" false) rfl)
  have e_BadLaying_BadText : PySem.W.exmOne K (.ref (He.ga K (xName 6))) (.ref (He.ga K "BadText")) = some false := of_decide_eq_true (c.fact 76 (f := .exm "BadLaying" "BadText" false) rfl)
  have e_BadPrime_BadText : PySem.W.exmOne K (.ref (He.ga K (xName 4))) (.ref (He.ga K "BadText")) = some false := of_decide_eq_true (c.fact 77 (f := .exm "BadPrime" "BadText" false) rfl)
  have e_BadText_BadPrime : PySem.W.exmOne K (.ref (He.ga K (xName 22))) (.ref (He.ga K "BadPrime")) = some false := of_decide_eq_true (c.fact 78 (f := .exm "BadText" "BadPrime" false) rfl)
  have e_BadMail_BadPrime : PySem.W.exmOne K (.ref (He.ga K (xName 7))) (.ref (He.ga K "BadPrime")) = some false := of_decide_eq_true (c.fact 79 (f := .exm "BadMail" "BadPrime" false) rfl)
  have e_BadLaying_BadPrime : PySem.W.exmOne K (.ref (He.ga K (xName 6))) (.ref (He.ga K "BadPrime")) = some false := of_decide_eq_true (c.fact 80 (f := .exm "BadLaying" "BadPrime" false) rfl)
  have e_BadPrime_BadPrime : PySem.W.exmOne K (.ref (He.ga K (xName 4))) (.ref (He.ga K "BadPrime")) = some true := of_decide_eq_true (c.fact 81 (f := .exm "BadPrime" "BadPrime" true) rfl)
  have e_BadText_BadLaying : PySem.W.exmOne K (.ref (He.ga K (xName 22))) (.ref (He.ga K "BadLaying")) = some false := of_decide_eq_true (c.fact 82 (f := .exm "BadText" "BadLaying" false) rfl)
  have e_BadMail_BadLaying : PySem.W.exmOne K (.ref (He.ga K (xName 7))) (.ref (He.ga K "BadLaying")) = some false := of_decide_eq_true (c.fact 83 (f := .exm "BadMail" "BadLaying" false) rfl)
  have e_BadLaying_BadLaying : PySem.W.exmOne K (.ref (He.ga K (xName 6))) (.ref (He.ga K "BadLaying")) = some true := of_decide_eq_true (c.fact 84 (f := .exm "BadLaying" "BadLaying" true) rfl)
  have e_BadPrime_BadLaying : PySem.W.exmOne K (.ref (He.ga K (xName 4))) (.ref (He.ga K "BadLaying")) = some false := of_decide_eq_true (c.fact 85 (f := .exm "BadPrime" "BadLaying" false) rfl)
  have e_BadText_BadMail : PySem.W.exmOne K (.ref (He.ga K (xName 22))) (.ref (He.ga K "BadMail")) = some false := of_decide_eq_true (c.fact 86 (f := .exm "BadText" "BadMail" false) rfl)
  have e_BadMail_BadMail : PySem.W.exmOne K (.ref (He.ga K (xName 7))) (.ref (He.ga K "BadMail")) = some true := of_decide_eq_true (c.fact 87 (f := .exm "BadMail" "BadMail" true) rfl)
  have e_BadLaying_BadMail : PySem.W.exmOne K (.ref (He.ga K (xName 6))) (.ref (He.ga K "BadMail")) = some false := of_decide_eq_true (c.fact 88 (f := .exm "BadLaying" "BadMail" false) rfl)
  have e_BadPrime_BadMail : PySem.W.exmOne K (.ref (He.ga K (xName 4))) (.ref (He.ga K "BadMail")) = some false := of_decide_eq_true (c.fact 89 (f := .exm "BadPrime" "BadMail" false) rfl)
  have c_MOST_LETTERS : CsIs K mg "MOST_LETTERS" k_MOST_LETTERS := cs_int X G (c.fact 39 (f := .int "MOST_LETTERS" 8) rfl)
  have c_MOST_SHARE : CsIs K mg "MOST_SHARE" k_MOST_SHARE := cs_int X G (c.fact 40 (f := .int "MOST_SHARE" 6) rfl)
  have c_MOST_ROOM : CsIs K mg "MOST_ROOM" k_MOST_ROOM := cs_int X G (c.fact 41 (f := .int "MOST_ROOM" 12) rfl)
  have c_BLANK : CsIs K mg "BLANK" k_BLANK := cs_strL (by kernel_rfl) (cs_str X G (c.fact 42 (f := .str "BLANK" " ") rfl))
  have c_LINE_END : CsIs K mg "LINE_END" k_LINE_END := cs_strL (by kernel_rfl) (cs_str X G (c.fact 43 (f := .str "LINE_END" "\n") rfl))
  have c_NONE : CsIs K mg "NONE" k_NONE := cs_strL (by kernel_rfl) (cs_str X G (c.fact 44 (f := .str "NONE" "none") rfl))
  have c_COLON : CsIs K mg "COLON" k_COLON := cs_strL (by kernel_rfl) (cs_str X G (c.fact 45 (f := .str "COLON" ":") rfl))
  have c_FIGURES : CsIs K mg "FIGURES" k_FIGURES := cs_strL (by kernel_rfl) (cs_str X G (c.fact 46 (f := .str "FIGURES" "0123456789") rfl))
  have c_MOST_FIGURES : CsIs K mg "MOST_FIGURES" k_MOST_FIGURES := cs_int X G (c.fact 47 (f := .int "MOST_FIGURES" 4) rfl)
  have c_SOUND : CsIs K mg "SOUND" k_SOUND := cs_strL (by kernel_rfl) (cs_str X G (c.fact 48 (f := .str "SOUND" "sound") rfl))
  have c_KNOWN : CsIs K mg "KNOWN" k_KNOWN := cs_strL (by kernel_rfl) (cs_str X G (c.fact 49 (f := .str "KNOWN" "known") rfl))
  have c_SIGN : CsIs K mg "SIGN" k_SIGN := cs_strL (by kernel_rfl) (cs_str X G (c.fact 50 (f := .str "SIGN" "sign") rfl))
  have c_UNFIT : CsIs K mg "UNFIT" k_UNFIT := cs_strL (by kernel_rfl) (cs_str X G (c.fact 51 (f := .str "UNFIT" "unfit") rfl))
  have c_SUSPECT : CsIs K mg "SUSPECT" k_SUSPECT := cs_strL (by kernel_rfl) (cs_str X G (c.fact 52 (f := .str "SUSPECT" "suspect") rfl))
  have c_CAME : CsIs K mg "CAME" k_CAME := cs_strL (by kernel_rfl) (cs_str X G (c.fact 53 (f := .str "CAME" "came") rfl))
  have e := hfa.symm.trans gl_law
  cases e
  have b := FunD.bindsA (ps := ["_law_script"]) D_law fun _ _ _ _ _ _ us hl => match us, hl with | [_], _ => rfl
  refine ⟨fd_law, fun s v => b s [v] rfl, fun base _ _ tb => ?_⟩
  have ap := c.apart
  have x_BadPrime := xi_BadPrime (P := P) (w := w) (base := base) Di_BadPrime g_BadPrime xb_BadPrime g_NestError b_NestError
  have x_BadLaying := xi_BadLaying (P := P) (w := w) (base := base) Di_BadLaying g_BadLaying xb_BadLaying g_NestError b_NestError
  have x_BadMail := xi_BadMail (P := P) (w := w) (base := base) Di_BadMail g_BadMail xb_BadMail g_NestError b_NestError
  have x_BadText := xi_BadText (P := P) (w := w) (base := base) Di_BadText g_BadText xb_BadText g_NestError b_NestError
  have h_is_integer := ok_is_integer (P := P) (w := w) (base := base) D_is_integer gl_is_integer m_isinstance m_int m_bool
  have h_is_between := ok_is_between (P := P) (w := w) (base := base) D_is_between gl_is_between h_is_integer
  have h_are_rising := ok_are_rising (P := P) (w := w) (base := base) D_are_rising gl_are_rising m_all m_zip
  have h_need_prime := ok_need_prime (P := P) (w := w) (base := base) D_need_prime gl_need_prime c_PRIMES x_BadPrime h_is_integer
  have h_is_sign := ok_is_sign (P := P) (w := w) (base := base) D_is_sign gl_is_sign h_is_between
  have h_are_signs := ok_are_signs (P := P) (w := w) (base := base) D_are_signs gl_are_signs m_isinstance m_tuple m_all h_is_sign
  have h_rest_of := ok_rest_of (P := P) (w := w) (base := base) D_rest_of gl_rest_of m_int
  have h_value_in := ok_value_in (P := P) (w := w) (base := base) D_value_in gl_value_in h_rest_of
  have h_inverse_in := ok_inverse_in (P := P) (w := w) (base := base) D_inverse_in gl_inverse_in m_range h_rest_of
  have h_times_root := ok_times_root (P := P) (w := w) (base := base) D_times_root gl_times_root m_enumerate h_rest_of
  have h_through_in := ok_through_in (P := P) (w := w) (base := base) D_through_in gl_through_in m_len m_zip m_tuple h_rest_of h_times_root h_inverse_in
  have h_is_laying := ok_is_laying (P := P) (w := w) (base := base) D_is_laying gl_is_laying m_isinstance m_tuple m_len m_all m_sum c_MOST_LETTERS c_MOST_SHARE c_MOST_ROOM h_is_between
  have h_need_laying := ok_need_laying (P := P) (w := w) (base := base) D_need_laying gl_need_laying x_BadLaying h_is_laying
  have h_profile_in := ok_profile_in (P := P) (w := w) (base := base) D_profile_in gl_profile_in m_enumerate
  have h_needs_in := ok_needs_in (P := P) (w := w) (base := base) D_needs_in gl_needs_in m_enumerate m_int
  have h_is_pair := ok_is_pair (P := P) (w := w) (base := base) D_is_pair gl_is_pair m_isinstance m_tuple m_len m_sum h_is_between h_are_signs
  have h_need_mail_of := ok_need_mail_of (P := P) (w := w) (base := base) D_need_mail_of gl_need_mail_of m_isinstance m_tuple m_all x_BadMail h_is_pair h_are_rising
  have h_need_mail := ok_need_mail (P := P) (w := w) (base := base) D_need_mail gl_need_mail h_need_prime h_need_laying h_need_mail_of
  have h_points_at := ok_points_at (P := P) (w := w) (base := base) D_points_at gl_points_at 
  have h_fits_at := ok_fits_at (P := P) (w := w) (base := base) D_fits_at gl_fits_at m_len m_tuple m_all h_points_at h_through_in h_value_in
  have h_unfit_in := ok_unfit_in (P := P) (w := w) (base := base) D_unfit_in gl_unfit_in m_enumerate m_sorted h_needs_in h_fits_at
  have h_read_in := ok_read_in (P := P) (w := w) (base := base) D_read_in gl_read_in m_enumerate m_len m_tuple h_needs_in h_through_in h_points_at
  have h_suspects_in := ok_suspects_in (P := P) (w := w) (base := base) D_suspects_in gl_suspects_in m_tuple h_unfit_in
  have h_lines_in := ok_lines_in (P := P) (w := w) (base := base) D_lines_in gl_lines_in m_isinstance m_str c_LINE_END c_BLANK x_BadText
  have h_Words__is_over := ok_Words__is_over (P := P) (w := w) (base := base) D_Words__is_over t_Words__is_over y_0 m_len
  have h_Words__next_word := ok_Words__next_word (P := P) (w := w) (base := base) D_Words__next_word t_Words__next_word y_0 h_Words__is_over
  have h_Words__refuse := ok_Words__refuse (P := P) (w := w) (base := base) D_Words__refuse t_Words__refuse y_0 x_BadText
  have h_Words__read_word := ok_Words__read_word (P := P) (w := w) (base := base) D_Words__read_word t_Words__read_word y_0 h_Words__next_word h_Words__refuse
  have h_Words__need_over := ok_Words__need_over (P := P) (w := w) (base := base) D_Words__need_over t_Words__need_over y_0 h_Words__is_over h_Words__refuse
  have h_Words__read_number := ok_Words__read_number (P := P) (w := w) (base := base) D_Words__read_number t_Words__read_number y_0 h_Words__next_word h_Words__refuse m_len m_all m_int c_MOST_FIGURES c_FIGURES
  have h_Words__read_numbers := ok_Words__read_numbers (P := P) (w := w) (base := base) D_Words__read_numbers t_Words__read_numbers y_0 h_Words__read_number h_Words__is_over h_Words__need_over m_len m_tuple
  have h_Words__read_some := ok_Words__read_some (P := P) (w := w) (base := base) D_Words__read_some t_Words__read_some y_0 h_Words__next_word h_Words__need_over h_Words__read_numbers c_NONE
  have h_letter_in := ok_letter_in (P := P) (w := w) (base := base) D_letter_in gl_letter_in y_0 h_Words__read_word h_Words__read_some c_COLON c_MOST_ROOM
  have n_Words____init__ := ok_Words____init__ (P := P) (w := w) (base := base) D_Words____init__ t_Words____init__ gy_Words y_0
  have h_pair_in := ok_pair_in (P := P) (w := w) (base := base) D_pair_in gl_pair_in y_0 h_Words__read_number n_Words____init__ h_letter_in
  have h_number_in := ok_number_in (P := P) (w := w) (base := base) D_number_in gl_number_in y_0 h_Words__read_numbers n_Words____init__
  have h_saying_in := ok_saying_in (P := P) (w := w) (base := base) D_saying_in gl_saying_in y_0 h_Words__read_word h_Words__read_number h_Words__need_over n_Words____init__ kd_NUMBERS m_tuple m_range
  have h_Words__refuse_last := ok_Words__refuse_last (P := P) (w := w) (base := base) D_Words__refuse_last t_Words__refuse_last y_0 x_BadText
  have h_count_in := ok_count_in (P := P) (w := w) (base := base) D_count_in gl_count_in y_0 h_Words__read_number h_Words__refuse_last h_Words__need_over n_Words____init__ c_MOST_LETTERS
  have h_parts_in := ok_parts_in (P := P) (w := w) (base := base) D_parts_in gl_parts_in y_0 h_Words__read_numbers n_Words____init__ m_len m_tuple m_enumerate c_MOST_LETTERS x_BadText h_lines_in h_number_in h_count_in h_pair_in h_saying_in
  have h_is_so := ok_is_so (P := P) (w := w) (base := base) D_is_so gl_is_so m_len c_SOUND c_KNOWN c_SIGN c_UNFIT c_SUSPECT h_unfit_in h_profile_in h_read_in h_suspects_in
  have h_judged := ok_judged (P := P) (w := w) (base := base) D_judged gl_judged m_tuple h_parts_in h_need_prime h_need_laying h_need_mail h_is_so
  have h__law_mixed := ok__law_mixed (P := P) (w := w) (base := base) D__law_mixed gl__law_mixed m_int
  have h__law_draw := FnIs.toG (ok__law_draw (P := P) (w := w) (base := base) D__law_draw gl__law_draw m_int m_len h__law_mixed)
  have h__law_heard := ok__law_heard (P := P) (w := w) (base := base) D__law_heard gl__law_heard xb_BadText xb_BadPrime xb_BadLaying xb_BadMail g_BadText g_BadPrime g_BadLaying g_BadMail e_BadText_BadText e_BadMail_BadText e_BadLaying_BadText e_BadPrime_BadText e_BadText_BadPrime e_BadMail_BadPrime e_BadLaying_BadPrime e_BadPrime_BadPrime e_BadText_BadLaying e_BadMail_BadLaying e_BadLaying_BadLaying e_BadPrime_BadLaying e_BadText_BadMail e_BadMail_BadMail e_BadLaying_BadMail e_BadPrime_BadMail
  have h__law_refused_right := ok__law_refused_right (P := P) (w := w) (base := base) D__law_refused_right gl__law_refused_right rfl tb ap h__law_heard h_judged
  exact ok_law D_law D__law_begin gl__law_begin m_list en m_str m_int m_tuple m_range h__law_draw h_judged h__law_refused_right
end Lw
open PySem PySem.W PySem.Calls PyProof.Rows
set_option maxRecDepth 100000 in
set_option maxHeartbeats 0 in
theorem PySem.Challenge.cw_nestletters_k36_sheets_by_hand_holds : PySem.Challenge.rw_nestletters_k36_sheets_by_hand.Holds := by
  w_on; o_law
  refine HandSHeadRun.head_any (r := OpenLaw.row PySem.Challenge.rw_nestletters_k36_sheets_by_hand) (q := view (OpenLaw.row PySem.Challenge.rw_nestletters_k36_sheets_by_hand).prog [69]) (H := Lw.Hd.hk) (ob := Lw.Hd.ob) (M := 8000) (loose := Lw.Hd.names) (d := HandSHeadRun.topDef (OpenLaw.row PySem.Challenge.rw_nestletters_k36_sheets_by_hand).prog 69) (kwd := []) Lw.Hd.ob_eq
    (by kernel_rfl) (fun s => by kernel_rfl) Lw.Hd.run (by kernel_rfl) (by kernel_rfl) (by kernel_rfl) (by rfl) (by first | assumption | decide +kernel) (by decide +kernel) ⟨rfl, rfl, rfl, rfl, rfl, by decide +kernel⟩ ?hw ?hc
  case hw => w_witness2
  case hc =>
    refine PF.walk_tab (l := PySem.Challenge.rw_nestletters_k36_sheets_by_hand) (n := 63) (k := 14) (x := "_law_script") rfl (by decide) (by kernel_rfl) ⟨rfl, by decide, by decide⟩ ?F
    intro w mg fa h Y G hmg0
    obtain ⟨K, KX, c, ct⟩ := Y
    have hmg : mg ("law" : PySem.Str) = some (.ref fa) := by
      have e : (HandSHeadRun.topDef (OpenLaw.row PySem.Challenge.rw_nestletters_k36_sheets_by_hand).prog 69).name = ("law" : PySem.Str) := by kernel_rfl
      rw [← e]
      exact hmg0
    obtain ⟨fd, hb, hF⟩ := Lw.facts (P := (PySem.Challenge.rw_nestletters_k36_sheets_by_hand).prog) (w := w) Lw.law_ends KX G hmg c ct
    exact ⟨K, fd, PF.spLaw K, KX, hb, c.empty, c.out, c.hd, fun H a ns hl hT hS => ⟨a, ns, rfl, hS, hl, hT, fun _ => rfl⟩, hF⟩
